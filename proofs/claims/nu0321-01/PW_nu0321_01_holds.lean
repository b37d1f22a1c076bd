import PyProof.Rows.All
import Wide.All
import OpenK.AllK
import Wide.FinOn
import PySem.Challenge.RW_nu0321_01
set_option Elab.async false
set_option maxRecDepth 100000
set_option maxHeartbeats 8000000

section
open PySem PySem.W PyProof.Rows

namespace Mine
theorem cutr {A B C D : Prop} (hl : A) (hw : B) (hc : C) (main : D) : D := main
theorem hd (hF : False) : (OpenLaw.row PySem.Challenge.rw_nu0321_01).Holds := by
  have said : (OpenLaw.row PySem.Challenge.rw_nu0321_01).wellSaid = true := hF.elim
  apply cutr
  case main => w_on; k_head
  case hl => exact hF.elim
  case hw => exact hF.elim
  case hc => exact hF.elim
end Mine
end

section
open PySem PySem.W PyProof.Rows PySem.Calls

namespace Mine
/-- keeps a walk from looking into an invariant -/
def Box (P : Prop) : Prop := P
theorem box {P : Prop} (h : P) : Box P := h
theorem unbox {P : Prop} (h : Box P) : P := h

abbrev PR : Program := PySem.Challenge.rw_nu0321_01.row.prog

structure Gr (w : World) (mean : ExcName → Option Value) (mg mb : Str → Option Value) (base : Heap) : Prop where
  K : (hd.heap_1 w.params).In base
  T : Top hd.view_1 (looseW hd.view_1 []) mean mg mb base

/-- where a call stands: n more frames may be entered -/
structure At (base : Heap) (A : Around) (l : List Env) (n : Nat) (h : Heap) : Prop where
  stack : A.frames = some l
  calm : A.handled = none
  room : A.depth + 3 * n < 1000
  units : A.units + 60 * n < 9900
  stays : base.StaysIn h
  frames : h.FunFrames base l

theorem At.below {base : Heap} {A : Around} {l : List Env} {n : Nat} {h : Heap} (C : At base A l n h) : Below A base l h := ⟨C.stack, C.stays, C.frames⟩

/-- a mutable core: there, not of the base, no frame -/
def Core (base : Heap) (l : List Env) (h : Heap) (core : List (Addr × Obj)) : Prop :=
  ∀ p ∈ core, h.get? p.1 = some p.2 ∧ base.get? p.1 = none ∧ p.1 ∉ l.filterMap (·.frame)

theorem enter {w : World} {mean : ExcName → Option Value} {mg mb : Str → Option Value} {base : Heap} {A : Around} {l : List Env} {n : Nat} {s : Shared} {core : List (Addr × Obj)}
    {R : Result → Shared → Prop} {name qual : Str} {params : Arguments} {body : List Stmt} {scope : Scope} {dV kV doc pm cdv ct oc : Value} {an od : Option Addr} {osl : Array (Option Value)} {f : Addr} {args : Args} {binds : List (Str × Value)}
    (G : Gr w mean mg mb base) (C : At base A l (n + 1) s.heap) (co : Core base l s.heap core)
    (ho : (hd.heap_1 w.params).lookup f = some ⟨oc, od, .func (fnOf name qual params body scope dV kV doc pm an cdv ct), osl⟩) (hcd : codeIn (hd.heap_1 w.params) cdv qual = true)
    (hbind : BindsTo s (fnOf name qual params body scope dV kV doc pm an cdv ct) args binds) (hloc : ∀ y ∈ binds, scope.names.lookup y.1 = some .local)
    (h : ∀ g h₁, Fr g s.heap.objs.size h₁ (fun y => binds.reverse.lookup y) → News g s.heap.objs.size h₁ core → Below A base l g → (hd.heap_1 w.params).In g → Top hd.view_1 (looseW hd.view_1 []) mean mg mb g →
      (∀ b o, s.heap.get? b = some o → b ∉ core.map (·.1) → g.get? b = some o) → (∀ b o, g.get? b = some o → s.heap.get? b = some o) →
      At base (A.deeper (envOf qual scope s.heap.objs.size f cdv)) (envOf qual scope s.heap.objs.size f cdv :: l) n h₁ →
      wpAny (model PR w) (A.deeper (envOf qual scope s.heap.objs.size f cdv)) (execs body (envOf qual scope s.heap.objs.size f cdv))
        (fun fl s' => R (.ok (.ret (match fl with | .ret v => v | _ => .none))) s')
        (fun e s' => wpAny (model PR w) (A.deeper (envOf qual scope s.heap.objs.size f cdv)) (leaving (envOf qual scope s.heap.objs.size f cdv) e) (fun _ s'' => R (.error e) s'') (fun e' s'' => R (.error e') s'') s')
        { s with heap := h₁, toks := s.toks + binds.length })
    (hco : scope.isCoroutine = false := by rfl) (hgen : scope.isGenerator = false := by rfl) (hk : scope.kind = .function := by rfl)
    (hcell : ∀ x ∈ scope.names, x.2 ≠ .cell := by decide) : codeAny (model PR w) A (.call (.ref f) args) R s := by
  have X : (hd.heap_1 w.params).In s.heap := G.K.keeps C.stays
  have hbase : ∀ b o, base.get? b = some o → b ∉ core.map (·.1) := fun b o e q => by
    obtain ⟨p, hp, rfl⟩ := List.mem_map.mp q
    rw [(co p hp).2.1] at e; cases e
  have st : base.StaysIn (hideAll s.heap (core.map (·.1))) := fun b o e => hideAll_get _ (C.stays b o e) (hbase b o e)
  refine codeAny_call_def (fd := fnOf name qual params body scope dV kV doc pm an cdv ct) (body := body) (binds := binds) (by have := C.room; simp only [recursionLimit]; omega) (X _ _ ho) rfl (G.T.nolimit.keeps C.stays) (codeRec_of X hcd) rfl hbind hcell hloc (fun h₁ hns hk₁ => ?_) hco hgen hk
  have FF : (hideAll s.heap (core.map (·.1))).FunFrames base l := funFrames_hideAll C.frames fun env he b hb hf => by
    obtain ⟨p, hp, rfl⟩ := List.mem_map.mp hb
    exact (co p hp).2.2 (List.mem_filterMap.mpr ⟨env, he, hf⟩)
  have F' : Fr (hideAll s.heap (core.map (·.1))) s.heap.objs.size h₁ (fun y => binds.reverse.lookup y) := ⟨hns, fun b o e => hk₁ b o (of_hideAll _ e), Nat.le_of_eq (hideAll_size _ _)⟩
  have B' : Below A base l (hideAll s.heap (core.map (·.1))) := ⟨C.stack, st, FF⟩
  have P := B'.push (name := qual) (scope := scope) (a := f) (cd := cdv) F' hk
  refine h _ h₁ F' (fun p hp => ⟨hk₁ _ _ (co p hp).1, Nat.ne_of_lt (Heap.lt_size (co p hp).1), hideAll_none _ (List.mem_map_of_mem hp)⟩) B'
    (G.K.keeps st) (G.T.keeps st) (fun b o e nb => hideAll_get _ e nb) (fun b o e => of_hideAll _ e)
    ⟨P.stack, ?_, ?_, ?_, P.stays, P.frames⟩
  · exact C.calm
  · have := C.room; simp only [Around.deeper]; omega
  · have := C.units; simp only [Around.deeper]; omega
theorem fill : PySem.Challenge.rw_nu0321_01 = PySem.Challenge.rw_nu0321_01 ∧ hd.heap_1 = hd.heap_1 := by
  k_fill
  w_top off
  exact ⟨rfl, rfl⟩

/-- the heap goes on: only what is in W may have changed -/
def Kp (W : List Addr) (h h' : Heap) : Prop := h.objs.size ≤ h'.objs.size ∧ ∀ b o, h.get? b = some o → b ∉ W → h'.get? b = some o
theorem Kp.refl (W : List Addr) (h : Heap) : Kp W h h := ⟨Nat.le_refl _, fun _ _ e _ => e⟩
theorem Kp.trans {W : List Addr} {h₁ h₂ h₃ : Heap} (x : Kp W h₁ h₂) (y : Kp W h₂ h₃) : Kp W h₁ h₃ := ⟨Nat.le_trans x.1 y.1, fun b o e n => y.2 b o (x.2 b o e n) n⟩
theorem Kp.then {W V : List Addr} {h₁ h₂ h₃ : Heap} (x : Kp W h₁ h₂) (y : Kp V h₂ h₃) (hV : ∀ a ∈ V, a ∈ W ∨ h₁.get? a = none) : Kp W h₁ h₃ :=
  ⟨Nat.le_trans x.1 y.1, fun b o e n => y.2 b o (x.2 b o e n) fun q => (hV b q).elim n fun z => by rw [e] at z; cases z⟩
theorem none_of_le {h : Heap} {a : Addr} (e : h.objs.size ≤ a) : h.get? a = none := Heap.get?_none_of_le e
theorem Kp.mono {W V : List Addr} {h h' : Heap} (x : Kp W h h') (k : ∀ a ∈ W, a ∈ V) : Kp V h h' := ⟨x.1, fun b o e n => x.2 b o e fun q => n (k b q)⟩
theorem Kp.fr {W : List Addr} {h h' g : Heap} {L : Addr} {m : Str → Option Value} (x : Kp W h h') (F : Fr g L h m) (hL : L ∉ W) (hW : ∀ a ∈ W, g.get? a = none) : Fr g L h' m := by
  obtain ⟨⟨o, es, ep, ho, r⟩, k, a⟩ := F
  exact ⟨⟨o, es, ep, x.2 _ _ ho hL, r⟩, fun b o e => x.2 b o (k b o e) fun q => (by rw [hW b q] at e; cases e), a⟩
theorem Kp.news {W : List Addr} {h h' g : Heap} {L : Addr} {news : List (Addr × Obj)} (x : Kp W h h') (N : News g L h news) (hn : ∀ p ∈ news, p.1 ∉ W) : News g L h' news :=
  fun p hp => ⟨x.2 _ _ (N p hp).1 (hn p hp), (N p hp).2⟩
theorem Kp.at {W : List Addr} {h h' base : Heap} {A : Around} {l : List Env} {n : Nat} (x : Kp W h h') (C : At base A l n h) (hb : ∀ a ∈ W, base.get? a = none) (hl : ∀ a ∈ W, a ∉ l.filterMap (·.frame)) : At base A l n h' :=
  ⟨C.stack, C.calm, C.room, C.units, fun b o e => x.2 b o (C.stays b o e) fun q => (by rw [hb b q] at e; cases e), by
    have := C.frames
    clear C
    induction l with
    | nil => trivial
    | cons env r ih =>
      obtain ⟨hk, ⟨L, o, hf, hn, ho, hd⟩, hr⟩ := this
      refine ⟨hk, ⟨L, o, hf, hn, x.2 _ _ ho fun q => hl L q ?_, hd⟩, ih (fun a ha q => hl a ha ?_) hr⟩
      · simp [hf]
      · simp only [List.filterMap_cons, hf]; exact List.mem_cons_of_mem _ q⟩
theorem At.less {base : Heap} {A : Around} {l : List Env} {n k : Nat} {h : Heap} (C : At base A l n h) (hk : k ≤ n := by omega) : At base A l k h :=
  ⟨C.stack, C.calm, (by have := C.room; omega), (by have := C.units; omega), C.stays, C.frames⟩
theorem Core.kp {W : List Addr} {base h h' : Heap} {l : List Env} {core : List (Addr × Obj)} (co : Core base l h core) (x : Kp W h h') (hn : ∀ p ∈ core, p.1 ∉ W) : Core base l h' core :=
  fun p hp => ⟨x.2 _ _ (co p hp).1 (hn p hp), (co p hp).2⟩
/-- a core in the frame that was entered -/
theorem Core.deeper {base g h : Heap} {l : List Env} {core core' : List (Addr × Obj)} {name : Str} {scope : Scope} {L a : Addr} {cd : Value} {h' : Heap}
    (co : Core base l h core) (N : News g L h' core') (hs : ∀ p ∈ core', ∃ q ∈ core, q.1 = p.1) : Core base (envOf name scope L a cd :: l) h' core' := fun p hp => by
  obtain ⟨q, hq, e⟩ := hs p hp
  refine ⟨(N p hp).1, e ▸ (co q hq).2.1, ?_⟩
  show p.1 ∉ L :: l.filterMap (·.frame)
  intro hm
  rcases List.mem_cons.mp hm with hm | hm
  · exact (N p hp).2.1 hm
  · exact (co q hq).2.2 (e ▸ hm)
theorem Core.of_news {base h g : Heap} {l : List Env} {L : Addr} {core : List (Addr × Obj)} {A : Around} (B : Below A base l g) (N : News g L h core) : Core base l h core := fun p hp => by
  refine ⟨(N p hp).1, ?_, fun hm => ?_⟩
  · cases q : base.get? p.1 with
    | none => rfl
    | some o => have := B.stays _ _ q; rw [(N p hp).2.2] at this; cases this
  · obtain ⟨o, ho, _⟩ := (B.frames.mem hm).2
    rw [(N p hp).2.2] at ho; cases ho

/-- a FormatError flies -/
def Ex (base : Heap) (l : List Env) (W : List Addr) (h h' : Heap) (e : Addr) : Prop :=
  (∃ a0, Heap.FlyingW base l e (.ref 51) a0 h') ∧ ∀ b o, h.get? b = some o → b ∉ W → (∀ vs, o.data ≠ .fields vs) → ∃ sl, h'.get? b = some { o with slots := sl }
theorem Ex.before {base h₀ h h' : Heap} {l : List Env} {W : List Addr} {e : Addr} (x : Ex base l W h h' e) (k : Kp W h₀ h) : Ex base l W h₀ h' e :=
  ⟨x.1, fun b o q nb hd => x.2 b o (k.2 b o q nb) nb hd⟩
theorem Ex.mono {base h h' : Heap} {l : List Env} {W V : List Addr} {e : Addr} (x : Ex base l W h h' e) (k : ∀ a ∈ W, a ∈ V) : Ex base l V h h' e :=
  ⟨x.1, fun b o q nb hd => x.2 b o q (fun z => nb (k b z)) hd⟩
theorem leave_ex {M : Model} {A : Around} {E : Value → Shared → Prop} {s : Shared} {base h : Heap} {l : List Env} {W : List Addr} {L a e : Addr} {name : Str} {scope : Scope} {cd : Value} {Q : Unit → Shared → Prop}
    (hA : A.frames = some l) (x : Ex base (envOf name scope L a cd :: l) W h s.heap e) (k : ∀ h', Ex base l W h h' e → Q () { s with heap := h' }) :
    wpAny M (A.deeper (envOf name scope L a cd)) (leaving (envOf name scope L a cd) (.ref e)) Q E s := by
  obtain ⟨⟨a0, fl⟩, up⟩ := x
  refine wpAny_leaves_onW (Around.frames_deeper hA) rfl fl fun h' f' u => k h' ⟨⟨a0, f'⟩, fun b o q nb hd => ?_⟩
  obtain ⟨sl, e1⟩ := up b o q nb hd
  exact u _ { o with slots := sl } e1 hd
theorem kp_of_enter {s : Shared} {g h₁ : Heap} {L : Addr} {m : Str → Option Value} {core : List (Addr × Obj)} (F : Fr g L h₁ m) (e : L = s.heap.objs.size) (kp : ∀ b o, s.heap.get? b = some o → b ∉ core.map (·.1) → g.get? b = some o) : Kp (core.map (·.1)) s.heap h₁ :=
  ⟨Nat.le_of_lt (e ▸ F.ns.lt), fun b o q n => F.keep b o (kp b o q n)⟩
end Mine
end

section
open PySem PySem.W PyProof.Rows PySem.Calls

namespace Mine

variable {w : World} {mean : ExcName → Option Value} {mg mb : Str → Option Value} {base : Heap} {A : Around} {l : List Env} {s : Shared}

abbrev ent (w : World) (n : Str) (t : Tok) (v : Value) : DictEntry := ⟨PyData.keyHash w.params n, .str n t, v⟩

theorem exc_setattr {e : Addr} {ox : Obj} {od : Option Obj} {name : Str} {tk : Tok} {v : Value} {R : Result → Shared → Prop} {cd : ClassData}
    (X : (hd.heap_1 w.params).In s.heap) (I : InstAt s.heap e ox 51 od) (hc : clsIn (hd.heap_1 w.params) 51 = some cd)
    (hm : cd.mro = [.ref 51, .ref 31, .type "Exception", .type "BaseException", .type "object"]) (ht : takerIn (hd.heap_1 w.params) 51 name = some none)
    (h : ∀ b, wpAny (model PR w) A.in1 (Builtin.ObjectAttr.storeInOwnDict (.ref e) (.ref 51) (.str name tk) name v b)
      (fun fin s' => match fin with | .done f => R (.ok f) s' | .again c' => c'.quiet = true ∧ codeAny (model PR w) A c' R s') (fun e s' => R (.error e) s') s) :
    codeAny (model PR w) A (.call (.builtin "object.__setattr__") ⟨[.ref e, .str name tk, v], []⟩) R s := by
  have SF := PySem.F.store_Exception
  have sub : Looks (model PR w) s.heap (isInstance (.ref e) (.type "object")) true := I.type.andThen (looks_mroIn X (by unfold mroIn; rw [hc, Option.bind_some, hm]; rfl))
  refine codeAny_call_builtin SF.slot.plain SF.entry (@check_slot (model PR w) _ _ s "object.__setattr__" "object" "__setattr__" (.ref e) [.str name tk, v] [] _ SF.kind SF.split sub (SF.args (.ref e) (.str name tk) v) ?_)
  obtain ⟨attr, ha, hr⟩ := Option.bind_eq_some_iff.mp ht
  have hm' : Looks (model PR w) s.heap (mroOf (.ref 51)) cd.mro := (looks_clsIn X hc).andThen .now
  have L3 : Looks (model PR w) s.heap (Builtin.ObjectAttr.storeTaker? attr) none := by
    cases attr with
    | none => exact .now
    | some a =>
      obtain ⟨b, hb, q⟩ := Option.map_eq_some_iff.mp hr
      refine (looks_takesIn X hb).andThen ?_
      cases b
      · exact .now
      · cases q
  rw [osa_eq, refuse_eq]
  refine wpAny_bind (wpAny_bind (I.type.here (wpAny_bind (hm'.here ?_))))
  rw [hm, refuseLoop_ref, refuseLoop_ref, SF.passes]
  exact wpAny_pure (wpAny_bind (I.type.here (wpAny_bind ((looks_findIn X ha).here (wpAny_bind (L3.here (h _)))))))

/-- the exception as it lies -/
abbrev excObj (d : Option Addr) (T : Addr) : Obj := { cls := .ref 51, dict := d, data := .fields #[.ref T, .none, .none, .none, .bool false, .none] }

theorem nsSet_dict {D : Addr} {es : List DictEntry} {n : Nat} {name : Str} {v : Value} {M : Model} {E : Value → Shared → Prop} {Q : Unit → Shared → Prop}
    (hD : s.heap.get? D = some (dictOf es n)) (hk : (getL name es).isSome = true)
    (h : Q () { s with heap := s.heap.update D (Obj.putName name (PyData.keyHash M.w.params name) (.str name s.toks) v), toks := s.toks + 1 }) :
    wpAny M A (nsSet D name v) Q E s := by
  unfold nsSet
  refine wpAny_bind (wpAny_bind (wpAny_askSetting (wpAny_pure (wpAny_bind (wpAny_mkText (wpAny_bind (wpAny_loadPart hD ?_)))))))
  dsimp only
  have c : (!es.toArray.any (·.key.isStr name) && es.toArray.any (·.refKey)) = false := by
    simp only [List.any_toArray]
    unfold getL at hk
    split at hk
    · rename_i en he
      rw [List.any_eq_true.mpr ⟨en, List.mem_of_find?_eq_some he, List.find?_some he⟩]; rfl
    · split at hk
      · cases hk
      · rename_i z; rw [Bool.not_eq_true] at z; rw [z, Bool.and_false]
  rw [aRefKeyMayBeTheName_at, c]
  exact wpAny_updatePart hD h

theorem getL_nil (name : Str) : (getL name []).isSome = true := rfl
theorem exc_set_first {e T : Addr} {name : Str} {v : Value} {E : Value → Shared → Prop} {Q : Unit → Shared → Prop}
    (X : (hd.heap_1 w.params).In s.heap) (he : s.heap.get? e = some (excObj none T)) (ht : takerIn (hd.heap_1 w.params) 51 name = some none)
    (h : ∀ h' D tk tk', D = s.heap.objs.size → Kp [e] s.heap h' → h'.get? e = some (excObj (some D) T) → h'.get? D = some (dictOf [ent w name tk v] 1) → Q () { s with heap := h', toks := tk' }) :
    wpAny (model PR w) A (setAttr (.ref e) name v) Q E s := by
  have I : InstAt s.heap e (excObj none T) 51 none := ⟨he, rfl, rfl, trivial⟩
  refine set_plain X I (by k_is) ?_
  refine exc_setattr (s := { s with toks := s.toks + 1 }) X I (by k_is) rfl ht fun b => ?_
  refine wpAny_bind (wpAny_pure (wpAny_bind (wpAny_bind (wpAny_loadPart he (wpAny_bind (looks_clsIn (C := 51) X (by k_is) _ _ _ _ (fun _ _ e => e) ?_))))))
  dsimp only
  have hlt := Heap.lt_size he
  have he₁ : (s.heap.push (dictOf [] 0)).get? e = some (excObj none T) := Heap.get?_push_of_some _ he
  have hne : e ≠ s.heap.objs.size := Nat.ne_of_lt hlt
  refine wpAny_bind (wpAny_alloc (wpAny_bind (wpAny_update he₁ ?_)))
  have hD : ((s.heap.push (dictOf [] 0)).update e fun o => { cls := o.cls, dict := some s.heap.objs.size, data := o.data, slots := o.slots }).get? s.heap.objs.size = some (dictOf [] 0) :=
    (Heap.get?_update_ne _ _ _ _ hne.symm).trans (Heap.get?_push_at rfl rfl)
  refine wpAny_pure (wpAny_bind (wpAny_pure (wpAny_bind ?_)))
  refine nsSet_dict hD (getL_nil _) ?_
  have hput : Obj.putName name (PyData.keyHash w.params name) (.str name (s.toks + 1)) v (dictOf [] 0) = dictOf [ent w name (s.toks + 1) v] 1 := by rw [putName_dict]; rfl
  have hD' := Heap.get?_update_self (Obj.putName name (PyData.keyHash w.params name) (.str name (s.toks + 1)) v) hD (by rw [hput]; rfl)
  rw [hput] at hD'
  refine wpAny_bind (wpAny_lookBehind hD' (pastItsLine_dict (by rw [List.size_toArray, sizeLine_eq]; simp)) ?_)
  refine wpAny_pure (h _ _ _ _ rfl ⟨?_, fun b o q nb => ?_⟩ ?_ hD')
  · rw [Heap.size_after_update, Heap.size_after_update, Heap.size_push]; exact Nat.le_succ _
  · have hb := Nat.ne_of_lt (Heap.lt_size q)
    rw [Heap.get?_update_ne _ _ _ _ hb, Heap.get?_update_ne _ _ _ _ (by simpa using nb)]
    exact Heap.get?_push_of_some _ q
  · rw [Heap.get?_update_ne _ _ _ _ hne, Heap.get?_update_self _ he₁ rfl]
theorem exc_set_next {e T D : Addr} {n : Nat} {es : List DictEntry} {name : Str} {v : Value} {E : Value → Shared → Prop} {Q : Unit → Shared → Prop}
    (X : (hd.heap_1 w.params).In s.heap) (he : s.heap.get? e = some (excObj (some D) T)) (hD : s.heap.get? D = some (dictOf es n)) (ht : takerIn (hd.heap_1 w.params) 51 name = some none)
    (hk : (getL name es).isSome = true) (hz : es.length ≤ 1000)
    (h : ∀ h' tk', Kp [D] s.heap h' → Q () { s with heap := h', toks := tk' }) :
    wpAny (model PR w) A (setAttr (.ref e) name v) Q E s := by
  have I : InstAt s.heap e (excObj (some D) T) 51 (some (dictOf es n)) := ⟨he, rfl, rfl, hD⟩
  refine set_plain X I (by k_is) ?_
  refine exc_setattr (s := { s with toks := s.toks + 1 }) X I (by k_is) rfl ht fun b => ?_
  refine wpAny_bind (wpAny_pure (wpAny_bind (wpAny_bind (wpAny_loadPart he (wpAny_bind (looks_clsIn (C := 51) X (by k_is) _ _ _ _ (fun _ _ e => e) ?_))))))
  dsimp only
  refine wpAny_pure (wpAny_bind (wpAny_pure (wpAny_bind ?_)))
  refine nsSet_dict hD hk ?_
  have hput := putName_dict name (PyData.keyHash w.params name) (.str name (s.toks + 1)) v es n
  have hD' := Heap.get?_update_self (Obj.putName name (PyData.keyHash w.params name) (.str name (s.toks + 1)) v) hD (by rw [hput]; rfl)
  rw [hput] at hD'
  have hlen : (putL name (PyData.keyHash w.params name) (.str name (s.toks + 1)) v es).length ≤ es.length + 1 := by
    clear hput hD' hk hz I hD
    induction es with
    | nil => exact Nat.le_refl _
    | cons a r ih => unfold putL; split <;> simp only [List.length_cons] <;> omega
  refine wpAny_bind (wpAny_lookBehind hD' (pastItsLine_dict (by rw [List.size_toArray, sizeLine_eq]; omega)) ?_)
  refine wpAny_pure (h _ _ ⟨?_, fun b o q nb => ?_⟩)
  · rw [Heap.size_after_update]; exact Nat.le_refl _
  · rw [Heap.get?_update_ne _ _ _ _ (by simpa using nb)]; exact q

abbrev fmtBm : List Value := [.ref 31, .type "Exception", .type "BaseException", .type "object"]
theorem fmt_cls {h : Heap} (X : (hd.heap_1 w.params).In h) : ∃ k0 k1 k2 k3 k5, h.get? 51 = some (excClassObj "FormatError" "FormatError" 51 50 [.ref 31] fmtBm true [] [] false none none k0 k1 k2 k3 k5 "Exception.__new__") :=
  ⟨_, _, _, _, _, X 51 _ (by k_is)⟩
theorem fmt_tail {h : Heap} (X : (hd.heap_1 w.params).In h) : OwnTail h [.type "Exception", .type "BaseException", .type "object"] fmtBm := by
  have e : nsOkIn (hd.heap_1 w.params) 30 = true := by kernel_rfl
  have q : nsIn (hd.heap_1 w.params) 30 "__init__" = some none := by k_is
  exact OwnTail.own (X 31 _ (by k_is)) (.of_isNs (isNs_of_in X e)) (nsMap_none_of_in X e q) .base

section
variable {E : Value → Shared → Prop} {h : Heap} {g : Array GenState} {d : Drawn} {t : Nat} {os : OsState}
theorem fmt_type_call {rest : List Value} {Q : Fin → Shared → Prop} (X : (hd.heap_1 w.params).In h)
    (hq : ∀ h' e, Heap.MadeExcOf h h' e (.ref 51) rest → e = h.objs.size + 1 →
      wpAny (model PR w) A (call (.ref 48) (.ref e :: rest)) (fun r s' => r = .none ∧ Q (.done (.ret (.ref e))) s') E ⟨h', g, d, t, os⟩) (hrest : rest.length ≤ sizeLine := by size_fits) :
    wpAny (model PR w) A (Builtin.«type.__call__» ⟨.ref 51 :: rest, []⟩) Q E ⟨h, g, d, t, os⟩ := by
  obtain ⟨k0, k1, k2, k3, k5, hC⟩ := fmt_cls X
  have F := PySem.F.excBase_Exception
  have T := fmt_tail X
  repeat (first | with_reducible refine wpAny_loadPart_at hC ?_ | with_reducible refine wpAny_madeBy_exc hC ?_ | wp_step)
  refine codeAny_call_builtin_code (Code.quiet_builtin _ F.quiet) (wpAny_check_new_subT F T hC ?_)
  refine codeAny_exc_new_subT F T hC ?_ hrest
  show wpAny _ _ _ _ _ _
  have k : ∀ b o, h.get? b = some o → ((h.push { cls := .type "tuple", data := .seq rest.toArray }).push (excObj none h.objs.size)).get? b = some o := fun b o e => Heap.get?_push_of_some _ (Heap.get?_push_of_some _ e)
  have hC₁ := k _ _ hC
  have X₁ := X.keeps k
  have hget : ((h.push { cls := .type "tuple", data := .seq rest.toArray }).push (excObj none h.objs.size)).get? (h.objs.size + 1) = some (excObj none h.objs.size) := by heap_get
  have hcC : (Value.ref 51 :: fmtBm).contains (.ref 51) = true := by simp
  unfold isInstance
  repeat (first | with_reducible refine wpAny_loadPart_at hget ?_ | (with_reducible refine wpAny_isSubtype_exc hC₁ ?_; rw [hcC]) | wp_step)
  show wpAny _ _ (typeLookup (.ref 51) _) _ _ _
  refine (looks_findIn (t := .ref 51) (r := some (.ref 48)) X₁ (by k_is)).here ?_
  refine wpAny_holding (wpAny_bind ((bind_fn (f := 48) X₁ _ (by k_is)).here ?_))
  refine wpAny_bind (wpAny_mono (hq _ (h.objs.size + 1) ⟨k, Heap.get?_none_of_le (Nat.le_succ _), h.objs.size, hget, Heap.get?_none_of_le (Nat.le_refl _), ?_⟩ rfl) (fun r s' hr => ?_) fun _ _ x => x)
  · exact Heap.get?_push_of_some _ (Heap.get?_push_at rfl rfl)
  · obtain ⟨rfl, hQ⟩ := hr
    wp_walk
    exact hQ

theorem fmt_new {rest : List Value} {Q : Value → Shared → Prop} (X : (hd.heap_1 w.params).In h)
    (hq : ∀ h' e, Heap.MadeExcOf h h' e (.ref 51) rest → e = h.objs.size + 1 →
      wpAny (model PR w) (A.under (.builtin "type.__call__" ⟨.ref 51 :: rest, []⟩)) (call (.ref 48) (.ref e :: rest)) (fun r s' => r = .none ∧ Q (.ref e) s') E ⟨h', g, d, t, os⟩) (hrest : rest.length ≤ sizeLine := by size_fits) :
    wpAny (model PR w) A (call (.ref 51) rest) Q E ⟨h, g, d, t, os⟩ := by
  obtain ⟨k0, k1, k2, k3, k5, hC⟩ := fmt_cls X
  have f1 := tc_lookup
  have f2 := tc_bind (.ref 51)
  have hT : (⟨h, g, d, t, os⟩ : Shared).TypeIs (.ref 51) "type" := ⟨_, hC, rfl⟩
  refine wpAny_call (codeAny_of_tree ?_)
  show wpAny _ _ (callAny (.ref 51) _) _ _ _
  repeat (any_goals (first | assumption | with_reducible refine wpAny_loadPart_at hC ?_ | wp_step))
  refine ⟨rfl, ?_⟩
  refine codeAny_call_builtin_at (Code.quiet_builtin _ (by decide +kernel)) entry_typeCall (wpAny_check_type_call_sub hC (fmt_type_call (hrest := hrest) X fun h' e hm he => ?_))
  exact hq h' e hm he
end

theorem At.make {n : Nat} {h : Heap} {c : Addr} {rest : List Value} {kw : List (Str × Value)} (C : At base A l (n + 1) h) : At base (A.under (.builtin "type.__call__" ⟨.ref c :: rest, kw⟩)) l n h := by
  refine ⟨C.stack, C.calm, ?_, ?_, C.stays, C.frames⟩
  · have := C.room
    show A.depth + 1 + 3 * n < 1000
    omega
  · have := C.units
    have e : (Code.builtin "type.__call__" ⟨.ref c :: rest, kw⟩).cUnits ≤ 10 := by
      rw [show (Code.builtin "type.__call__" ⟨.ref c :: rest, kw⟩).cUnits = 1 from rfl]; decide
    show A.units + _ + 60 * n < 9900
    omega

theorem fmt_init {e TA : Addr} {a b : Value} {Q E : Value → Shared → Prop} (G : Gr w mean mg mb base) (C : At base A l 1 s.heap) (co : Core base l s.heap [(e, excObj none TA)])
    (hq : ∀ h' D tk, Kp [e] s.heap h' → h'.get? e = some (excObj (some D) TA) → Q .none { s with heap := h', toks := tk }) : wpAny (model PR w) A (call (.ref 48) [.ref e, a, b]) Q E s := by
  refine wpAny_call ?_
  refine enter G C co (by k_is) (by k_is) (BindsTo.of_eq (binds := [("self", .ref e), ("what", a), ("at", b)]) rfl) (locs rfl) ?_
  intro g h₁ F N B X T kp rv C'
  have k1 : Kp [e] s.heap h₁ := kp_of_enter F rfl kp
  have he1 := (N _ (.head _)).1
  have hLe := (N _ (.head _)).2.1
  have hge := (N _ (.head _)).2.2
  refine (?_ : wpAny (model PR w) _ _ _ _ _)
  k_fold
  k_steps
  refine exc_set_first (X.keeps F.keep) he1 (by k_is) ?_
  intro h₂ D tk1 tk2 hD k2 he2 hD2
  have F2 : Fr g s.heap.objs.size h₂ _ := k2.fr F (by simpa using Ne.symm hLe) (by simpa using hge)
  clear F N
  k_steps
  refine exc_set_next (X.keeps F2.keep) he2 hD2 (by k_is) (by rfl) (by simp) ?_
  intro h₃ tk3 k3
  k_steps
  dsimp only at hD k2 k3
  have hlt := Heap.lt_size he1
  have k12 : Kp [e] s.heap h₂ := k1.trans k2
  refine hq h₃ D tk3 (k12.then k3 fun a ha => .inr (none_of_le ?_)) (k3.2 _ _ he2 ?_)
  · rw [List.mem_singleton.mp ha, hD]; exact k1.1
  · rw [hD]; intro q; exact Nat.ne_of_lt hlt (List.mem_singleton.mp q)

theorem fmt_call {a b : Value} {Q E : Value → Shared → Prop} (G : Gr w mean mg mb base) (C : At base A l 2 s.heap)
    (hq : ∀ h' e D TA tk, Kp [] s.heap h' → s.heap.get? e = none → h'.get? e = some (excObj (some D) TA) → Q (.ref e) { s with heap := h', toks := tk }) :
    wpAny (model PR w) A (call (.ref 51) [a, b]) Q E s := by
  obtain ⟨hh, gg, dd, tt, oo⟩ := s
  refine fmt_new (G.K.keeps C.stays) ?_
  intro h' e hm he
  obtain ⟨TA, h1, _, _⟩ := hm.there
  have k0 : Kp [] hh h' := ⟨by have := Heap.lt_size h1; rw [he] at this; exact Nat.le_of_lt (Nat.lt_of_succ_lt this), fun b o q _ => hm.keeps b o q⟩
  have C' : At base (A.under (.builtin "type.__call__" ⟨.ref 51 :: [a, b], []⟩)) l 1 h' := k0.at C.make (by simp) (by simp)
  refine fmt_init (s := ⟨h', gg, dd, tt, oo⟩) (TA := TA) G C' ?_ ?_
  · intro p hp
    obtain rfl := List.mem_singleton.mp hp
    refine ⟨h1, ?_, fun q => ?_⟩
    · cases q : base.get? e with
      | none => rfl
      | some o => have := C.stays _ _ q; rw [hm.new] at this; cases this
    · obtain ⟨_, o, ho, _⟩ := C.frames.mem q
      rw [hm.new] at ho; cases ho
  · intro h'' D tk k he''
    exact ⟨rfl, hq h'' e D TA tk (k0.then k fun x hx => .inr (by rw [List.mem_singleton.mp hx]; exact hm.new)) hm.new he''⟩

theorem raiseStmt_fmt {env : Env} {x : Sem Value} {E : Value → Shared → Prop} {Q : Flow → Shared → Prop} (hh : A.handled = none)
    (h : wpAny (model PR w) A x (fun v s₁ => ∃ e d TA, v = .ref e ∧ (hd.heap_1 w.params).In s₁.heap ∧ s₁.heap.get? e = some (excObj d TA) ∧ E (.ref e) s₁) E s) :
    wpAny (model PR w) A (raiseStmt env (some x) none) Q E s := by
  have hcB : (Value.ref 51 :: fmtBm).contains (.type "BaseException") = true := by decide
  unfold raiseStmt
  refine wpAny_bind (wpAny_mono h (fun v s₁ h₁ => ?_) fun _ _ x => x)
  obtain ⟨e, dd, TA, rfl, X, he, hE⟩ := h₁
  obtain ⟨k0, k1, k2, k3, k5, hC⟩ := fmt_cls X
  obtain ⟨hp, g, d, tk, os⟩ := s₁
  repeat (first | with_reducible refine wpAny_loadPart_at he ?_ | with_reducible refine wpAny_loadPart_at hC ?_ | (with_reducible refine wpAny_isSubtype_exc hC ?_; rw [hcB]) | wp_step)
  exact wpAny_raiseNew_none hh hE

theorem raise_fmt {env : Env} {c : Expr} {pos : Pos} {E : Value → Shared → Prop} {Q : Flow → Shared → Prop} (hh : A.handled = none)
    (h : wpAny (model PR w) A (eval c env) (fun v s₁ => ∃ e d TA, v = .ref e ∧ (hd.heap_1 w.params).In s₁.heap ∧ s₁.heap.get? e = some (excObj d TA) ∧ E (.ref e) s₁) E s) :
    wpAny (model PR w) A (exec (.Raise (some c) none pos) env) Q E s := by
  rw [arm_exec_Raise]
  refine wpAny_bind (wpAny_standAt (raiseStmt_fmt hh (wpAny_bind (wpAny_mono h (fun v s₁ h₁ => wpAny_bind (wpAny_standAt (wpAny_pure h₁))) fun _ _ x => x))))
end Mine
end

section
open PySem PySem.W PyProof.Rows PySem.Calls

namespace Mine
variable {M : Model} {base : Heap} {A : Around} {l : List Env} {s : Shared} {W : List Addr} {h : Heap} {e : Addr} {E : Value → Shared → Prop}

/-- a FormatError within a frame: in flight, or noted there -/
def Fx (base : Heap) (le : List Env) (L : Addr) (W : List Addr) (h h' : Heap) (e : Addr) : Prop :=
  (∃ a0, Heap.FlyingW base le e (.ref 51) a0 h' ∨ Heap.HeldW base le e (.ref 51) a0 L h') ∧
  ∀ b o, h.get? b = some o → b ∉ W → (∀ vs, o.data ≠ .fields vs) → ∃ sl, h'.get? b = some { o with slots := sl }
theorem Ex.fx {L : Addr} {h' : Heap} (x : Ex base l W h h' e) : Fx base l L W h h' e := ⟨let ⟨a0, f⟩ := x.1; ⟨a0, .inl f⟩, x.2⟩
theorem Fx.before {L : Addr} {h₀ h' : Heap} (x : Fx base l L W h h' e) (k : Kp W h₀ h) : Fx base l L W h₀ h' e :=
  ⟨x.1, fun b o q nb hd => x.2 b o (k.2 b o q nb) nb hd⟩
theorem Fx.mono {L : Addr} {V : List Addr} {h' : Heap} (x : Fx base l L W h h' e) (k : ∀ a ∈ W, a ∈ V) : Fx base l L V h h' e :=
  ⟨x.1, fun b o q nb hd => x.2 b o q (fun z => nb (k b z)) hd⟩

theorem leave_fx {L a : Addr} {name : Str} {scope : Scope} {cd : Value} {Q : Unit → Shared → Prop}
    (hA : A.frames = some l) (x : Fx base (envOf name scope L a cd :: l) L W h s.heap e) (k : ∀ h', Ex base l W h h' e → Q () { s with heap := h' }) :
    wpAny M (A.deeper (envOf name scope L a cd)) (leaving (envOf name scope L a cd) (.ref e)) Q E s := by
  obtain ⟨⟨a0, fl | fl⟩, up⟩ := x
  · exact leave_ex hA ⟨⟨a0, fl⟩, up⟩ k
  · unfold leaving
    refine wpAny_bind (wpAny_noteFrame_againW rfl fl.2.2.2 ?_)
    refine wpAny_landsW fl fun h' f' u => k h' ⟨⟨a0, f'.1, f'.2.1, f'.2.2.1.2.2, f'.2.2.2⟩, fun b o q nb hd => ?_⟩
    obtain ⟨sl, e1⟩ := up b o q nb hd
    exact u _ { o with slots := sl } e1 hd

theorem held_came {env : Env} {L : Addr} (hf : env.frame = some L) {a0 : Value} (fl : Heap.HeldW base (env :: l) e (.ref 51) a0 L s.heap)
    (up : ∀ b o, h.get? b = some o → b ∉ W → (∀ vs, o.data ≠ .fields vs) → ∃ sl, s.heap.get? b = some { o with slots := sl })
    (k : ∀ h', Fx base (env :: l) L W h h' e → E (.ref e) { s with heap := h' }) : cameBackBy M A env E (.ref e) s := by
  obtain ⟨f1, f2, f3, oe, vs, T, oT, ts, he, hcls, hd, h1, hnT, hTe, hT, hdT, h3⟩ := fl
  have hsz3 : 3 < ts.size := (Array.getElem?_eq_some_iff.mp h3).1
  have other : ∀ b, b ≠ T → (s.heap.update T (Obj.mapFields (·.setIfInBounds 3 ((some L : Option Addr).elim Value.none fun f => rawInt f)))).get? b = s.heap.get? b :=
    fun b hb => Heap.get?_update_other _ _ (Ne.symm hb)
  have noRecord : ∀ b o, s.heap.get? b = some o → (∀ vs, o.data ≠ .fields vs) → b ≠ T := fun b o hb hnf q => by
    rw [q, hT] at hb; injection hb with hb; subst hb; exact hnf ts hdT
  unfold cameBackBy
  refine wpAny_bind (wpAny_field he hd h1 ?_)
  rw [if_neg (show ¬ ((Value.ref T == Value.none) = true) from by simp)]
  unfold setFlight
  rw [hf]
  refine wpAny_bind (wpAny_field he hd h1 ?_)
  rw [if_pos (show (Value.ref T != Value.none) = true from by simp)]
  refine wpAny_setField hT hdT hsz3 (k _ ⟨⟨a0, .inr ⟨fun b o hbo => (other b fun q => by rw [q, hnT] at hbo; cases hbo).trans (f1 b o hbo), f2,
    f3.of_keeps fun b o hb hnf => ⟨o, (other b (noRecord b o hb hnf)).trans hb, rfl⟩, ?_⟩⟩, fun b o q nb hd' => ?_⟩)
  · exact ⟨oe, vs, T, _, _, (other e (Ne.symm hTe)).trans he, hcls, hd, h1, hnT, hTe, Heap.get?_update_self _ hT (Obj.isFreed_of_fields (Obj.data_mapFields hdT _)), Obj.data_mapFields hdT _, by simp [hsz3]⟩
  · obtain ⟨sl, e1⟩ := up b o q nb hd'
    exact ⟨sl, (other b (noRecord b _ e1 hd')).trans e1⟩

theorem noted_fx {env : Env} {L : Addr} (hA : A.frames = some (env :: l)) (hf : env.frame = some L) (x : Fx base (env :: l) L W h s.heap e)
    (k : ∀ h', Fx base (env :: l) L W h h' e → E (.ref e) { s with heap := h' }) : notedBy M A env (cameBackBy M A env E) (.ref e) s := by
  obtain ⟨⟨a0, fl | fl⟩, up⟩ := x
  · unfold notedBy
    refine wpAny_looks_onW hA hf fl fun h' f' u => held_came hf f' (fun b o q nb hd => ?_) k
    obtain ⟨sl, e1⟩ := up b o q nb hd
    exact u _ { o with slots := sl } e1 hd
  · unfold notedBy
    exact wpAny_noteFrame_againW hf fl.2.2.2 (held_came hf fl up k)

theorem mk_er {L a n : Nat} {name : Str} {scope : Scope} {cd : Value} {h₀ h₁ g : Heap} {R E' : Value → Shared → Prop}
    (C' : At base (A.deeper (envOf name scope L a cd)) (envOf name scope L a cd :: l) n h₁) (B : Below A base l g)
    (er : ∀ e h' tk, Ex base l W h₀ h' e → R (.ref e) { s with heap := h', toks := tk }) :
    ∀ e h' tk, Fx base (envOf name scope L a cd :: l) L W h₀ h' e → wpAny M (A.deeper (envOf name scope L a cd)) (leaving (envOf name scope L a cd) (.ref e)) (fun _ s'' => R (.ref e) s'') E' { s with heap := h', toks := tk } :=
  fun e h' tk x => let _ := C'; leave_fx B.stack x fun h'' y => er e h'' tk y
theorem Core.in {A' : Around} {env : Env} {n : Nat} {g h h' : Heap} {core core' : List (Addr × Obj)} {L : Addr} (C' : At base A' (env :: l) n h') (co : Core base l h core) (N : News g L h' core')
    (hs : ∀ p ∈ core', ∃ q ∈ core, q.1 = p.1) (hf : env.frame = some L := by rfl) : Core base (env :: l) h' core' := fun p hp => by
  let _ := C'
  obtain ⟨q, hq, e⟩ := hs p hp
  refine ⟨(N p hp).1, e ▸ (co q hq).2.1, ?_⟩
  rw [List.filterMap_cons, hf]
  intro hm
  rcases List.mem_cons.mp hm with hm | hm
  · exact (N p hp).2.1 hm
  · exact (co q hq).2.2 (e ▸ hm)

theorem At.now {L a n : Nat} {name : Str} {scope : Scope} {cd : Value} {h₁ g h' : Heap} {m : Str → Option Value}
    (C' : At base (A.deeper (envOf name scope L a cd)) (envOf name scope L a cd :: l) n h₁) (B : Below A base l g) (F : Fr g L h' m) (hk : scope.kind = .function := by rfl) :
    At base (A.deeper (envOf name scope L a cd)) (envOf name scope L a cd :: l) n h' :=
  let P := B.push (name := name) (scope := scope) (a := a) (cd := cd) F hk
  ⟨C'.stack, C'.calm, C'.room, C'.units, P.stays, P.frames⟩
theorem Fr.tidy {g h : Heap} {L : Addr} {m : Str → Option Value} {bs : List (Str × Value)} (F : Fr g L h m) (hn : ∀ x ∈ bs, m x.1 = some x.2) (ho : ∀ y, y ∉ bs.map (·.1) → m y = none) :
    Fr g L h (fun y => List.lookup y bs) := by
  have e : m = fun y => List.lookup y bs := by
    funext y
    cases q : List.lookup y bs with
    | none => refine ho y fun hm => ?_
              rw [List.lookup_eq_none_iff] at q
              obtain ⟨x, hx, rfl⟩ := List.mem_map.mp hm
              have := q x hx
              simp at this
    | some v =>
      have : (y, v) ∈ bs := by
        clear hn ho F
        induction bs with
        | nil => cases q
        | cons x r ih =>
          obtain ⟨a, b⟩ := x
          rw [List.lookup_cons] at q
          split at q
          · rename_i hb; cases q; rw [beq_iff_eq.mp hb]; exact .head _
          · exact .tail _ (ih q)
      exact hn _ this
  exact e ▸ F

section
variable {prog : Program} {w : World} {K : Value → Shared → Prop}
abbrev rgObj (x left : Int) : Obj := { cls := .type "range_iterator", dict := none, data := .fields #[rawInt x, rawInt left, rawInt 1], slots := #[] }
theorem range_iter {n : Int} {t : Tok} (h0 : 0 ≤ n) (hn : n < 1073741824)
    (k : ∀ I h' tk, Kp [] s.heap h' → s.heap.objs.size < I → h'.get? I = some (rgObj 0 n) → K (.ref I) { s with heap := h', toks := tk }) :
    wpAny (model prog w) A (call (.type "range") [.int n t]) (fun x s₁ => wpAny (model prog w) A (pyIter x) K E s₁) E s := by
  refine call_range_1 ?_
  have e : Builtin.Range.rangeSize 0 n 1 = n := by rw [rangeSize_one]; split <;> omega
  refine wpAny_pyIter_range (IsRange.new _ _ _ _ _ _ _) (small_one (by decide) (by decide) (by omega) (by omega)) ?_
  rw [e]
  refine k _ _ _ ⟨by rw [Heap.size_push, Heap.size_push]; exact Nat.le_add_right _ 2, fun b o q _ => Heap.get?_push_of_some _ (Heap.get?_push_of_some _ q)⟩ (by rw [Heap.size_push]; exact Nat.lt_succ_self _) (Heap.get?_push_size _ rfl)

theorem loop_range {R : Result → Shared → Prop} {x : Str} {px : Pos} {body : List Stmt} {I : Addr} {n : Nat} {env : Env} (hh : A.handled = none) (J : Nat → Shared → Prop)
    (hJ : ∀ i s', J i s' → s'.heap.get? I = some (rgObj i ((n : Int) - i)))
    (turn : ∀ i s' h' tk, i < n → J i s' → h'.get? I = some (rgObj ((i + 1 : Nat) : Int) ((n : Int) - ((i + 1 : Nat) : Int))) → Heap.SameBut I s'.heap h' →
      wpAny (model prog w) A (assign (.Name x px) env (.int i tk)) (fun _ s₂ => wpAny (model prog w) A (execs body env) (fun f s₃ => match f with
          | .next | .cont => J (i + 1) s₃
          | .brk => R (.ok .next) s₃
          | .ret v => R (.ok (.ret v)) s₃) (notedBy (model prog w) A env fun e s' => R (.error e) s') s₂) (notedBy (model prog w) A env fun e s' => R (.error e) s') { s' with heap := h', toks := s'.toks + 1 })
    (fin : ∀ s' h', J n s' → Heap.ExtBut I s'.heap h' → R (.ok .next) { s' with heap := h' }) (h : J 0 s) :
    codeAny (model prog w) A (.forLoop (.Name x px) (.ref I) body [] env) R s := by
  refine codeAny_forLoop (fun k s' => ∃ i, J i s' ∧ i ≤ n ∧ k = n + 1 - i) ?_ (n + 1) ⟨0, h, Nat.zero_le _, rfl⟩
  rintro k s' ⟨i, hJi, hi, rfl⟩
  have hit := hJ i s' hJi
  by_cases hlt : i < n
  · refine wpAny_pyNext_range_item hit (by omega) fun h₁ hit₁ hs₁ => ?_
    refine wpAny_mono (turn i s' h₁ s'.toks hlt hJi ?_ hs₁) (fun _ s₂ h₂ => ?_) fun _ _ e => e
    · have e1 : (i : Int) + 1 = ((i + 1 : Nat) : Int) := by push_cast; rfl
      have e2 : (n : Int) - i - 1 = (n : Int) - ((i + 1 : Nat) : Int) := by push_cast; omega
      rw [e1, e2] at hit₁
      exact hit₁
    · refine wpAny_mono h₂ (fun f s₃ h₃ => ?_) fun _ _ e => e
      cases f with
      | next => exact ⟨n + 1 - (i + 1), by omega, i + 1, h₃, hlt, rfl⟩
      | cont => exact ⟨n + 1 - (i + 1), by omega, i + 1, h₃, hlt, rfl⟩
      | brk => exact h₃
      | ret v => exact h₃
  · have hin : i = n := by omega
    subst hin
    exact wpAny_pyNext_range_end hh hit (by omega) fun h₁ he₁ => wpAny_execs_nil (fin s' h₁ hJi he₁)

/-- a list that the loop does not change -/
abbrev liObj (l : Addr) (i : Nat) : Obj := { cls := .type "list_iterator", data := .fields #[.ref l, .int i 0] }
theorem loop_list {R : Result → Shared → Prop} {x : Str} {px : Pos} {body : List Stmt} {I ll : Addr} {items : List Value} {env : Env} (hh : A.handled = none) (J : Nat → Shared → Prop)
    (hJ : ∀ i s', J i s' → s'.heap.IsListIter I ll i ∧ s'.heap.IsList ll items.toArray)
    (turn : ∀ i s' h' v, items[i]? = some v → J i s' → h'.IsListIter I ll (i + 1) → Heap.SameBut I s'.heap h' →
      wpAny (model prog w) A (assign (.Name x px) env v) (fun _ s₂ => wpAny (model prog w) A (execs body env) (fun f s₃ => match f with
          | .next | .cont => J (i + 1) s₃
          | .brk => R (.ok .next) s₃
          | .ret v => R (.ok (.ret v)) s₃) (notedBy (model prog w) A env fun e s' => R (.error e) s') s₂) (notedBy (model prog w) A env fun e s' => R (.error e) s') { s' with heap := h' })
    (fin : ∀ s' h', J items.length s' → Heap.ExtBut I s'.heap h' → R (.ok .next) { s' with heap := h' }) (h : J 0 s) :
    codeAny (model prog w) A (.forLoop (.Name x px) (.ref I) body [] env) R s := by
  refine codeAny_forLoop (fun k s' => ∃ i, J i s' ∧ i ≤ items.length ∧ k = items.length + 1 - i) ?_ (items.length + 1) ⟨0, h, Nat.zero_le _, rfl⟩
  rintro k s' ⟨i, hJi, hi, rfl⟩
  obtain ⟨hit, hli⟩ := hJ i s' hJi
  by_cases hlt : i < items.length
  · have hx : items.toArray[i]? = some items[i] := by simp [hlt]
    refine wpAny_pyNext_list_item hit hli hx fun h₁ hit₁ hs₁ => ?_
    refine wpAny_mono (turn i s' h₁ items[i] (by simp [hlt]) hJi hit₁ hs₁) (fun _ s₂ h₂ => ?_) fun _ _ e => e
    refine wpAny_mono h₂ (fun f s₃ h₃ => ?_) fun _ _ e => e
    cases f with
    | next => exact ⟨items.length + 1 - (i + 1), by omega, i + 1, h₃, hlt, rfl⟩
    | cont => exact ⟨items.length + 1 - (i + 1), by omega, i + 1, h₃, hlt, rfl⟩
    | brk => exact h₃
    | ret v => exact h₃
  · have hin : i = items.length := by omega
    subst hin
    exact wpAny_pyNext_list_end hh hit hli (by simp) fun h₁ he₁ => wpAny_execs_nil (fin s' h₁ hJi he₁)
end
theorem Fr.known {g h : Heap} {L : Addr} {m : Str → Option Value} {bs : List (Str × Value)} (F : Fr g L h m) (hn : ∀ x ∈ bs, m x.1 = some x.2) :
    Fr g L h (fun y => (List.lookup y bs).or (m y)) := by
  have e : m = fun y => (List.lookup y bs).or (m y) := by
    funext y
    cases q : List.lookup y bs with
    | none => rfl
    | some v =>
      have : (y, v) ∈ bs := by
        clear hn F
        induction bs with
        | nil => cases q
        | cons x r ih =>
          obtain ⟨a, b⟩ := x
          rw [List.lookup_cons] at q
          split at q
          · rename_i hb; cases q; rw [beq_iff_eq.mp hb]; exact .head _
          · exact .tail _ (ih q)
      exact hn _ this
  exact e ▸ F
theorem same_kp {I : Addr} {h h' : Heap} (x : Heap.SameBut I h h') : Kp [I] h h' := ⟨Nat.le_of_eq x.1.symm, fun b o q nb => (x.2 b (by simpa using nb)).trans q⟩
theorem Fr.ext {I : Addr} {g h h' : Heap} {L : Addr} {m : Str → Option Value} (F : Fr g L h m) (x : Heap.ExtBut I h h') (hL : I ≠ L) (hg : g.get? I = none) : Fr g L h' m := by
  obtain ⟨⟨o, es, ep, ho, r⟩, k, a⟩ := F
  exact ⟨⟨o, es, ep, x _ _ (Ne.symm hL) ho, r⟩, fun b o e => x b o (fun q => by rw [q, hg] at e; cases e) (k b o e), a⟩
theorem News.ext {I : Addr} {g h h' : Heap} {L : Addr} {news : List (Addr × Obj)} (N : News g L h news) (x : Heap.ExtBut I h h') (hn : ∀ p ∈ news, p.1 ≠ I) : News g L h' news :=
  fun p hp => ⟨x _ _ (hn p hp) (N p hp).1, (N p hp).2⟩
theorem News.cons {g h : Heap} {L a : Addr} {o : Obj} {news : List (Addr × Obj)} (h1 : h.get? a = some o) (h2 : a ≠ L) (h3 : g.get? a = none) (N : News g L h news) : News g L h ((a, o) :: news) := fun p hp => by
  rcases List.mem_cons.mp hp with rfl | hp
  · exact ⟨h1, h2, h3⟩
  · exact N p hp
theorem News.tail {g h : Heap} {L : Addr} {p : Addr × Obj} {news : List (Addr × Obj)} (N : News g L h (p :: news)) : News g L h news := fun q hq => N q (.tail _ hq)
/-- a new thing is no elder thing -/
theorem fresh_ne {h : Heap} {a b : Addr} {o : Obj} (h1 : h.objs.size ≤ a) (h2 : h.get? b = some o) : a ≠ b := fun q => absurd (Heap.lt_size h2) (Nat.not_lt.mpr (q ▸ h1))
theorem leave_first {M : Model} {E : Value → Shared → Prop} {h : Heap} {W : List Addr} {L a e TA D : Addr} {n : Nat} {name : Str} {scope : Scope} {cd : Value} {Q : Unit → Shared → Prop}
    (C : At base (A.deeper (envOf name scope L a cd)) (envOf name scope L a cd :: l) n s.heap) (k0 : Kp W h s.heap) (hn : base.get? e = none)
    (he : s.heap.get? e = some (excObj (some D) TA)) (k : ∀ h', Ex base l W h h' e → Q () { s with heap := h' }) :
    wpAny M (A.deeper (envOf name scope L a cd)) (leaving (envOf name scope L a cd) (.ref e)) Q E s := by
  refine wpAny_leaving_firstW (a0 := .ref TA) C.stack C.frames rfl he C.stays hn rfl rfl rfl fun h' hL => ?_
  obtain ⟨k1, ⟨_, _, k2⟩, k3, k4⟩ := hL
  exact k h' ⟨⟨.ref TA, k1, hn, k2, k3⟩, fun b o q nb hd => k4 b o (k0.2 b o q nb) hd⟩

theorem list_ne {h : Heap} {ld b : Addr} {o : Obj} {its : Array Value} (hl : h.IsList ld its) (hb : h.get? b = some o) (hc : o.cls ≠ .type "list") : ld ≠ b := by
  rintro rfl
  obtain ⟨o', ho, hc', _⟩ := hl
  rw [ho] at hb; cases hb
  exact hc hc'
/-- what a def leaves: back in the caller's heap -/
theorem kp_out {W : List Addr} {core core' : List (Addr × Obj)} {h h' g : Heap} {L : Addr} {m : Str → Option Value} (co : Core base l h core) (F : Fr g L h' m) (e : L = h.objs.size) (N : News g L h' core')
    (kp : ∀ b o, h.get? b = some o → b ∉ core.map (·.1) → g.get? b = some o) (hW : ∀ p ∈ core, p.1 ∈ W ∨ p ∈ core') : Kp W h h' :=
  ⟨Nat.le_of_lt (e ▸ F.ns.lt), fun b o q nb => by
    by_cases hb : b ∈ core.map (·.1)
    · obtain ⟨p, hp, rfl⟩ := List.mem_map.mp hb
      rw [(co p hp).1] at q; cases q
      exact (N _ ((hW p hp).resolve_left nb)).1
    · exact F.keep _ _ (kp b o q hb)⟩

theorem Core.mk {A' : Around} {env : Env} {n : Nat} {g h' : Heap} {core : List (Addr × Obj)} {L : Addr} (C' : At base A' (env :: l) n h') (B : Below A base l g) (N : News g L h' core)
    (hf : env.frame = some L := by rfl) : Core base (env :: l) h' core := fun p hp => by
  let _ := C'
  have x := Core.of_news B N p hp
  refine ⟨x.1, x.2.1, ?_⟩
  rw [List.filterMap_cons, hf]
  intro hm
  rcases List.mem_cons.mp hm with hm | hm
  · exact (N p hp).2.1 hm
  · exact x.2.2 hm
theorem News.sub {g h : Heap} {L : Addr} {news news' : List (Addr × Obj)} (N : News g L h news) (k : ∀ p ∈ news', p ∈ news) : News g L h news' := fun p hp => N p (k p hp)
theorem News.put {g h h' : Heap} {L d : Addr} {o o' : Obj} {news news' : List (Addr × Obj)} (U : Upd d o o' news news') (N : News g L h news) (k : Kp [d] h h') (e : h'.get? d = some o') : News g L h' news' := by
  induction U with
  | head hr =>
    intro p hp
    rcases List.mem_cons.mp hp with rfl | hp
    · exact ⟨e, (N _ (.head _)).2⟩
    · exact ⟨k.2 _ _ (N _ (.tail _ hp)).1 (by simpa using hr p hp), (N _ (.tail _ hp)).2⟩
  | tail hp1 _ ih =>
    intro p hp
    rcases List.mem_cons.mp hp with rfl | hp
    · exact ⟨k.2 _ _ (N _ (.head _)).1 (by simpa using hp1), (N _ (.head _)).2⟩
    · exact ih (fun q hq => N q (.tail _ hq)) p hp
theorem pick1 {a : Addr × Obj} {news : List (Addr × Obj)} (h1 : a ∈ news) : ∀ p ∈ [a], p ∈ news := fun p hp => by
  rw [List.mem_singleton.mp hp]; exact h1
theorem pick2 {a b : Addr × Obj} {news : List (Addr × Obj)} (h1 : a ∈ news) (h2 : b ∈ news) : ∀ p ∈ [a, b], p ∈ news := fun p hp => by
  rcases List.mem_cons.mp hp with rfl | hp
  · exact h1
  · rw [List.mem_singleton.mp hp]; exact h2
theorem pick3 {a b c : Addr × Obj} {news : List (Addr × Obj)} (h1 : a ∈ news) (h2 : b ∈ news) (h3 : c ∈ news) : ∀ p ∈ [a, b, c], p ∈ news := fun p hp => by
  rcases List.mem_cons.mp hp with rfl | hp
  · exact h1
  · exact pick2 h2 h3 p hp
theorem pick4 {a b c d : Addr × Obj} {news : List (Addr × Obj)} (h1 : a ∈ news) (h2 : b ∈ news) (h3 : c ∈ news) (h4 : d ∈ news) : ∀ p ∈ [a, b, c, d], p ∈ news := fun p hp => by
  rcases List.mem_cons.mp hp with rfl | hp
  · exact h1
  · exact pick3 h2 h3 h4 p hp
theorem Fx.back {L : Addr} {V : List Addr} {h₀ h' : Heap} (x : Fx base l L W h h' e) (k : Kp V h₀ h) (hW : ∀ a ∈ W, a ∈ V ∨ h₀.get? a = none) : Fx base l L V h₀ h' e :=
  ⟨x.1, fun b o q nb hd => x.2 b o (k.2 b o q nb) (fun z => (hW b z).elim nb fun y => by rw [q] at y; cases y) hd⟩
theorem len_of {prog : Program} {w : World} {ll : Addr} {vs : List Value} {k : Nat} {Q : Value → Shared → Prop} (hl : s.heap.IsList ll vs.toArray) (hk : vs.length = k) (hfit : k < 1000000000)
    (h : Q (.int (k : Int) (s.toks + 1)) { s with toks := s.toks + 1 + 1 }) : wpAny (model prog w) A (call (.builtin "len") [.ref ll]) Q E s := by
  have e : (vs.toArray.size : Int) = (k : Int) := by rw [List.size_toArray, hk]
  exact call_len_list hl (by rw [e]; omega) (by rw [e]; exact h)
def AllNe (I : Addr) : List (Addr × Obj) → Prop
  | [] => True
  | p :: r => I ≠ p.1 ∧ AllNe I r
theorem AllNe.all {I : Addr} {news : List (Addr × Obj)} (x : AllNe I news) : ∀ p ∈ news, p.1 ≠ I := by
  induction news with
  | nil => intro p hp; cases hp
  | cons q r ih =>
    intro p hp
    rcases List.mem_cons.mp hp with rfl | hp
    · exact fun z => x.1 z.symm
    · exact ih x.2 p hp
theorem News.extA {I : Addr} {o : Obj} {g h h' : Heap} {L : Addr} {news : List (Addr × Obj)} (N : News g L h ((I, o) :: news)) (x : Heap.ExtBut I h h') (hn : AllNe I news) : News g L h' news :=
  News.ext (News.tail N) x hn.all
theorem noted_first {A' : Around} {env : Env} {n : Nat} {L TA D : Addr} (C : At base A' (env :: l) n s.heap) (hf : env.frame = some L) (k0 : Kp W h s.heap) (hn : base.get? e = none)
    (he : s.heap.get? e = some (excObj (some D) TA)) (k : ∀ h', Fx base (env :: l) L W h h' e → E (.ref e) { s with heap := h' }) : notedBy M A' env (cameBackBy M A' env E) (.ref e) s := by
  unfold notedBy noteFrame
  simp only [hf]
  refine wpAny_bind (wpAny_field he rfl (x := .none) rfl ?_)
  rw [if_neg (by decide)]
  refine wpAny_entryW (a0 := .ref TA) C.stack C.frames hf he C.stays hn rfl (by simp) rfl fun h' hN => ?_
  obtain ⟨k1, k2, k3, k4⟩ := hN
  exact held_came hf ⟨k1, hn, k2, k3⟩ (fun b o q nb hd => k4 b o (k0.2 b o q nb) hd) k
theorem stored_new {K : Type} [DecidableEq K] {kvs : List (K × Value)} {x : K} {v : Value} (hx : x ∉ kvs.map (·.1)) : stored kvs x v = kvs ++ [(x, v)] := by
  unfold stored
  rw [if_neg]
  intro q
  obtain ⟨p, hp, e⟩ := List.any_eq_true.mp q
  exact hx (List.mem_map.mpr ⟨p, hp, by simpa using e⟩)
end Mine
end

section
open PySem PySem.W PyProof.Rows PySem.Calls

namespace Mine


variable {w : World} {mean : ExcName → Option Value} {mg mb : Str → Option Value} {base : Heap} {A : Around} {l : List Env} {s : Shared}

abbrev rdDict (w : World) (t1 t2 t3 : Tok) (ld : Addr) (i : Int) : Obj := dictOf [ent w "data" t1 (.ref ld), ent w "at" t2 (.int i t3)] 2
abbrev rdCore (w : World) (r dx ld : Addr) (t1 t2 t3 : Tok) (i : Int) : List (Addr × Obj) := [(r, instObj 168 dx), (dx, rdDict w t1 t2 t3 ld i)]

theorem rd_list {h g : Heap} {r dx ld : Addr} {t1 t2 t3 : Tok} {i : Int} {its : Array Value} (co : Core base l h (rdCore w r dx ld t1 t2 t3 i)) (hl : h.IsList ld its)
    (kp : ∀ b o, h.get? b = some o → b ∉ (rdCore w r dx ld t1 t2 t3 i).map (·.1) → g.get? b = some o) : g.IsList ld its := by
  have h1 := list_ne hl (co _ (.head _)).1 (by simp)
  have h2 := list_ne hl (co _ (.tail _ (.head _))).1 (by simp)
  obtain ⟨o, ho, q⟩ := hl
  exact ⟨o, kp _ _ ho (by simp [h1, h2]), q⟩

theorem fail_call {r dx ld : Addr} {t1 t2 t3 : Tok} {i : Int} {what : Str} {tw : Tok} {Q E : Value → Shared → Prop}
    (G : Gr w mean mg mb base) (C : At base A l 3 s.heap) (co : Core base l s.heap (rdCore w r dx ld t1 t2 t3 i))
    (er : ∀ e h' tk, Ex base l [] s.heap h' e → E (.ref e) { s with heap := h', toks := tk }) : wpAny (model PR w) A (call (.ref 123) [.ref r, .str what tw]) Q E s := by
  refine wpAny_call ?_
  refine enter G C co (by k_is) (by k_is) (BindsTo.of_eq (binds := [("self", .ref r), ("what", .str what tw)]) rfl) (locs rfl) ?_
  intro g h₁ F N B X T kp rv C'
  have kk : Kp [] s.heap h₁ := kp_out co F rfl N kp fun p hp => .inr hp
  refine (?_ : wpAny (model PR w) _ _ _ _ _)
  k_fold
  (repeat' (first | (k_unfold; (try dsimp only)) | ((fail_if_success (with_reducible first | refine (?_ : Exists _) | show wpAny _ _ (exec (Stmt.While _ _ _ _) _) _ _ _ | show wpAny _ _ (exec (Stmt.For _ _ _ _ _) _) _ _ _ | show wpAny _ _ (PySem.call (Value.ref _) _ _) _ _ _)); walk1) | dsimp only | fail "no step"))
  refine raise_fmt C'.calm ?_
  (repeat' (first | (k_unfold; (try dsimp only)) | ((fail_if_success (with_reducible first | refine (?_ : Exists _) | show wpAny _ _ (exec (Stmt.While _ _ _ _) _) _ _ _ | show wpAny _ _ (exec (Stmt.For _ _ _ _ _) _) _ _ _ | show wpAny _ _ (PySem.call (Value.ref _) _ _) _ _ _)); walk1) | dsimp only | fail "no step"))
  refine fmt_call G C' ?_
  intro h₂ e D TA tk2 k2 hn he
  dsimp only at k2 hn
  have hb : base.get? e = none := by
    cases q : base.get? e with
    | none => rfl
    | some o => have := C'.stays _ _ q; rw [hn] at this; cases this
  refine ⟨e, some D, TA, rfl, G.K.keeps fun b o q => k2.2 _ _ (C'.stays b o q) (by simp), he, ?_⟩
  exact leave_first (k2.at C' (by simp) (by simp)) (kk.trans k2) hb he fun h₃ x => er e h₃ _ x

theorem done_call {r dx ld : Addr} {t1 t2 t3 : Tok} {i : Int} {vs : List Value} {ns : List Int} {Q E : Value → Shared → Prop}
    (G : Gr w mean mg mb base) (C : At base A l 1 s.heap) (co : Core base l s.heap (rdCore w r dx ld t1 t2 t3 i))
    (hl : s.heap.IsList ld vs.toArray) (hI : IntsAre vs ns) (hsz : ns.length < 1048576) 
    (ok : ∀ h' tk, Kp [] s.heap h' → Q (.bool (decide ((ns.length : Int) ≤ i))) { s with heap := h', toks := tk }) : wpAny (model PR w) A (call (.ref 130) [.ref r]) Q E s := by
  refine wpAny_call ?_
  refine enter G C co (by k_is) (by k_is) (BindsTo.of_eq (binds := [("self", .ref r)]) rfl) (locs rfl) ?_
  intro g h₁ F N B X T kp rv C'
  have hl' : g.IsList ld vs.toArray := rd_list co hl kp
  have kk : Kp [] s.heap h₁ := kp_out co F rfl N kp fun p hp => .inr hp
  refine (?_ : wpAny (model PR w) _ _ _ _ _)
  k_fold
  (repeat' (first | (k_unfold; (try dsimp only)) | ((fail_if_success (with_reducible first | refine (?_ : Exists _) | show wpAny _ _ (exec (Stmt.While _ _ _ _) _) _ _ _ | show wpAny _ _ (exec (Stmt.For _ _ _ _ _) _) _ _ _ | show wpAny _ _ (PySem.call (Value.ref _) _ _) _ _ _)); walk1) | dsimp only | fail "no step"))
  exact ok _ _ kk

theorem getD_byte {ns : List Int} (hby : ∀ n ∈ ns, 0 ≤ n ∧ n ≤ 255) (j : Nat) : 0 ≤ ns.getD j 0 ∧ ns.getD j 0 ≤ 255 := by
  by_cases hj : j < ns.length
  · have : ns.getD j 0 = ns[j] := by simp [List.getD, hj]
    rw [this]; exact hby _ (List.getElem_mem hj)
  · have : ns.getD j 0 = 0 := by simp [List.getD, hj]
    omega

theorem byte_call {r dx ld : Addr} {t1 t2 t3 : Tok} {i : Int} {vs : List Value} {ns : List Int} {Q E : Value → Shared → Prop}
    (G : Gr w mean mg mb base) (C : At base A l 4 s.heap) (co : Core base l s.heap (rdCore w r dx ld t1 t2 t3 i)) (hne : r ≠ dx)
    (hl : s.heap.IsList ld vs.toArray) (hI : IntsAre vs ns) (h0 : 0 ≤ i) (hsz : ns.length < 1048576) (hby : ∀ n ∈ ns, 0 ≤ n ∧ n ≤ 255)
    (ok : ∀ n h' tk tv t3', ns[i.toNat]? = some n → Kp [dx] s.heap h' → h'.get? dx = some (rdDict w t1 t2 t3' ld (i + 1)) → Q (.int n tv) { s with heap := h', toks := tk })
    (er : ∀ e h' tk, (ns.length : Int) ≤ i → Ex base l [] s.heap h' e → E (.ref e) { s with heap := h', toks := tk }) : wpAny (model PR w) A (call (.ref 137) [.ref r]) Q E s := by
  refine wpAny_call ?_
  refine enter G C co (by k_is) (by k_is) (BindsTo.of_eq (binds := [("self", .ref r)]) rfl) (locs rfl) ?_
  intro g h₁ F N B X T kp rv C'
  have hl' : g.IsList ld vs.toArray := rd_list co hl kp
  have kk : Kp [] s.heap h₁ := kp_out co F rfl N kp fun p hp => .inr hp
  refine (?_ : wpAny (model PR w) _ _ _ _ _)
  k_fold
  (repeat' (first | (k_unfold; (try dsimp only)) | ((fail_if_success (with_reducible first | refine (?_ : Exists _) | show wpAny _ _ (exec (Stmt.While _ _ _ _) _) _ _ _ | show wpAny _ _ (exec (Stmt.For _ _ _ _ _) _) _ _ _ | show wpAny _ _ (PySem.call (Value.ref _) _ _) _ _ _)); walk1) | dsimp only | fail "no step"))
  refine done_call G C'.less (co.deeper N fun p hp => ⟨p, hp, rfl⟩) (Fr.lst F hl') hI hsz ?_
  intro h₂ tk2 k2
  dsimp only at k2
  have F2 := k2.fr F (by simp) (by simp)
  have N2 := k2.news N (by simp)
  (repeat' (first | (k_unfold; (try dsimp only)) | ((fail_if_success (with_reducible first | refine (?_ : Exists _) | show wpAny _ _ (exec (Stmt.While _ _ _ _) _) _ _ _ | show wpAny _ _ (exec (Stmt.For _ _ _ _ _) _) _ _ _ | show wpAny _ _ (PySem.call (Value.ref _) _ _) _ _ _)); walk1) | dsimp only | fail "no step"))
  · refine fail_call G (k2.at C' (by simp) (by simp)).less (co.deeper N2 fun p hp => ⟨p, hp, rfl⟩) ?_
    intro e h₃ tk3 x
    exact leave_ex B.stack (x.before (kk.trans k2)) fun h₄ y => er e h₄ _ (by assumption) y
  · exfalso
    have := getD_byte hby i.toNat
    omega
  · exfalso
    have := getD_byte hby i.toNat
    omega
  · rename Fr _ _ _ _ => F3
    rename News _ _ _ _ => N3
    refine ok _ _ _ _ _ ?_ (kp_out co F3 rfl N3 kp fun p hp => ?_) (N3 _ (.tail _ (.head _))).1
    · have hlt : i.toNat < ns.length := by omega
      simp [List.getD, hlt]
    · rcases List.mem_cons.mp hp with rfl | hp
      · exact .inr (.head _)
      · rcases List.mem_cons.mp hp with rfl | hp
        · exact .inl (.head _)
        · cases hp
theorem rd_news {g h₁ h₂ : Heap} {L r dx ld : Addr} {t1 t2 t3 t3' : Tok} {i i' : Int} (N : News g L h₁ (rdCore w r dx ld t1 t2 t3 i)) (hne : r ≠ dx) (k : Kp [dx] h₁ h₂) (e : h₂.get? dx = some (rdDict w t1 t2 t3' ld i')) :
    News g L h₂ (rdCore w r dx ld t1 t2 t3' i') := fun p hp => by
  rcases List.mem_cons.mp hp with rfl | hp
  · exact ⟨k.2 _ _ (N _ (.head _)).1 (by simpa using hne), (N _ (.head _)).2⟩
  · rcases List.mem_cons.mp hp with rfl | hp
    · exact ⟨e, (N (dx, rdDict w t1 t2 t3 ld i) (.tail _ (.head _))).2⟩
    · cases hp

/-- an unsigned number: its value, what is left -/
def rawNum (first : Bool) : List Int → Option (Int × List Int)
  | [] => none
  | b :: r => if 127 < b then (rawNum false r).map fun x => ((b - 128) + 128 * x.1, x.2) else if b = 0 ∧ first = false then none else some (b, r)

def unz (t : Int) : Int := if t.fmod 2 = 1 then (-(t + 1)).fdiv 2 else t.fdiv 2

theorem Fr.eqv {g h : Heap} {L : Addr} {m m' : Str → Option Value} (F : Fr g L h m) (e : ∀ y, m y = m' y) : Fr g L h m' := by
  obtain rfl : m = m' := funext e
  exact F
theorem raw_turn {b : Bool} {gg n : Int} {r : List Int} {T Wt : Int} (h : 127 < gg) :
    (rawNum b (gg :: n :: r)).map (fun x => (T + Wt * x.1, x.2)) = (rawNum false (n :: r)).map fun x => ((T + (gg - 128) * Wt) + (Wt * 128) * x.1, x.2) := by
  rw [rawNum, if_pos h, Option.map_map]
  congr 1
  funext x
  simp only [Function.comp]
  congr 1
  rw [Int.mul_add, Int.mul_comm Wt (gg - 128), Int.mul_assoc, Int.add_assoc]
theorem raw_out {b : Bool} {gg : Int} {T Wt : Int} (h : 127 < gg) : (rawNum b (gg :: [])).map (fun x => (T + Wt * x.1, x.2)) = none := by
  rw [rawNum, if_pos h, rawNum]; rfl
theorem drop_some {ns : List Int} {j : Nat} {n : Int} (h : ns[j]? = some n) : ns.drop j = n :: ns.drop (j + 1) := by
  obtain ⟨hj, rfl⟩ := List.getElem?_eq_some_iff.mp h
  exact List.drop_eq_getElem_cons hj

theorem number_call {r dx ld : Addr} {t1 t2 t3 : Tok} {i : Int} {vs : List Value} {ns : List Int} {Q E : Value → Shared → Prop}
    (G : Gr w mean mg mb base) (C : At base A l 5 s.heap) (co : Core base l s.heap (rdCore w r dx ld t1 t2 t3 i)) (hne : r ≠ dx)
    (hl : s.heap.IsList ld vs.toArray) (hI : IntsAre vs ns) (h0 : 0 ≤ i) (hsz : ns.length < 1048576) (hby : ∀ n ∈ ns, 0 ≤ n ∧ n ≤ 255)
    (ok : ∀ t i' h' tk tv t3', rawNum true (ns.drop i.toNat) = some (t, ns.drop i'.toNat) → i < i' → i' ≤ ns.length → Kp [dx] s.heap h' → h'.get? dx = some (rdDict w t1 t2 t3' ld i') → Q (.int (unz t) tv) { s with heap := h', toks := tk })
    (er : ∀ e h' tk, rawNum true (ns.drop i.toNat) = none → Ex base l [dx] s.heap h' e → E (.ref e) { s with heap := h', toks := tk }) : wpAny (model PR w) A (call (.ref 144) [.ref r]) Q E s := by
  refine wpAny_call ?_
  refine enter G C co (by k_is) (by k_is) (BindsTo.of_eq (binds := [("self", .ref r)]) rfl) (locs rfl) ?_
  intro g h₁ F N B X TT kp rv C'
  have hl' : g.IsList ld vs.toArray := rd_list co hl kp
  have hW : ∀ p ∈ rdCore w r dx ld t1 t2 t3 i, p.1 ∈ [dx] ∨ p ∈ rdCore w r dx ld t1 t2 t3 i := fun p hp => .inr hp
  have hW' : ∀ t3' i', ∀ p ∈ rdCore w r dx ld t1 t2 t3 i, p.1 ∈ [dx] ∨ p ∈ rdCore w r dx ld t1 t2 t3' i' := fun t3' i' p hp => by
    rcases List.mem_cons.mp hp with rfl | hp
    · exact .inr (.head _)
    · rcases List.mem_cons.mp hp with rfl | hp
      · exact .inl (.head _)
      · cases hp
  have hs : ∀ t3' i', ∀ p ∈ rdCore w r dx ld t1 t2 t3' i', ∃ q ∈ rdCore w r dx ld t1 t2 t3 i, q.1 = p.1 := fun t3' i' p hp => by
    rcases List.mem_cons.mp hp with rfl | hp
    · exact ⟨_, .head _, rfl⟩
    · rcases List.mem_cons.mp hp with rfl | hp
      · exact ⟨_, .tail _ (.head _), rfl⟩
      · cases hp
  have hdg : g.get? dx = none := (N _ (.tail _ (.head _))).2.2
  have hdL : dx ≠ s.heap.objs.size := (N _ (.tail _ (.head _))).2.1
  refine (?_ : wpAny (model PR w) _ _ _ _ _)
  k_fold
  have er' := fun hr => mk_er (M := model PR w) (E' := E) (R := E) C' B (er · · · hr)
  (repeat' (first | (k_unfold; (try dsimp only)) | ((fail_if_success (with_reducible first | refine (?_ : Exists _) | show wpAny _ _ (exec (Stmt.While _ _ _ _) _) _ _ _ | show wpAny _ _ (exec (Stmt.For _ _ _ _ _) _) _ _ _ | show wpAny _ _ (PySem.call (Value.ref _) _ _) _ _ _)); walk1) | dsimp only | fail "no step"))
  rename Fr _ _ _ _ => F1
  rename News _ _ _ _ => N1
  refine byte_call G (C'.now B F1) (co.in (C'.now B F1) N1 fun p hp => ⟨p, hp, rfl⟩) hne (Fr.lst F1 hl') hI h0 hsz hby ?_ ?_
  case refine_2 =>
    intro e h2 tk2 hge x
    refine er' ?_ e h2 _ ((x.mono (by simp)).fx.before (kp_out co F1 rfl N1 kp hW))
    rw [List.drop_eq_nil_of_le (by omega)]; rfl
  intro n h2 tk2 tv t3' hn k2 e2
  have F2 := k2.fr F1 (by simpa using hdL.symm) (by simpa using hdg)
  have N2 := rd_news N1 hne k2 e2
  clear F1 N1
  (repeat' (first | (k_unfold; (try dsimp only)) | ((fail_if_success (with_reducible first | refine (?_ : Exists _) | show wpAny _ _ (exec (Stmt.While _ _ _ _) _) _ _ _ | show wpAny _ _ (exec (Stmt.For _ _ _ _ _) _) _ _ _ | show wpAny _ _ (PySem.call (Value.ref _) _ _) _ _ _)); walk1) | dsimp only | fail "no step"))
  rename Fr _ _ _ _ => F3
  rename News _ _ _ _ => N3
  refine wpAny_While ?_
  refine codeAny_whileLoop (fun (m : Nat) (s' : Shared) => Box (∀ PP : Prop, (∀ (T Wt gg p : Int) (tT tW tg t3'' tk'' : Tok) (h'' : Heap), s' = { s with heap := h'', toks := tk'' } → (Fr g s.heap.objs.size h'' (fun y => List.lookup y [(Str.ofString "group", Value.int gg tg), (Str.ofString "weight", Value.int Wt tW), (Str.ofString "total", Value.int T tT), (Str.ofString "self", Value.ref r)])) → News g s.heap.objs.size h'' (rdCore w r dx ld t1 t2 t3'' p) → i < p → p ≤ ns.length → m = (ns.length - p).toNat → 1 ≤ Wt → 0 ≤ gg → gg ≤ 255 → (rawNum true (ns.drop i.toNat) = (rawNum (decide (Wt = 1)) (gg :: ns.drop p.toNat)).map fun x => (T + Wt * x.1, x.2)) → PP) → PP)) ?_ (ns.length - (i + 1)).toNat ?_
  · intro m s' hI'
    refine unbox hI' _ fun T Wt gg p tT tW tg t3'' tk'' h'' es F4 N4 hp0 hp1 ez15 hW1 hg0 hg1 hraw => ?_
    subst es
    subst ez15
    clear F3 N3
    have fin : ∀ v h' tk m, Fr g s.heap.objs.size h' m →
        News g s.heap.objs.size h' (rdCore w r dx ld t1 t2 t3'' p) → ¬ 127 < gg → (gg = 0 → Wt = 1) → v = unz (T + gg * Wt) → ∀ tw, Q (.int v tw) { s with heap := h', toks := tk } := by
      intro v h' tk m F5 N5 h127 hz hv tw
      rw [hv]
      refine ok (T + gg * Wt) p h' tk tw t3'' ?_ hp0 hp1 (kp_out co F5 rfl N5 kp (hW' t3'' p)) (N5 _ (.tail _ (.head _))).1
      rw [hraw, rawNum, if_neg h127, if_neg (by rintro ⟨q1, q2⟩; rw [hz q1] at q2; simp at q2), Option.map_some, Int.mul_comm Wt gg]
    refine (?_ : wpAny (model PR w) _ _ _ _ _)
    (repeat' (first | (k_unfold; (try dsimp only)) | ((fail_if_success (with_reducible first | refine (?_ : Exists _) | show wpAny _ _ (exec (Stmt.While _ _ _ _) _) _ _ _ | show wpAny _ _ (exec (Stmt.For _ _ _ _ _) _) _ _ _ | show wpAny _ _ (PySem.call (Value.ref _) _ _) _ _ _)); walk1) | dsimp only | fail "no step"))
    · rename Fr _ _ _ _ => F5
      rename News _ _ _ _ => N5
      refine byte_call G (C'.now B F5) (co.in (C'.now B F5) N5 (hs _ _)) hne (Fr.lst F5 hl') hI (by omega) hsz hby ?_ ?_
      case refine_2 =>
        intro e h6 tk6 hge x
        refine noted_fx (C'.now B F5).stack rfl ((x.mono (by simp)).fx.before (kp_out co F5 rfl N5 kp (hW' _ _))) fun h7 y => er' ?_ e h7 _ y
        rw [hraw, List.drop_eq_nil_of_le (by omega), raw_out (by assumption)]
      intro n6 h6 tk6 tv6 t36 hn6 k6 e6
      have F6 := k6.fr F5 (by simpa using hdL.symm) (by simpa using hdg)
      have N6 := rd_news N5 hne k6 e6
      clear F5 N5
      (repeat' (first | (k_unfold; (try dsimp only)) | ((fail_if_success (with_reducible first | refine (?_ : Exists _) | show wpAny _ _ (exec (Stmt.While _ _ _ _) _) _ _ _ | show wpAny _ _ (exec (Stmt.For _ _ _ _ _) _) _ _ _ | show wpAny _ _ (PySem.call (Value.ref _) _ _) _ _ _)); walk1) | dsimp only | fail "no step"))
      rename Fr _ _ _ _ => F7
      rename News _ _ _ _ => N7
      have hlt : p.toNat < ns.length := (List.getElem?_eq_some_iff.mp hn6).1
      have hb := hby n6 (List.mem_of_getElem? hn6)
      refine ⟨(ns.length - (p + 1)).toNat, by omega, box fun PP kk => kk (T + (gg - 128) * Wt) (Wt * 128) n6 (p + 1) _ _ _ _ _ _ rfl (Fr.tidy F7 (by simp only [List.forall_mem_cons]; exact ⟨rfl, rfl, rfl, rfl, nofun⟩) (by intro y hy; simp only [List.map_cons, List.map_nil, List.mem_cons, List.not_mem_nil, or_false, not_or] at hy; simp [hy])) N7 (by omega) (by omega) rfl (by omega) hb.1 hb.2 ?_⟩
      rw [hraw, drop_some hn6, raw_turn (by assumption)]
      have e1 : decide (Wt * 128 = 1) = false := decide_eq_false (by omega)
      have e2 : (p + 1).toNat = p.toNat + 1 := by omega
      rw [e1, e2]
    · have F5 := F4
      have N5 := N4
      refine fail_call G (C'.now B F4).less (co.in (C'.now B F4) N4 (hs _ _)) ?_
      intro e h6 tk6 x
      refine er' ?_ e h6 _ ((x.mono (by simp)).fx.before (kp_out co F4 rfl N4 kp (hW' _ _)))
      have z : gg = 0 := by assumption
      rw [hraw, rawNum, if_neg (by omega), if_pos ⟨z, decide_eq_false (by omega)⟩]; rfl
    · exact fin _ _ _ _ (by assumption) (by assumption) (by assumption) (fun _ => by omega) (by rw [unz, if_pos (by assumption)]) _
    · exact fin _ _ _ _ (by assumption) (by assumption) (by assumption) (fun _ => by omega) (by rw [unz, if_neg (by assumption)]) _
    · exact fin _ _ _ _ (by assumption) (by assumption) (by assumption) (fun _ => by omega) (by rw [unz, if_pos (by assumption)]) _
    · exact fin _ _ _ _ (by assumption) (by assumption) (by assumption) (fun _ => by omega) (by rw [unz, if_neg (by assumption)]) _
  · have hlt : i.toNat < ns.length := (List.getElem?_eq_some_iff.mp hn).1
    have hb := hby n (List.mem_of_getElem? hn)
    refine box fun PP kk => kk 0 1 n (i + 1) _ _ _ _ _ _ rfl (Fr.tidy F3 (by simp only [List.forall_mem_cons]; exact ⟨rfl, rfl, rfl, rfl, nofun⟩) (by intro y hy; simp only [List.map_cons, List.map_nil, List.mem_cons, List.not_mem_nil, or_false, not_or] at hy; simp [hy])) N3 (by omega) (by omega) rfl (by omega) hb.1 hb.2 ?_
    have e2 : (i + 1).toNat = i.toNat + 1 := by omega
    rw [e2, drop_some hn, show decide ((1 : Int) = 1) = true from rfl]
    cases rawNum true (n :: ns.drop (i.toNat + 1)) with
    | none => rfl
    | some x => simp
end Mine
end

section
open PySem PySem.W PyProof.Rows PySem.Calls

namespace Mine

variable {w : World} {mean : ExcName → Option Value} {mg mb : Str → Option Value} {base : Heap} {A : Around} {l : List Env} {s : Shared}

def pNum (r : List Int) : Option (Int × List Int) := (rawNum true r).map fun x => (unz x.1, x.2)
def pCount (r : List Int) : Option (Int × List Int) := match pNum r with
  | none => none
  | some (n, r') => if n < 0 ∨ r'.length < n then none else some (n, r')

theorem rd_W {r dx ld : Addr} {t1 t2 t3 : Tok} {i : Int} (t3' : Tok) (i' : Int) : ∀ p ∈ rdCore w r dx ld t1 t2 t3 i, p.1 ∈ [dx] ∨ p ∈ rdCore w r dx ld t1 t2 t3' i' := fun p hp => by
  rcases List.mem_cons.mp hp with rfl | hp
  · exact .inr (.head _)
  · rcases List.mem_cons.mp hp with rfl | hp
    · exact .inl (.head _)
    · cases hp
theorem rd_same {r dx ld : Addr} {t1 t2 t3 : Tok} {i : Int} (t3' : Tok) (i' : Int) : ∀ p ∈ rdCore w r dx ld t1 t2 t3' i', ∃ q ∈ rdCore w r dx ld t1 t2 t3 i, q.1 = p.1 := fun p hp => by
  rcases List.mem_cons.mp hp with rfl | hp
  · exact ⟨_, .head _, rfl⟩
  · rcases List.mem_cons.mp hp with rfl | hp
    · exact ⟨_, .tail _ (.head _), rfl⟩
    · cases hp

theorem count_call {r dx ld : Addr} {t1 t2 t3 : Tok} {i : Int} {vs : List Value} {ns : List Int} {Q E : Value → Shared → Prop}
    (G : Gr w mean mg mb base) (C : At base A l 6 s.heap) (co : Core base l s.heap (rdCore w r dx ld t1 t2 t3 i)) (hne : r ≠ dx)
    (hl : s.heap.IsList ld vs.toArray) (hI : IntsAre vs ns) (h0 : 0 ≤ i) (hsz : ns.length < 1048576) (hby : ∀ n ∈ ns, 0 ≤ n ∧ n ≤ 255)
    (ok : ∀ n i' h' tk tv t3', pCount (ns.drop i.toNat) = some (n, ns.drop i'.toNat) → 0 ≤ n → n ≤ ns.length - i' → i < i' → i' ≤ ns.length → Kp [dx] s.heap h' → h'.get? dx = some (rdDict w t1 t2 t3' ld i') → Q (.int n tv) { s with heap := h', toks := tk })
    (er : ∀ e h' tk, pCount (ns.drop i.toNat) = none → Ex base l [dx] s.heap h' e → E (.ref e) { s with heap := h', toks := tk }) : wpAny (model PR w) A (call (.ref 151) [.ref r]) Q E s := by
  refine wpAny_call ?_
  refine enter G C co (by k_is) (by k_is) (BindsTo.of_eq (binds := [("self", .ref r)]) rfl) (locs rfl) ?_
  intro g h₁ F N B X TT kp rv C'
  have hl' : g.IsList ld vs.toArray := rd_list co hl kp
  have hdg : g.get? dx = none := (N _ (.tail _ (.head _))).2.2
  have hdL : dx ≠ s.heap.objs.size := (N _ (.tail _ (.head _))).2.1
  refine (?_ : wpAny (model PR w) _ _ _ _ _)
  k_fold
  have er' := fun hr => mk_er (M := model PR w) (E' := E) (R := E) C' B (er · · · hr)
  (repeat' (first | (k_unfold; (try dsimp only)) | ((fail_if_success (with_reducible first | refine (?_ : Exists _) | show wpAny _ _ (exec (Stmt.While _ _ _ _) _) _ _ _ | show wpAny _ _ (exec (Stmt.For _ _ _ _ _) _) _ _ _ | show wpAny _ _ (PySem.call (Value.ref _) _ _) _ _ _ | show wpAny _ _ (PySem.call (Value.type "range") _ _) _ _ _ | show wpAny _ _ (pyIter _) _ _ _)); walk1) | dsimp only | fail "no step"))
  refine number_call G (C'.now B F) (co.in (C'.now B F) N (rd_same _ _)) hne (Fr.lst F hl') hI h0 hsz hby ?_ ?_
  case refine_2 =>
    intro e h2 tk2 hr x
    refine er' ?_ e h2 _ (x.fx.before (kp_out co F rfl N kp (rd_W _ _)))
    rw [pCount, pNum, hr]; rfl
  intro t i' h2 tk2 tv t3' hr hi1 hi2 k2 e2
  have F2 := k2.fr F (by simpa using hdL.symm) (by simpa using hdg)
  have N2 := rd_news N hne k2 e2
  clear F N
  (repeat' (first | (k_unfold; (try dsimp only)) | ((fail_if_success (with_reducible first | refine (?_ : Exists _) | show wpAny _ _ (exec (Stmt.While _ _ _ _) _) _ _ _ | show wpAny _ _ (exec (Stmt.For _ _ _ _ _) _) _ _ _ | show wpAny _ _ (PySem.call (Value.ref _) _ _) _ _ _ | show wpAny _ _ (PySem.call (Value.type "range") _ _) _ _ _ | show wpAny _ _ (pyIter _) _ _ _)); walk1) | dsimp only | fail "no step"))
  · rename Fr _ _ _ _ => F3
    rename News _ _ _ _ => N3
    refine fail_call G (C'.now B F3).less (co.in (C'.now B F3) N3 (rd_same _ _)) ?_
    intro e h6 tk6 x
    refine er' ?_ e h6 _ ((x.mono (by simp)).fx.before (kp_out co F3 rfl N3 kp (rd_W _ _)))
    simp only [pCount, pNum, hr, Option.map_some]
    rw [if_pos (.inl (by assumption))]
  · rename Fr _ _ _ _ => F3
    rename News _ _ _ _ => N3
    refine fail_call G (C'.now B F3).less (co.in (C'.now B F3) N3 (rd_same _ _)) ?_
    intro e h6 tk6 x
    refine er' ?_ e h6 _ ((x.mono (by simp)).fx.before (kp_out co F3 rfl N3 kp (rd_W _ _)))
    simp only [pCount, pNum, hr, Option.map_some, List.length_drop]
    rw [if_pos (.inr (by omega))]
  · rename Fr _ _ _ _ => F3
    rename News _ _ _ _ => N3
    refine ok (unz t) i' _ _ _ t3' ?_ (by omega) (by omega) hi1 hi2 (kp_out co F3 rfl N3 kp (rd_W _ _)) (N3 _ (.tail _ (.head _))).1
    simp only [pCount, pNum, hr, Option.map_some, List.length_drop]
    rw [if_neg (by omega)]

def pCodes : Nat → List Int → Option (List Nat × List Int)
  | 0, r => some ([], r)
  | k + 1, r => match pNum r with
    | none => none
    | some (c, r') => if c < 0 ∨ 1114111 < c then none else (pCodes k r').map fun x => (c.toNat :: x.1, x.2)
def pText (r : List Int) : Option (Str × List Int) := match pCount r with
  | none => none
  | some (n, r') => (pCodes n.toNat r').map fun x => (⟨x.1.toArray⟩, x.2)

theorem fold_chars (cs : List Nat) : ∀ a : Array Nat, (cs.map fun c => Str.mk #[c]).foldl (fun acc p => acc ++ (Str.ofString "").cps ++ p.cps) a = a ++ cs.toArray := by
  induction cs with
  | nil => intro a; simp
  | cons c r ih =>
    intro a
    rw [List.map_cons, List.foldl_cons, ih]
    show a ++ #[] ++ #[c] ++ r.toArray = _
    simp
theorem join_chars (cs : List Nat) : Txt.join (Str.ofString "") (cs.map fun c => Str.mk #[c]) = ⟨cs.toArray⟩ := by
  unfold Txt.join Builtin.Str.glued
  cases cs with
  | nil => rfl
  | cons c r =>
    rw [List.map_cons, List.drop_one, List.tail_cons, fold_chars]
    show Str.mk (#[c] ++ r.toArray) = _
    simp

theorem rd_news1 {g h₁ h₂ : Heap} {L r dx ld a : Addr} {o : Obj} {t1 t2 t3 t3' : Tok} {i i' : Int} (N : News g L h₁ ((a, o) :: rdCore w r dx ld t1 t2 t3 i)) (hne : r ≠ dx) (ha : a ≠ dx) (k : Kp [dx] h₁ h₂) (e : h₂.get? dx = some (rdDict w t1 t2 t3' ld i')) :
    News g L h₂ ((a, o) :: rdCore w r dx ld t1 t2 t3' i') := News.cons (k.2 _ _ (N _ (.head _)).1 (by simpa using ha)) (N _ (.head _)).2.1 (N _ (.head _)).2.2 (rd_news (News.tail N) hne k e)
theorem rd_news2 {g h₁ h₂ : Heap} {L r dx ld a b : Addr} {o o2 : Obj} {t1 t2 t3 t3' : Tok} {i i' : Int} (N : News g L h₁ ((b, o2) :: (a, o) :: rdCore w r dx ld t1 t2 t3 i)) (hne : r ≠ dx) (ha : a ≠ dx) (hb : b ≠ dx) (k : Kp [dx] h₁ h₂) (e : h₂.get? dx = some (rdDict w t1 t2 t3' ld i')) :
    News g L h₂ ((b, o2) :: (a, o) :: rdCore w r dx ld t1 t2 t3' i') := News.cons (k.2 _ _ (N _ (.head _)).1 (by simpa using hb)) (N _ (.head _)).2.1 (N _ (.head _)).2.2 (rd_news1 (News.tail N) hne ha k e)

theorem text_call {r dx ld : Addr} {t1 t2 t3 : Tok} {i : Int} {vs : List Value} {ns : List Int} {Q E : Value → Shared → Prop}
    (G : Gr w mean mg mb base) (C : At base A l 7 s.heap) (co : Core base l s.heap (rdCore w r dx ld t1 t2 t3 i)) (hne : r ≠ dx)
    (hl : s.heap.IsList ld vs.toArray) (hI : IntsAre vs ns) (h0 : 0 ≤ i) (hsz : ns.length < 1048576) (hby : ∀ n ∈ ns, 0 ≤ n ∧ n ≤ 255)
    (ok : ∀ x i' h' tk tv t3', pText (ns.drop i.toNat) = some (x, ns.drop i'.toNat) → x.length ≤ ns.length → i < i' → i' ≤ ns.length → Kp [dx] s.heap h' → h'.get? dx = some (rdDict w t1 t2 t3' ld i') → Q (.str x tv) { s with heap := h', toks := tk })
    (er : ∀ e h' tk, pText (ns.drop i.toNat) = none → Ex base l [dx] s.heap h' e → E (.ref e) { s with heap := h', toks := tk }) : wpAny (model PR w) A (call (.ref 158) [.ref r]) Q E s := by
  refine wpAny_call ?_
  refine enter G C co (by k_is) (by k_is) (BindsTo.of_eq (binds := [("self", .ref r)]) rfl) (locs rfl) ?_
  intro g h₁ F N B X TT kp rv C'
  have hl' : g.IsList ld vs.toArray := rd_list co hl kp
  have hdg : g.get? dx = none := (N _ (.tail _ (.head _))).2.2
  have hdL : dx ≠ s.heap.objs.size := (N _ (.tail _ (.head _))).2.1
  refine (?_ : wpAny (model PR w) _ _ _ _ _)
  k_fold
  have er' := fun hr => mk_er (M := model PR w) (E' := E) (R := E) C' B (er · · · hr)
  (repeat' (first | (k_unfold; (try dsimp only)) | ((fail_if_success (with_reducible first | refine (?_ : Exists _) | show wpAny _ _ (exec (Stmt.While _ _ _ _) _) _ _ _ | show wpAny _ _ (exec (Stmt.For _ _ _ _ _) _) _ _ _ | show wpAny _ _ (PySem.call (Value.ref _) _ _) _ _ _ | show wpAny _ _ (PySem.call (Value.type "range") _ _) _ _ _ | show wpAny _ _ (pyIter _) _ _ _)); walk1) | dsimp only | fail "no step"))
  rename Fr _ _ _ _ => F1
  rename News _ _ _ _ => N1
  rename_i lt _ l1 _
  have hlr : lt ≠ r := Nat.ne_of_gt l1.1
  have hld : lt ≠ dx := Nat.ne_of_gt l1.2
  refine wpAny_For ?_
  (repeat' (first | (k_unfold; (try dsimp only)) | ((fail_if_success (with_reducible first | refine (?_ : Exists _) | show wpAny _ _ (exec (Stmt.While _ _ _ _) _) _ _ _ | show wpAny _ _ (exec (Stmt.For _ _ _ _ _) _) _ _ _ | show wpAny _ _ (PySem.call (Value.ref _) _ _) _ _ _ | show wpAny _ _ (PySem.call (Value.type "range") _ _) _ _ _ | show wpAny _ _ (pyIter _) _ _ _)); walk1) | dsimp only | fail "no step"))
  refine count_call G (C'.now B F1) (co.in (C'.now B F1) (News.tail N1) (rd_same _ _)) hne (Fr.lst F1 hl') hI h0 hsz hby ?_ ?_
  case refine_2 =>
    intro e h2 tk2 hr x
    refine er' ?_ e h2 _ (x.fx.before (kp_out co F1 rfl (News.tail N1) kp (rd_W _ _)))
    rw [pText, hr]
  intro n i1 h2 tk2 tv t3' hr hn0 hn1 hi1 hi2 k2 e2
  dsimp only at k2
  have F2 := k2.fr F1 (by simpa using hdL.symm) (by simpa using hdg)
  have N2 := rd_news (News.tail N1) hne k2 e2
  have N2' := News.cons (k2.2 _ _ (N1 _ (.head _)).1 (by simpa using hld)) (N1 _ (.head _)).2.1 (N1 _ (.head _)).2.2 N2
  dsimp only at N2'
  have hltL : lt ≠ s.heap.objs.size := (N2' _ (.head _)).2.1
  have hltg : g.get? lt = none := (N2' _ (.head _)).2.2
  clear N2 F1 N1
  (repeat' (first | (k_unfold; (try dsimp only)) | ((fail_if_success (with_reducible first | refine (?_ : Exists _) | show wpAny _ _ (exec (Stmt.While _ _ _ _) _) _ _ _ | show wpAny _ _ (exec (Stmt.For _ _ _ _ _) _) _ _ _ | show wpAny _ _ (PySem.call (Value.ref _) _ _) _ _ _ | show wpAny _ _ (PySem.call (Value.type "range") _ _) _ _ _ | show wpAny _ _ (pyIter _) _ _ _)); walk1) | dsimp only | fail "no step"))
  refine range_iter hn0 (by omega) ?_
  intro I h3 tk3 k3 hI3 hit3
  have hsz2 : s.heap.objs.size < h2.objs.size := F2.ns.lt
  dsimp only at k3 hI3
  have hIL : I ≠ s.heap.objs.size := fun q => by rw [q] at hI3; exact absurd hsz2 (Nat.lt_asymm hI3)
  have hIg : g.get? I = none := none_of_le (Nat.le_of_lt (Nat.lt_of_le_of_lt F2.above (Nat.lt_trans hsz2 hI3)))
  have hIr : I ≠ r := fresh_ne (Nat.le_of_lt hI3) (N2' _ (.tail _ (.head _))).1
  have hId : I ≠ dx := fresh_ne (Nat.le_of_lt hI3) e2
  have hIl : I ≠ lt := fresh_ne (Nat.le_of_lt hI3) (N2' _ (.head _)).1
  have F3 := k3.fr F2 (by simp) (by simp)
  have N3 := News.cons hit3 hIL hIg (k3.news N2' (by simp))
  clear F2 N2'
  refine loop_range (n := n.toNat) (C'.now B F3).calm (fun (k : Nat) (s' : Shared) => Box (∀ PP : Prop, (∀ (p : Int) (cs : List Nat) (lv : List Value) (t3'' tk'' : Tok) (m : Str → Option Value) (h'' : Heap), s' = { s with heap := h'', toks := tk'' } → Fr g s.heap.objs.size h'' m → (∀ x ∈ [(Str.ofString "letters", Value.ref lt), (Str.ofString "self", Value.ref r)], m x.1 = some x.2) → News g s.heap.objs.size h'' ((I, rgObj k ((n.toNat : Int) - k)) :: (lt, W.listOf lv.toArray k) :: rdCore w r dx ld t1 t2 t3'' p) → i < p → p ≤ ns.length → cs.length = k → (StrsAre lv (cs.map fun c => Str.mk #[c])) → (pCodes n.toNat (ns.drop i1.toNat) = (pCodes (n.toNat - k) (ns.drop p.toNat)).map fun x => (cs ++ x.1, x.2)) → PP) → PP)) ?_ ?_ ?_ ?_
  · rintro k s' xx
    refine unbox xx _ fun p cs lv t3'' tk'' m h'' es F4 hm N4 _ _ _ _ _ => ?_
    subst es
    exact (N4 _ (.head _)).1
  · rintro k s' h5 tk5 hk xx hit5 hs5
    refine unbox xx _ fun p cs lv t3'' tk'' m h'' es F4 hm N4 hp0 hp1 hcs hlv hpc => ?_
    subst es
    have K5 := same_kp hs5
    have F5 := Fr.known (K5.fr F4 (by simpa using hIL.symm) (by simpa using hIg)) hm
    have N5 := News.cons hit5 hIL hIg (K5.news (News.tail N4) (by simp [hIr.symm, hId.symm, hIl.symm]))
    clear F4 N4 F3 N3
    dsimp only
    refine (?_ : wpAny (model PR w) _ _ _ _ _)
    (repeat' (first | (k_unfold; (try dsimp only)) | ((fail_if_success (with_reducible first | refine (?_ : Exists _) | show wpAny _ _ (exec (Stmt.While _ _ _ _) _) _ _ _ | show wpAny _ _ (exec (Stmt.For _ _ _ _ _) _) _ _ _ | show wpAny _ _ (PySem.call (Value.ref _) _ _) _ _ _ | show wpAny _ _ (PySem.call (Value.type "range") _ _) _ _ _ | show wpAny _ _ (pyIter _) _ _ _)); walk1) | dsimp only | fail "no step"))
    rename Fr _ _ _ _ => F6
    rename News _ _ _ _ => N6
    refine number_call G (C'.now B F6).less (co.in (C'.now B F6) (News.tail (News.tail N6)) (rd_same _ _)) hne (Fr.lst F6 hl') hI (by omega) hsz hby ?_ ?_
    case refine_2 =>
      intro e h7 tk7 hr7 x
      refine noted_fx (C'.now B F6).stack rfl (x.fx.before (kp_out co F6 rfl (News.tail (News.tail N6)) kp (rd_W _ _))) fun h8 y => er' ?_ e h8 _ y
      obtain ⟨j, hj⟩ : ∃ j, n.toNat - k = j + 1 := ⟨n.toNat - k - 1, by omega⟩
      simp only [pText, hr, hpc, hj, pCodes, pNum, hr7, Option.map_none]
    intro t7 i7 h7 tk7 tv7 t37 hr7 hi71 hi72 k7 e7
    dsimp only at k7
    have F7 := k7.fr F6 (by simpa using hdL.symm) (by simpa using hdg)
    have N7 := rd_news2 N6 hne hld hId k7 e7
    clear F6 N6
    have hstep : ∀ c : Nat, ¬ (unz t7 < 0 ∨ 1114111 < unz t7) → c = (unz t7).toNat → pCodes n.toNat (ns.drop i1.toNat) = (pCodes (n.toNat - (k + 1)) (ns.drop i7.toNat)).map fun x => ((cs ++ [c]) ++ x.1, x.2) := by
      intro c hc ec
      obtain ⟨j, hj⟩ : ∃ j, n.toNat - k = j + 1 := ⟨n.toNat - k - 1, by omega⟩
      have hj' : n.toNat - (k + 1) = j := by omega
      rw [hpc, hj, hj', pCodes]
      simp only [pNum, hr7, Option.map_some, if_neg hc, Option.map_map]
      congr 1
      funext x
      simp [ec]
    (repeat' (first | (k_unfold; (try dsimp only)) | ((fail_if_success (with_reducible first | refine (?_ : Exists _) | show wpAny _ _ (exec (Stmt.While _ _ _ _) _) _ _ _ | show wpAny _ _ (exec (Stmt.For _ _ _ _ _) _) _ _ _ | show wpAny _ _ (PySem.call (Value.ref _) _ _) _ _ _ | show wpAny _ _ (PySem.call (Value.type "range") _ _) _ _ _ | show wpAny _ _ (pyIter _) _ _ _)); walk1) | dsimp only | fail "no step"))
    · rename Fr _ _ _ _ => F8
      rename News _ _ _ _ => N8
      refine fail_call G (C'.now B F8).less (co.in (C'.now B F8) (News.tail (News.tail N8)) (rd_same _ _)) ?_
      intro e h9 tk9 x
      refine noted_fx (C'.now B F8).stack rfl ((x.mono (by simp)).fx.before (kp_out co F8 rfl (News.tail (News.tail N8)) kp (rd_W _ _))) fun h10 y => er' ?_ e h10 _ y
      obtain ⟨j, hj⟩ : ∃ j, n.toNat - k = j + 1 := ⟨n.toNat - k - 1, by omega⟩
      simp only [pText, hr, hpc, hj, pCodes, pNum, hr7, Option.map_some]
      rw [if_pos (.inl (by assumption))]; rfl
    · rename Fr _ _ _ _ => F8
      rename News _ _ _ _ => N8
      refine fail_call G (C'.now B F8).less (co.in (C'.now B F8) (News.tail (News.tail N8)) (rd_same _ _)) ?_
      intro e h9 tk9 x
      refine noted_fx (C'.now B F8).stack rfl ((x.mono (by simp)).fx.before (kp_out co F8 rfl (News.tail (News.tail N8)) kp (rd_W _ _))) fun h10 y => er' ?_ e h10 _ y
      obtain ⟨j, hj⟩ : ∃ j, n.toNat - k = j + 1 := ⟨n.toNat - k - 1, by omega⟩
      simp only [pText, hr, hpc, hj, pCodes, pNum, hr7, Option.map_some]
      rw [if_pos (.inr (by assumption))]; rfl
    · rename Fr _ _ _ _ => F8
      rename News _ _ _ _ => N8
      simp only [List.push_toArray] at N8
      refine box fun PP kk => kk i7 (cs ++ [(unz t7).toNat]) _ t37 _ _ _ rfl F8 ?_ N8 (by omega) hi72 (by simp [hcs]) ?_ (hstep _ (by omega) rfl)
      · simp only [List.forall_mem_cons]; exact ⟨rfl, rfl, nofun⟩
      · rw [List.map_append]
        exact StrsAre.append' hlv (.cons _ _ .nil)
  · rintro s' h5 xx he5
    refine unbox xx _ fun p cs lv t3'' tk'' m h'' es F4 hm N4 hp0 hp1 hcs hlv hpc => ?_
    subst es
    have F5 := Fr.known (Fr.ext F4 he5 hIL hIg) hm
    have N5 := News.ext (News.tail N4) he5 (by simp [hIr.symm, hId.symm, hIl.symm])
    clear F4 N4 F3 N3
    dsimp only
    refine (?_ : wpAny (model PR w) _ _ _ _ _)
    (repeat' (first | (k_unfold; (try dsimp only)) | ((fail_if_success (with_reducible first | refine (?_ : Exists _) | show wpAny _ _ (exec (Stmt.While _ _ _ _) _) _ _ _ | show wpAny _ _ (exec (Stmt.For _ _ _ _ _) _) _ _ _ | show wpAny _ _ (PySem.call (Value.ref _) _ _) _ _ _ | show wpAny _ _ (PySem.call (Value.type "range") _ _) _ _ _ | show wpAny _ _ (pyIter _) _ _ _)); walk1) | dsimp only | fail "no step"))
    have hlen : (cs.map fun c => Str.mk #[c]).length = n.toNat := by rw [List.length_map, hcs]
    have hsum : ((cs.map fun c => Str.mk #[c]).map (·.length)).sum = n.toNat := by
      rw [← hcs]
      clear hlen hpc hlv hcs
      induction cs with
      | nil => rfl
      | cons c r ih => simp only [List.map_cons, List.sum_cons, ih, List.length_cons]; show 1 + _ = _; omega
    refine join_list (items := lv.toArray) (ys := cs.map fun c => Str.mk #[c]) (News.isList N5 (.head _)) hlv ?_ ?_
    · rw [hsum, hlen, show (Str.ofString "").length = 0 from rfl]
      omega
    intro t6 k6
    (repeat' (first | (k_unfold; (try dsimp only)) | ((fail_if_success (with_reducible first | refine (?_ : Exists _) | show wpAny _ _ (exec (Stmt.While _ _ _ _) _) _ _ _ | show wpAny _ _ (exec (Stmt.For _ _ _ _ _) _) _ _ _ | show wpAny _ _ (PySem.call (Value.ref _) _ _) _ _ _ | show wpAny _ _ (PySem.call (Value.type "range") _ _) _ _ _ | show wpAny _ _ (pyIter _) _ _ _)); walk1) | dsimp only | fail "no step"))
    have hx : Txt.join (Str.ofString "") (cs.map fun c => Str.mk #[c]) = ⟨cs.toArray⟩ := join_chars cs
    rw [hx]
    refine ok _ p _ _ _ t3'' ?_ ?_ hp0 hp1 (kp_out co F5 rfl (News.tail N5) kp (rd_W _ _)) (N5 _ (.tail _ (.tail _ (.head _)))).1
    · simp only [pText, hr, hpc, Nat.sub_self, pCodes, Option.map_some, List.append_nil]
    · show cs.toArray.size ≤ _
      rw [List.size_toArray, hcs]; omega
  · refine box fun PP kk => kk i1 ([]) ([]) t3' _ _ _ rfl F3 ?_ ?_ hi1 hi2 rfl .nil ?_
    · simp only [List.forall_mem_cons]; exact ⟨rfl, rfl, nofun⟩
    · rw [show ((n.toNat : Int) - ((0 : Nat) : Int)) = n by omega]
      exact N3
    · simp
end Mine
end

section
open PySem PySem.W PyProof.Rows PySem.Calls

namespace Mine

variable {w : World} {mean : ExcName → Option Value} {mg mb : Str → Option Value} {base : Heap} {A : Around} {l : List Env} {s : Shared}


abbrev wrDict (w : World) (t1 : Tok) (lo : Addr) : Obj := dictOf [ent w "out" t1 (.ref lo)] 1
abbrev wrCore (w : World) (wr dw lo : Addr) (t1 : Tok) (vs : List Value) (ep : Nat) : List (Addr × Obj) := [(wr, instObj 98 dw), (dw, wrDict w t1 lo), (lo, W.listOf vs.toArray ep)]

def encNat (t : Nat) : List Int := if 127 < t then (128 + (t % 128 : Nat) : Int) :: encNat (t / 128) else [(t : Int)]
termination_by t
decreasing_by omega

theorem wr_W {wr dw lo : Addr} {t1 : Tok} {vs : List Value} {ep : Nat} (vs' : List Value) (ep' : Nat) : ∀ p ∈ wrCore w wr dw lo t1 vs ep, p.1 ∈ [lo] ∨ p ∈ wrCore w wr dw lo t1 vs' ep' := fun p hp => by
  rcases List.mem_cons.mp hp with rfl | hp
  · exact .inr (.head _)
  · rcases List.mem_cons.mp hp with rfl | hp
    · exact .inr (.tail _ (.head _))
    · rcases List.mem_cons.mp hp with rfl | hp
      · exact .inl (.head _)
      · cases hp
theorem wr_same {wr dw lo : Addr} {t1 : Tok} {vs : List Value} {ep : Nat} (vs' : List Value) (ep' : Nat) : ∀ p ∈ wrCore w wr dw lo t1 vs' ep', ∃ q ∈ wrCore w wr dw lo t1 vs ep, q.1 = p.1 := fun p hp => by
  rcases List.mem_cons.mp hp with rfl | hp
  · exact ⟨_, .head _, rfl⟩
  · rcases List.mem_cons.mp hp with rfl | hp
    · exact ⟨_, .tail _ (.head _), rfl⟩
    · rcases List.mem_cons.mp hp with rfl | hp
      · exact ⟨_, .tail _ (.tail _ (.head _)), rfl⟩
      · cases hp

theorem encNat_len (t : Nat) : (encNat t).length ≤ t / 128 + 1 := by
  induction t using Nat.strongRecOn with
  | ind t ih =>
    rw [encNat]
    split
    · have := ih (t / 128) (by omega)
      rw [List.length_cons]; omega
    · simp
theorem wnumber_call {wr dw lo : Addr} {t1 tn : Tok} {vs : List Value} {ep : Nat} {xs : List Int} {n : Int} {Q E : Value → Shared → Prop}
    (G : Gr w mean mg mb base) (C : At base A l 1 s.heap) (co : Core base l s.heap (wrCore w wr dw lo t1 vs ep)) (h1 : wr ≠ dw) (h2 : wr ≠ lo) (h3 : dw ≠ lo)
    (hI : IntsAre vs xs) (h0 : 0 ≤ n) (hn : n < 2000000) (hsz : xs.length < 1048576)
    (ok : ∀ h' tk vs' ep', IntsAre vs' (xs ++ encNat (2 * n.toNat)) → Kp [lo] s.heap h' → h'.get? lo = some (W.listOf vs'.toArray ep') → Q .none { s with heap := h', toks := tk }) :
    wpAny (model PR w) A (call (.ref 81) [.ref wr, .int n tn]) Q E s := by
  refine wpAny_call ?_
  refine enter G C co (by k_is) (by k_is) (BindsTo.of_eq (binds := [("self", .ref wr), ("n", .int n tn)]) rfl) (locs rfl) ?_
  intro g h₁ F N B X TT kp rv C'
  have hlg : g.get? lo = none := (N _ (.tail _ (.tail _ (.head _)))).2.2
  have hlL : lo ≠ s.heap.objs.size := (N _ (.tail _ (.tail _ (.head _)))).2.1
  refine (?_ : wpAny (model PR w) _ _ _ _ _)
  k_fold
  (repeat' (first | (k_unfold; (try dsimp only)) | ((fail_if_success (with_reducible first | refine (?_ : Exists _) | show wpAny _ _ (exec (Stmt.While _ _ _ _) _) _ _ _ | show wpAny _ _ (exec (Stmt.For _ _ _ _ _) _) _ _ _ | show wpAny _ _ (PySem.call (Value.ref _) _ _) _ _ _ | show wpAny _ _ (PySem.call (Value.type "range") _ _) _ _ _ | show wpAny _ _ (pyIter _) _ _ _)); walk1) | dsimp only | fail "no step"))
  rename Fr _ _ _ _ => F1
  rename News _ _ _ _ => N1
  refine wpAny_While ?_
  refine codeAny_whileLoop (fun (m : Nat) (s' : Shared) => Box (∀ PP : Prop, (∀ (acc : List Int) (vs' : List Value) (ep' : Nat) (tr tk'' : Tok) (mm : Str → Option Value) (h'' : Heap), s' = { s with heap := h'', toks := tk'' } → Fr g s.heap.objs.size h'' mm → (∀ x ∈ [(Str.ofString "rest", Value.int (m : Int) tr), (Str.ofString "self", Value.ref wr)], mm x.1 = some x.2) → News g s.heap.objs.size h'' (wrCore w wr dw lo t1 vs' ep') → IntsAre vs' (xs ++ acc) → acc ++ encNat m = encNat (2 * n.toNat) → acc.length + m ≤ 4000000 → PP) → PP)) ?_ (2 * n.toNat) ?_
  · rintro m s' xx
    refine unbox xx _ fun acc vs' ep' tr tk'' mm h'' es F2 hm N2 hI2 hacc hlen => ?_
    subst es
    have F3 := Fr.known F2 hm
    clear F1 N1 F2
    have hvl : vs'.length ≤ 6000000 := by rw [hI2.length, List.length_append]; omega
    dsimp only
    refine (?_ : wpAny (model PR w) _ _ _ _ _)
    (repeat' (first | (k_unfold; (try dsimp only)) | ((fail_if_success (with_reducible first | refine (?_ : Exists _) | show wpAny _ _ (exec (Stmt.While _ _ _ _) _) _ _ _ | show wpAny _ _ (exec (Stmt.For _ _ _ _ _) _) _ _ _ | show wpAny _ _ (PySem.call (Value.ref _) _ _) _ _ _ | show wpAny _ _ (PySem.call (Value.type "range") _ _) _ _ _ | show wpAny _ _ (pyIter _) _ _ _)); walk1) | dsimp only | fail "no step"))
    · rename Fr _ _ _ _ => F4
      rename News _ _ _ _ => N4
      have hm127 : 127 < m := by omega
      have e1 : Int.fdiv (m : Int) 128 = ((m / 128 : Nat) : Int) := by rw [Int.fdiv_eq_ediv_of_nonneg _ (by decide)]; rfl
      have e2 : Int.fmod (m : Int) 128 = ((m % 128 : Nat) : Int) := by rw [Int.fmod_eq_emod_of_nonneg _ (by decide)]; rfl
      simp only [e1] at F4
      simp only [e2, List.push_toArray] at N4
      refine ⟨m / 128, by omega, box fun PP kk => kk (acc ++ [128 + ((m % 128 : Nat) : Int)]) _ _ _ _ _ _ rfl F4 (by simp only [List.forall_mem_cons]; exact ⟨rfl, rfl, nofun⟩) N4 ?_ ?_ ?_⟩
      · rw [← List.append_assoc]
        exact IntsAre.append hI2 (IntsAre.cons _ _ .nil)
      · rw [← hacc]
        rw [encNat.eq_def m, if_pos hm127, List.append_assoc]
        rfl
      · rw [List.length_append, List.length_singleton]; omega
    · rename Fr _ _ _ _ => F4
      rename News _ _ _ _ => N4
      simp only [List.push_toArray] at N4
      have hm127 : ¬ 127 < m := by omega
      refine ok _ _ _ _ ?_ (kp_out co F4 rfl N4 kp (wr_W _ _)) (N4 _ (.tail _ (.tail _ (.head _)))).1
      rw [← hacc, encNat.eq_def m, if_neg hm127, ← List.append_assoc]
      exact IntsAre.append hI2 (IntsAre.cons _ _ .nil)
  · have e : 2 * n = (((2 * n.toNat : Nat) : Int)) := by omega
    simp only [e] at F1
    exact box fun PP kk => kk ([]) vs ep _ _ _ _ rfl F1 (by simp only [List.forall_mem_cons]; exact ⟨rfl, rfl, nofun⟩) N1 (by simpa using hI) rfl (by simp; omega)

theorem loop_str {prog : Program} {R : Result → Shared → Prop} {x : Str} {px : Pos} {body : List Stmt} {I : Addr} {y : Str} {t : Tok} {env : Env} (hh : A.handled = none) (J : Nat → Shared → Prop)
    (hJ : ∀ i s', J i s' → s'.heap.IsStrIter I "str_ascii_iterator" y t i)
    (turn : ∀ i s' h' c tk, y.cps[i]? = some c → J i s' → h'.IsStrIter I "str_ascii_iterator" y t (i + 1) → Heap.SameBut I s'.heap h' →
      wpAny (model prog w) A (assign (.Name x px) env (.str ⟨#[c]⟩ tk)) (fun _ s₂ => wpAny (model prog w) A (execs body env) (fun f s₃ => match f with
          | .next | .cont => J (i + 1) s₃
          | .brk => R (.ok .next) s₃
          | .ret v => R (.ok (.ret v)) s₃) (notedBy (model prog w) A env fun e s' => R (.error e) s') s₂) (notedBy (model prog w) A env fun e s' => R (.error e) s') { s' with heap := h', toks := s'.toks + 1 })
    (fin : ∀ s' h', J y.cps.size s' → Heap.ExtBut I s'.heap h' → R (.ok .next) { s' with heap := h' }) (h : J 0 s) :
    codeAny (model prog w) A (.forLoop (.Name x px) (.ref I) body [] env) R s := by
  refine codeAny_forLoop (fun k s' => ∃ i, J i s' ∧ i ≤ y.cps.size ∧ k = y.cps.size + 1 - i) ?_ (y.cps.size + 1) ⟨0, h, Nat.zero_le _, rfl⟩
  rintro k s' ⟨i, hJi, hi, rfl⟩
  have hit := hJ i s' hJi
  by_cases hlt : i < y.cps.size
  · refine wpAny_pyNext_ascii_item hit (Array.getElem?_eq_getElem hlt) fun h₁ hit₁ hs₁ => ?_
    refine wpAny_mono (turn i s' h₁ _ s'.toks (Array.getElem?_eq_getElem hlt) hJi hit₁ hs₁) (fun _ s₂ h₂ => ?_) fun _ _ e => e
    refine wpAny_mono h₂ (fun f s₃ h₃ => ?_) fun _ _ e => e
    cases f with
    | next => exact ⟨y.cps.size + 1 - (i + 1), by omega, i + 1, h₃, hlt, rfl⟩
    | cont => exact ⟨y.cps.size + 1 - (i + 1), by omega, i + 1, h₃, hlt, rfl⟩
    | brk => exact h₃
    | ret v => exact h₃
  · have hin : i = y.cps.size := by omega
    subst hin
    exact wpAny_pyNext_ascii_end hh hit (by simp) fun h₁ he₁ => wpAny_execs_nil (fin s' h₁ hJi he₁)

def encText (x : Str) : List Int := encNat (2 * x.length) ++ x.cps.toList.flatMap fun c => encNat (2 * c)

theorem wr_news {g h₁ h₂ : Heap} {L wr dw lo : Addr} {t1 : Tok} {vs vs' : List Value} {ep ep' : Nat} (N : News g L h₁ (wrCore w wr dw lo t1 vs ep)) (h2 : wr ≠ lo) (h3 : dw ≠ lo) (k : Kp [lo] h₁ h₂) (e : h₂.get? lo = some (W.listOf vs'.toArray ep')) :
    News g L h₂ (wrCore w wr dw lo t1 vs' ep') :=
  News.cons (k.2 _ _ (N _ (.head _)).1 (by simpa using h2)) (N _ (.head _)).2.1 (N _ (.head _)).2.2
    (News.cons (k.2 _ _ (N _ (.tail _ (.head _))).1 (by simpa using h3)) (N _ (.tail _ (.head _))).2.1 (N _ (.tail _ (.head _))).2.2
      (News.cons e (N _ (.tail _ (.tail _ (.head _)))).2.1 (N _ (.tail _ (.tail _ (.head _)))).2.2 News.nil))

theorem wtext_call {wr dw lo : Addr} {t1 tn : Tok} {vs : List Value} {ep : Nat} {xs : List Int} {x : Str} {Q E : Value → Shared → Prop}
    (G : Gr w mean mg mb base) (C : At base A l 2 s.heap) (co : Core base l s.heap (wrCore w wr dw lo t1 vs ep)) (h1 : wr ≠ dw) (h2 : wr ≠ lo) (h3 : dw ≠ lo)
    (hI : IntsAre vs xs) (ha : x.cps.all (· < 128) = true) (hx : x.length < 1000) (hsz : xs.length < 100000)
    (ok : ∀ h' tk vs' ep', IntsAre vs' (xs ++ encText x) → Kp [lo] s.heap h' → h'.get? lo = some (W.listOf vs'.toArray ep') → Q .none { s with heap := h', toks := tk }) :
    wpAny (model PR w) A (call (.ref 88) [.ref wr, .str x tn]) Q E s := by
  refine wpAny_call ?_
  refine enter G C co (by k_is) (by k_is) (BindsTo.of_eq (binds := [("self", .ref wr), ("s", .str x tn)]) rfl) (locs rfl) ?_
  intro g h₁ F N B X TT kp rv C'
  have hlg : g.get? lo = none := (N _ (.tail _ (.tail _ (.head _)))).2.2
  have hlL : lo ≠ s.heap.objs.size := (N _ (.tail _ (.tail _ (.head _)))).2.1
  refine (?_ : wpAny (model PR w) _ _ _ _ _)
  k_fold
  (repeat' (first | (k_unfold; (try dsimp only)) | ((fail_if_success (with_reducible first | refine (?_ : Exists _) | show wpAny _ _ (exec (Stmt.While _ _ _ _) _) _ _ _ | show wpAny _ _ (exec (Stmt.For _ _ _ _ _) _) _ _ _ | show wpAny _ _ (PySem.call (Value.ref _) _ _) _ _ _ | show wpAny _ _ (PySem.call (Value.type "range") _ _) _ _ _ | show wpAny _ _ (pyIter _) _ _ _)); walk1) | dsimp only | fail "no step"))
  refine wnumber_call G (C'.now B F).less (co.in (C'.now B F) N (wr_same _ _)) h1 h2 h3 hI (Int.natCast_nonneg _) (by omega) (by omega) ?_
  intro h2' tk2 vs2 ep2 hI2 k2 e2
  have F2 := k2.fr F (by simpa using hlL.symm) (by simpa using hlg)
  have N2 := wr_news N h2 h3 k2 e2
  clear F N
  (repeat' (first | (k_unfold; (try dsimp only)) | ((fail_if_success (with_reducible first | refine (?_ : Exists _) | show wpAny _ _ (exec (Stmt.While _ _ _ _) _) _ _ _ | show wpAny _ _ (exec (Stmt.For _ _ _ _ _) _) _ _ _ | show wpAny _ _ (PySem.call (Value.ref _) _ _) _ _ _ | show wpAny _ _ (PySem.call (Value.type "range") _ _) _ _ _ | show wpAny _ _ (pyIter _) _ _ _)); walk1) | dsimp only | fail "no step"))
  refine wpAny_For ?_
  (repeat' (first | (k_unfold; (try dsimp only)) | ((fail_if_success (with_reducible first | refine (?_ : Exists _) | show wpAny _ _ (exec (Stmt.While _ _ _ _) _) _ _ _ | show wpAny _ _ (exec (Stmt.For _ _ _ _ _) _) _ _ _ | show wpAny _ _ (PySem.call (Value.ref _) _ _) _ _ _ | show wpAny _ _ (PySem.call (Value.type "range") _ _) _ _ _ | show wpAny _ _ (pyIter _) _ _ _)); walk1) | dsimp only | fail "no step"))
  refine wpAny_pyIter_ascii ha ?_
  have hpush := Heap.get?_push_size h2' (o := { cls := .type "str_ascii_iterator", data := .fields #[.str x tn, .int 0 0] }) rfl
  have k3 : Kp [] h2' (h2'.push { cls := .type "str_ascii_iterator", data := .fields #[.str x tn, .int 0 0] }) := ⟨by rw [Heap.size_push]; exact Nat.le_succ _, fun b o q _ => Heap.get?_push_of_some _ q⟩
  dsimp only
  generalize hIe : h2'.objs.size = I at hpush
  generalize h2'.push { cls := .type "str_ascii_iterator", data := .fields #[.str x tn, .int 0 0] } = h3' at hpush k3
  have hIL : I ≠ s.heap.objs.size := fun q => by have := F2.ns.lt; rw [hIe, q] at this; exact absurd this (Nat.lt_irrefl _)
  have hIg : g.get? I = none := none_of_le (Nat.le_of_lt (Nat.lt_of_le_of_lt F2.above (hIe ▸ F2.ns.lt)))
  have hI1 : I ≠ wr := fresh_ne (Nat.le_of_eq hIe) (N2 _ (.head _)).1
  have hI2' : I ≠ dw := fresh_ne (Nat.le_of_eq hIe) (N2 _ (.tail _ (.head _))).1
  have hI3 : I ≠ lo := fresh_ne (Nat.le_of_eq hIe) e2
  have F3 := k3.fr F2 (by simp) (by simp)
  have N3 := News.cons hpush hIL hIg (k3.news N2 (by simp))
  clear F2 N2
  rw [Int.toNat_natCast] at hI2
  refine loop_str (y := x) (t := tn) (C'.now B F3).calm (fun (k : Nat) (s' : Shared) => Box (∀ PP : Prop, (∀ (vs' : List Value) (ep' : Nat) (tk'' : Tok) (m : Str → Option Value) (h'' : Heap) (o : Obj), s' = { s with heap := h'', toks := tk'' } → Fr g s.heap.objs.size h'' m → (∀ x ∈ [(Str.ofString "self", Value.ref wr)], m x.1 = some x.2) → News g s.heap.objs.size h'' ((I, o) :: wrCore w wr dw lo t1 vs' ep') → o.cls = .type "str_ascii_iterator" → o.data = .fields #[.str x tn, .int k 0] → (IntsAre vs' (xs ++ encNat (2 * x.length) ++ (x.cps.toList.take k).flatMap fun c => encNat (2 * c))) → (((x.cps.toList.take k).flatMap fun c => encNat (2 * c)).length ≤ 2 * k) → PP) → PP)) ?_ ?_ ?_ ?_
  · rintro k s' xx
    refine unbox xx _ fun vs' ep' tk'' m h'' o es F4 hm N4 ho1 ho2 _ _ => ?_
    subst es
    exact ⟨o, (N4 _ (.head _)).1, ho1, ho2⟩
  · rintro k s' h5 c tk5 hk xx ⟨o', ho', hc', hd'⟩ hs5
    refine unbox xx _ fun vs' ep' tk'' m h'' o es F4 hm N4 ho1 ho2 hI4 hl4 => ?_
    subst es
    have K5 := same_kp hs5
    have F5 := Fr.known (K5.fr F4 (by simpa using hIL.symm) (by simpa using hIg)) hm
    have N5 := News.cons ho' hIL hIg (K5.news (News.tail N4) (by simp [hI1.symm, hI2'.symm, hI3.symm]))
    have hks : k < x.cps.size := (Array.getElem?_eq_some_iff.mp hk).1
    have hks' : k < 1000 := Nat.lt_trans hks hx
    have hc128 : c < 128 := by
      have := Array.all_eq_true_iff_forall_mem.mp ha c (Array.mem_of_getElem? hk)
      simpa using this
    have htake : x.cps.toList.take (k + 1) = x.cps.toList.take k ++ [c] := by
      rw [List.take_succ, Array.getElem?_toList, hk]; rfl
    have henc : (encNat (2 * c)).length ≤ 2 := Nat.le_trans (encNat_len _) (by omega)
    have hlen0 : (encNat (2 * x.length)).length ≤ 20 := Nat.le_trans (encNat_len _) (by omega)
    clear F4 N4 F3 N3
    dsimp only
    refine (?_ : wpAny (model PR w) _ _ _ _ _)
    (repeat' (first | (k_unfold; (try dsimp only)) | ((fail_if_success (with_reducible first | refine (?_ : Exists _) | show wpAny _ _ (exec (Stmt.While _ _ _ _) _) _ _ _ | show wpAny _ _ (exec (Stmt.For _ _ _ _ _) _) _ _ _ | show wpAny _ _ (PySem.call (Value.ref _) _ _) _ _ _ | show wpAny _ _ (PySem.call (Value.type "range") _ _) _ _ _ | show wpAny _ _ (pyIter _) _ _ _)); walk1) | dsimp only | fail "no step"))
    rename Fr _ _ _ _ => F6
    rename News _ _ _ _ => N6
    refine wnumber_call G (C'.now B F6).less (co.in (C'.now B F6) (News.tail N6) (wr_same _ _)) h1 h2 h3 hI4 (Int.natCast_nonneg _) (by omega) (by simp only [List.length_append]; omega) ?_
    intro h7 tk7 vs7 ep7 hI7 k7 e7
    have F7 := k7.fr F6 (by simpa using hlL.symm) (by simpa using hlg)
    have N7 := News.cons (k7.2 _ _ (N6 _ (.head _)).1 (by simpa using hI3)) hIL hIg (wr_news (News.tail N6) h2 h3 k7 e7)
    clear F6 N6
    (repeat' (first | (k_unfold; (try dsimp only)) | ((fail_if_success (with_reducible first | refine (?_ : Exists _) | show wpAny _ _ (exec (Stmt.While _ _ _ _) _) _ _ _ | show wpAny _ _ (exec (Stmt.For _ _ _ _ _) _) _ _ _ | show wpAny _ _ (PySem.call (Value.ref _) _ _) _ _ _ | show wpAny _ _ (PySem.call (Value.type "range") _ _) _ _ _ | show wpAny _ _ (pyIter _) _ _ _)); walk1) | dsimp only | fail "no step"))
    rw [Int.toNat_natCast] at hI7
    refine box fun PP kk => kk vs7 ep7 _ _ _ o' rfl F7 (by simp only [List.forall_mem_cons]; exact ⟨rfl, nofun⟩) N7 hc' hd' ?_ ?_
    · rw [htake, List.flatMap_append, ← List.append_assoc]
      simpa using hI7
    · rw [htake, List.flatMap_append, List.length_append]
      simp only [List.flatMap_cons, List.flatMap_nil, List.append_nil]
      omega
  · rintro s' h5 xx he5
    refine unbox xx _ fun vs' ep' tk'' m h'' o es F4 hm N4 ho1 ho2 hI4 hl4 => ?_
    subst es
    have F5 := Fr.known (Fr.ext F4 he5 hIL hIg) hm
    have N5 := News.ext (News.tail N4) he5 (by simp [hI1.symm, hI2'.symm, hI3.symm])
    clear F4 N4 F3 N3
    dsimp only
    (repeat' (first | (k_unfold; (try dsimp only)) | ((fail_if_success (with_reducible first | refine (?_ : Exists _) | show wpAny _ _ (exec (Stmt.While _ _ _ _) _) _ _ _ | show wpAny _ _ (exec (Stmt.For _ _ _ _ _) _) _ _ _ | show wpAny _ _ (PySem.call (Value.ref _) _ _) _ _ _ | show wpAny _ _ (PySem.call (Value.type "range") _ _) _ _ _ | show wpAny _ _ (pyIter _) _ _ _)); walk1) | dsimp only | fail "no step"))
    refine ok _ _ vs' ep' ?_ (kp_out co F5 rfl N5 kp (wr_W _ _)) (N5 _ (.tail _ (.tail _ (.head _)))).1
    rw [List.take_of_length_le (by simp), List.append_assoc] at hI4
    exact hI4
  · refine box fun PP kk => kk vs2 ep2 _ _ _ _ rfl F3 (by simp only [List.forall_mem_cons]; exact ⟨rfl, nofun⟩) N3 rfl rfl (by simpa using hI2) (by simp)
end Mine
end

section
open PySem PySem.W PyProof.Rows PySem.Calls

namespace Mine

variable {w : World} {mean : ExcName → Option Value} {mg mb : Str → Option Value} {base : Heap} {A : Around} {l : List Env} {s : Shared}


theorem make_call {C fI : Addr} {rest : List Value} {n : Nat} {Q E : Value → Shared → Prop} (G : Gr w mean mg mb base) (Cc : At base A l (n + 1) s.heap)
    (hm : makesIn (hd.heap_1 w.params) C = true) (hi : findIn (hd.heap_1 w.params) (.ref C) "__init__" = some (some (.ref fI))) (hf : typeIn (hd.heap_1 w.params) (.ref fI) = some (.type "function"))
    (h : ∀ x dx h', Kp [] s.heap h' → s.heap.objs.size ≤ dx → dx < x → h'.get? x = some (instObj C dx) → h'.get? dx = some (dictOf [] 0) → At base (A.under (.builtin "type.__call__" ⟨.ref C :: rest, []⟩)) l n h' →
      codeAny (model PR w) (A.under (.builtin "type.__call__" ⟨.ref C :: rest, []⟩)) (.call (.ref fI) ⟨.ref x :: rest, []⟩) (InitBack x fun r s' => match r with | .ok (.ret v) => Q v s' | .ok _ => False | .error e => E e s') { s with heap := h' }) :
    wpAny (model PR w) A (call (.ref C) rest) Q E s := by
  obtain ⟨hh, gg, dd, tt, oo⟩ := s
  have X := G.K.keeps Cc.stays
  refine wpAny_call (make_core (makes_of X hm) (looks_findIn X hi) (fun self => bind_fn X self hf) (.inl rfl) ?_)
  have k : Kp [] hh ((hh.push emptyDict).push (instObj C hh.objs.size)) := ⟨by rw [Heap.size_push, Heap.size_push]; exact Nat.le_add_right _ 2, fun b o q _ => Heap.get?_push_of_some _ (Heap.get?_push_of_some _ q)⟩
  have g1 : ((hh.push emptyDict).push (instObj C hh.objs.size)).get? (hh.objs.size + 1) = some (instObj C hh.objs.size) := by heap_get
  have g2 : ((hh.push emptyDict).push (instObj C hh.objs.size)).get? hh.objs.size = some (dictOf [] 0) := Heap.get?_push_of_some _ (Heap.get?_push_size _ rfl)
  exact h (hh.objs.size + 1) hh.objs.size _ k (Nat.le_refl _) (Nat.lt_succ_self _) g1 g2 (k.at Cc.make (by simp) (by simp))

theorem Core.fresh {h h' : Heap} {core : List (Addr × Obj)} {n : Nat} (C : At base A l n h) (hc : ∀ p ∈ core, h'.get? p.1 = some p.2 ∧ h.objs.size ≤ p.1) : Core base l h' core := fun p hp => by
  obtain ⟨e, hle⟩ := hc p hp
  have hn : h.get? p.1 = none := none_of_le hle
  refine ⟨e, ?_, fun hm => ?_⟩
  · cases q : base.get? p.1 with
    | none => rfl
    | some o => have := C.stays _ _ q; rw [hn] at this; cases this
  · obtain ⟨_, o, ho, _⟩ := C.frames.mem hm
    rw [hn] at ho; cases ho

theorem rmake_call {ld : Addr} {Q E : Value → Shared → Prop} (G : Gr w mean mg mb base) (C : At base A l 2 s.heap)
    (ok : ∀ r dx h' tk t1 t2 t3, Kp [] s.heap h' → s.heap.objs.size ≤ dx → dx < r → h'.get? r = some (instObj 168 dx) → h'.get? dx = some (rdDict w t1 t2 t3 ld 0) → Q (.ref r) { s with heap := h', toks := tk }) :
    wpAny (model PR w) A (call (.ref 168) [.ref ld]) Q E s := by
  refine make_call (n := 1) (fI := 116) G C (by k_is) (by k_is) (by k_is) ?_
  intro r dx h' k hle hlt e1 e2 C1
  have co : Core base l h' [(r, instObj 168 dx), (dx, dictOf [] 0)] := Core.fresh C fun p hp => by
    rcases List.mem_cons.mp hp with rfl | hp
    · exact ⟨e1, Nat.le_of_lt (Nat.lt_of_le_of_lt hle hlt)⟩
    · rcases List.mem_cons.mp hp with rfl | hp
      · exact ⟨e2, hle⟩
      · cases hp
  refine enter (s := { s with heap := h' }) G C1 co (by k_is) (by k_is) (BindsTo.of_eq (binds := [("self", .ref r), ("data", .ref ld)]) rfl) (locs rfl) ?_
  intro g h₁ F N B X TT kp rv C'
  have hne : r ≠ dx := Nat.ne_of_gt hlt
  refine (?_ : wpAny (model PR w) _ _ _ _ _)
  k_fold
  (repeat' (first | (k_unfold; (try dsimp only)) | ((fail_if_success (with_reducible first | refine (?_ : Exists _) | show wpAny _ _ (exec (Stmt.While _ _ _ _) _) _ _ _ | show wpAny _ _ (exec (Stmt.For _ _ _ _ _) _) _ _ _ | show wpAny _ _ (PySem.call (Value.ref _) _ _) _ _ _ | show wpAny _ _ (PySem.call (Value.type "range") _ _) _ _ _ | show wpAny _ _ (pyIter _) _ _ _)); walk1) | dsimp only | fail "no step"))
  rename Fr _ _ _ _ => F2
  rename News _ _ _ _ => N2
  have k2 : Kp [dx] h' _ := kp_out co F2 rfl N2 kp fun p hp => by
    rcases List.mem_cons.mp hp with rfl | hp
    · exact .inr (.head _)
    · rcases List.mem_cons.mp hp with rfl | hp
      · exact .inl (.head _)
      · cases hp
  exact ⟨rfl, ok r dx _ _ _ _ _ (k.then k2 fun a ha => .inr (by rw [List.mem_singleton.mp ha]; exact none_of_le hle)) hle hlt (N2 _ (.head _)).1 (N2 _ (.tail _ (.head _))).1⟩

theorem wmake_call {Q E : Value → Shared → Prop} (G : Gr w mean mg mb base) (C : At base A l 2 s.heap)
    (ok : ∀ wr dw lo h' tk t1, Kp [] s.heap h' → s.heap.objs.size ≤ dw → dw < wr → wr < lo → h'.get? wr = some (instObj 98 dw) → h'.get? dw = some (wrDict w t1 lo) → h'.get? lo = some (W.listOf ([] : List Value).toArray 0) → Q (.ref wr) { s with heap := h', toks := tk }) :
    wpAny (model PR w) A (call (.ref 98) []) Q E s := by
  refine make_call (n := 1) (fI := 67) G C (by k_is) (by k_is) (by k_is) ?_
  intro r dx h' k hle hlt e1 e2 C1
  have co : Core base l h' [(r, instObj 98 dx), (dx, dictOf [] 0)] := Core.fresh C fun p hp => by
    rcases List.mem_cons.mp hp with rfl | hp
    · exact ⟨e1, Nat.le_of_lt (Nat.lt_of_le_of_lt hle hlt)⟩
    · rcases List.mem_cons.mp hp with rfl | hp
      · exact ⟨e2, hle⟩
      · cases hp
  refine enter (s := { s with heap := h' }) G C1 co (by k_is) (by k_is) (BindsTo.of_eq (binds := [("self", .ref r)]) rfl) (locs rfl) ?_
  intro g h₁ F N B X TT kp rv C'
  have hne : r ≠ dx := Nat.ne_of_gt hlt
  refine (?_ : wpAny (model PR w) _ _ _ _ _)
  k_fold
  (repeat' (first | (k_unfold; (try dsimp only)) | ((fail_if_success (with_reducible first | refine (?_ : Exists _) | show wpAny _ _ (exec (Stmt.While _ _ _ _) _) _ _ _ | show wpAny _ _ (exec (Stmt.For _ _ _ _ _) _) _ _ _ | show wpAny _ _ (PySem.call (Value.ref _) _ _) _ _ _ | show wpAny _ _ (PySem.call (Value.type "range") _ _) _ _ _ | show wpAny _ _ (pyIter _) _ _ _)); walk1) | dsimp only | fail "no step"))
  rename Fr _ _ _ _ => F2
  rename News _ _ _ _ => N2
  have k2 : Kp [dx] h' _ := kp_out co F2 rfl N2 kp fun p hp => by
    rcases List.mem_cons.mp hp with rfl | hp
    · exact .inr (.tail _ (.head _))
    · rcases List.mem_cons.mp hp with rfl | hp
      · exact .inl (.head _)
      · cases hp
  refine ⟨rfl, ok r dx _ _ _ _ (k.then k2 fun a ha => .inr (by rw [List.mem_singleton.mp ha]; exact none_of_le hle)) hle hlt ?_ (N2 _ (.tail _ (.head _))).1 (N2 _ (.tail _ (.tail _ (.head _)))).1 (N2 _ (.head _)).1⟩
  rename (_ < _ ∧ _ < _) => q
  exact q.1
end Mine
end

namespace Mine
open PySem PySem.W PyProof.Rows PySem.Calls
local macro_rules | `(tactic| k_all) => `(tactic| with_reducible assumption)
local macro_rules | `(tactic| k_ne) => `(tactic| (refine neN ?_; (try dsimp only); first | (with_reducible assumption) | (refine Ne.symm ?_; with_reducible assumption) | exact Nat.ne_of_gt (by assumption) | exact Nat.ne_of_lt (by assumption) | omega))

section
open PySem PySem.W PyProof.Rows PySem.Calls



variable {w : World} {mean : ExcName → Option Value} {mg mb : Str → Option Value} {base : Heap} {A : Around} {l : List Env} {s : Shared}



def pDir : Nat → Option Str → List Int → Option (List (Str × Int) × List Int)
  | 0, _, r => some ([], r)
  | k + 1, last, r => match pText r with
    | none => none
    | some (x, r1) => if (last.any fun y => !decide (y.cps.toList < x.cps.toList)) = true then none else match pNum r1 with
      | none => none
      | some (n, r2) => (pDir k (some x) r2).map fun z => ((x, n) :: z.1, z.2)
def pParts : Int → Int → List (Str × Int) → Option (List (Str × Int × Int))
  | a, tot, [] => if a ≠ tot then none else some []
  | a, tot, (x, n) :: r => if n < 0 ∨ tot < a + n then none else (pParts (a + n) tot r).map fun z => (x, a, a + n) :: z
def parse (ns : List Int) : Option (List (Str × Int × Int)) := match pCount ns with
  | none => none
  | some (n, r) => match pDir n.toNat none r with
    | none => none
    | some (es, r2) => pParts ((ns.length : Int) - r2.length) ns.length es

abbrev arDict (w : World) (t1 t2 t3 : Tok) (ld lo pd : Addr) : Obj := dictOf [ent w "data" t1 (.ref ld), ent w "order" t2 (.ref lo), ent w "parts" t3 (.ref pd)] 3
abbrev tupObj (a b : Int) (ta tb : Tok) : Obj := { cls := .type "tuple", data := .seq [Value.int a ta, Value.int b tb].toArray }
inductive PartsOk (tl : List (Addr × Obj)) : List (Str × Value) → List (Str × Int × Int) → Prop
  | nil : PartsOk tl [] []
  | cons {x : Str} {tp : Addr} {a b : Int} {ta tb : Tok} {kvs : List (Str × Value)} {ps : List (Str × Int × Int)} : (tp, tupObj a b ta tb) ∈ tl → PartsOk tl kvs ps → PartsOk tl ((x, .ref tp) :: kvs) ((x, a, b) :: ps)

theorem last_get {α : Type} (es : List (Str × α)) {k : Nat} (hes : es.length = k) (hk : 0 < k) : (es.getLast?.map (·.1)) = some ((es.map (·.1)).getD (k - 1) Str.empty) := by
  rw [List.getLast?_eq_getElem?, hes, ← List.getElem?_map]
  have : k - 1 < (es.map (·.1)).length := by rw [List.length_map]; omega
  simp only [List.getD, List.getElem?_eq_getElem this, Option.getD_some]
theorem ar_W {ar da lo pd : Addr} {o1 o2 o3 o4 : Obj} {core' : List (Addr × Obj)} (m1 : (ar, o1) ∈ core') (m2 : (da, o2) ∈ core') : ∀ p ∈ [(ar, o1), (da, o2), (lo, o3), (pd, o4)], p.1 ∈ [lo, pd] ∨ p ∈ core' := fun p hp => by
  rcases List.mem_cons.mp hp with rfl | hp
  · exact .inr m1
  · rcases List.mem_cons.mp hp with rfl | hp
    · exact .inr m2
    · rcases List.mem_cons.mp hp with rfl | hp
      · exact .inl (.head _)
      · rw [List.mem_singleton.mp hp]; exact .inl (.tail _ (.head _))

theorem drop_get (es : List (Str × Int)) {k : Nat} (hk : k < es.length) : es.drop k = ((es.map (·.1)).getD k Str.empty, (es.map (·.2)).getD k 0) :: es.drop (k + 1) := by
  have e1 : (es.map (·.1)).getD k Str.empty = es[k].1 := by simp [List.getD, hk]
  have e2 : (es.map (·.2)).getD k 0 = es[k].2 := by simp [List.getD, hk]
  rw [e1, e2]
  exact List.drop_eq_getElem_cons hk
theorem take_get (es : List (Str × Int)) {k : Nat} (hk : k < es.length) : (es.take (k + 1)).map (·.1) = (es.take k).map (·.1) ++ [(es.map (·.1)).getD k Str.empty] := by
  have e1 : (es.map (·.1)).getD k Str.empty = es[k].1 := by simp [List.getD, hk]
  rw [e1, List.take_succ_eq_append_getElem hk, List.map_append]
  rfl
theorem mem_ins {α : Type} {a b : List α} {x p : α} (hp : p ∈ a ++ x :: b) : p ∈ x :: (a ++ b) := by
  rcases List.mem_append.mp hp with h | h
  · exact .tail _ (List.mem_append_left _ h)
  · rcases List.mem_cons.mp h with rfl | h
    · exact .head _
    · exact .tail _ (List.mem_append_right _ h)
theorem mem_out {α : Type} {a b : List α} {x p : α} (hp : p ∈ x :: (a ++ b)) : p ∈ a ++ x :: b := by
  rcases List.mem_cons.mp hp with rfl | h
  · exact List.mem_append_right _ (.head _)
  · rcases List.mem_append.mp h with h | h
    · exact List.mem_append_left _ h
    · exact List.mem_append_right _ (.tail _ h)
theorem pDir_asc : ∀ {k : Nat} {last : Option Str} {r r' : List Int} {es : List (Str × Int)}, pDir k last r = some (es, r') →
    (∀ y ∈ last, ∀ x ∈ es, y.cps.toList < x.1.cps.toList) ∧ es.Pairwise (fun a b => a.1.cps.toList < b.1.cps.toList) ∧ es.length = k := by
  intro k
  induction k with
  | zero => intro last r r' es h; simp only [pDir, Option.some.injEq, Prod.mk.injEq] at h; rw [← h.1]; exact ⟨fun _ _ x hx => (nomatch hx), .nil, rfl⟩
  | succ k ih =>
    intro last r r' es h
    rw [pDir] at h
    split at h
    · cases h
    rename_i x r1 _
    split at h
    · cases h
    rename_i hl
    split at h
    · cases h
    rename_i n r2 _
    obtain ⟨⟨es2, r3⟩, h2, h3⟩ := Option.map_eq_some_iff.mp h
    simp only [Prod.mk.injEq] at h3
    obtain ⟨i1, i2, i3⟩ := ih h2
    have hlx : ∀ y ∈ last, y.cps.toList < x.cps.toList := fun y hy => by
      cases hy
      simpa using hl
    rw [← h3.1]
    refine ⟨fun y hy z hz => ?_, List.pairwise_cons.mpr ⟨fun z hz => i1 x rfl z hz, i2⟩, by rw [List.length_cons, i3]⟩
    rcases List.mem_cons.mp hz with rfl | hz
    · exact hlx y hy
    · exact List.lt_trans (hlx y hy) (i1 x rfl z hz)
theorem pDir_new {k n : Nat} {last : Option Str} {r r' : List Int} {es : List (Str × Int)} (h : pDir n last r = some (es, r')) (hk : k < es.length) :
    (es.map (·.1)).getD k Str.empty ∉ (es.take k).map (·.1) := by
  intro hm
  obtain ⟨z, hz, e⟩ := List.mem_map.mp hm
  obtain ⟨j, hj, rfl⟩ := List.mem_take_iff_getElem.mp hz
  have hj' : j < k := by omega
  have := List.pairwise_iff_getElem.mp (pDir_asc h).2.1 j k (by omega) hk hj'
  have e2 : (es.map (·.1)).getD k Str.empty = es[k].1 := by simp [List.getD, hk]
  rw [e2] at e
  rw [e] at this
  exact List.lt_irrefl _ this
theorem At.new {A : Around} {l : List Env} {n : Nat} {h : Heap} {e : Addr} (C : At base A l n h) (hn : h.get? e = none) : base.get? e = none := by
  cases q : base.get? e with
  | none => rfl
  | some o => have := C.stays _ _ q; rw [hn] at this; cases this
theorem PartsOk.mono {tl tl' : List (Addr × Obj)} (hs : ∀ p ∈ tl, p ∈ tl') : ∀ {kvs : List (Str × Value)} {ps : List (Str × Int × Int)}, PartsOk tl kvs ps → PartsOk tl' kvs ps
  | _, _, .nil => .nil
  | _, _, .cons m r => .cons (hs _ m) (r.mono hs)
theorem PartsOk.append {tl : List (Addr × Obj)} : ∀ {kvs kvs' : List (Str × Value)} {ps ps' : List (Str × Int × Int)}, PartsOk tl kvs ps → PartsOk tl kvs' ps' → PartsOk tl (kvs ++ kvs') (ps ++ ps')
  | _, _, _, _, .nil, h => h
  | _, _, _, _, .cons m r, h => .cons m (r.append h)

theorem AllNe.of {I : Addr} : ∀ {tl : List (Addr × Obj)}, (∀ q ∈ tl, q.1 ≠ I) → AllNe I tl
  | [], _ => trivial
  | q :: _, h => ⟨fun z => h q (.head _) z.symm, AllNe.of fun p hp => h p (.tail _ hp)⟩
theorem PartsOk.keys {tl : List (Addr × Obj)} : ∀ {kvs : List (Str × Value)} {ps : List (Str × Int × Int)}, PartsOk tl kvs ps → kvs.map (·.1) = ps.map (·.1)
  | _, _, .nil => rfl
  | _, _, .cons _ r => by rw [List.map_cons, List.map_cons, r.keys]

theorem readdir_call {ar da ld lo pd : Addr} {t1 t2 t3 : Tok} {od : Obj} {vs : List Value} {ns : List Int} {Q E : Value → Shared → Prop}
    (G : Gr w mean mg mb base) (C : At base A l 9 s.heap) (co : Core base l s.heap [(ar, instObj 224 da), (da, arDict w t1 t2 t3 ld lo pd), (lo, W.listOf ([] : List Value).toArray 0), (pd, od)])
    (hn1 : ar ≠ da) (hn2 : ar ≠ lo) (hn3 : ar ≠ pd) (hn4 : da ≠ lo) (hn5 : da ≠ pd) (hn6 : lo ≠ pd)
    (hod : od.IsDictOf (strKind PR w) []) (hl : s.heap.IsList ld vs.toArray) (hldlo : ld ≠ lo) (hI : IntsAre vs ns) (hsz : ns.length < 100000) (hby : ∀ n ∈ ns, 0 ≤ n ∧ n ≤ 255)
    (ok : ∀ h' tk lv ep o kvs tl ps, parse ns = some ps → Kp [lo, pd] s.heap h' → h'.get? lo = some (W.listOf lv.toArray ep) → StrsAre lv (ps.map (·.1)) → h'.get? pd = some o → o.IsDictOf (strKind PR w) kvs → PartsOk tl kvs ps → (∀ p ∈ tl, h'.get? p.1 = some p.2 ∧ s.heap.objs.size ≤ p.1) → Q .none { s with heap := h', toks := tk })
    (er : ∀ e h' tk, parse ns = none → Ex base l [lo, pd] s.heap h' e → E (.ref e) { s with heap := h', toks := tk }) :
    wpAny (model PR w) A (call (.ref 200) [.ref ar]) Q E s := by
  refine wpAny_call ?_
  refine enter G C co (by k_is) (by k_is) (BindsTo.of_eq (binds := [("self", .ref ar)]) rfl) (locs rfl) ?_
  intro g h₁ F N B X TT kp rv C'
  refine (?_ : wpAny (model PR w) _ _ _ _ _)
  k_fold
  have er' := fun hr => mk_er (M := model PR w) (E' := E) (R := E) C' B (er · · · hr)
  (repeat' (first | (k_unfold; (try dsimp only)) | ((fail_if_success (with_reducible first | refine (?_ : Exists _) | show wpAny _ _ (exec (Stmt.While _ _ _ _) _) _ _ _ | show wpAny _ _ (exec (Stmt.For _ _ _ _ _) _) _ _ _ | show wpAny _ _ (PySem.call (Value.ref _) _ _) _ _ _ | show wpAny _ _ (PySem.call (Value.type "range") _ _) _ _ _ | show wpAny _ _ (pyIter _) _ _ _ | show wpAny _ _ (PySem.call (Value.builtin "list.append") _ _) _ _ _ | show wpAny _ _ (PySem.call (Value.builtin "len") _ _) _ _ _ | show wpAny _ _ (setItem (Value.ref _) (Value.str _ _) _) _ _ _ | show wpAny _ _ (exec (Stmt.Raise _ _ _) _) _ _ _)); walk1) | dsimp only | fail "no step"))
  refine rmake_call G C'.less ?_
  intro r dx h2 tk2 u1 u2 u3 k2 hd2 hrd e1 e2
  dsimp only at k2 hd2
  have ne_dx : ∀ b o, h₁.get? b = some o → dx ≠ b := fun b o q => fresh_ne hd2 q
  have ne_r : ∀ b o, h₁.get? b = some o → r ≠ b := fun b o q => fresh_ne (Nat.le_of_lt (Nat.lt_of_le_of_lt hd2 hrd)) q
  have hm1 := N _ (.head _); have hm2 := N _ (.tail _ (.head _)); have hm3 := N _ (.tail _ (.tail _ (.head _))); have hm4 := N _ (.tail _ (.tail _ (.tail _ (.head _))))
  have q1 := ne_dx _ _ hm1.1; have q2 := ne_dx _ _ hm2.1; have q3 := ne_dx _ _ hm3.1; have q4 := ne_dx _ _ hm4.1
  have p1 := ne_r _ _ hm1.1; have p2 := ne_r _ _ hm2.1; have p3 := ne_r _ _ hm3.1; have p4 := ne_r _ _ hm4.1
  have hLh : s.heap.objs.size < h₁.objs.size := F.ns.lt
  have hrL : r ≠ s.heap.objs.size := by intro q; rw [q] at hrd; exact absurd (Nat.lt_of_le_of_lt hd2 hrd) (Nat.lt_asymm hLh)
  have hdL : dx ≠ s.heap.objs.size := by intro q; rw [q] at hd2; exact absurd hLh (Nat.not_lt.mpr hd2)
  have hlg : ∀ b, h₁.objs.size ≤ b → g.get? b = none := fun b hb => none_of_le (Nat.le_trans (Nat.le_of_lt (Nat.lt_of_le_of_lt F.above hLh)) hb)
  have F2 := k2.fr F (by simp) (by simp)
  have N2 := News.cons e1 hrL (hlg _ (Nat.le_of_lt (Nat.lt_of_le_of_lt hd2 hrd))) (News.cons e2 hdL (hlg _ hd2) (k2.news N (by simp)))
  have hl' : g.IsList ld vs.toArray := by
    obtain ⟨o, ho, hc, q⟩ := hl
    refine ⟨o, kp _ _ ho ?_, hc, q⟩
    have z1 : ld ≠ ar := by rintro rfl; rw [(co _ (.head _)).1] at ho; cases ho; cases hc
    have z2 : ld ≠ da := by rintro rfl; rw [(co _ (.tail _ (.head _))).1] at ho; cases ho; exact absurd hc (by simp)
    have z3 : ld ≠ pd := by rintro rfl; rw [(co _ (.tail _ (.tail _ (.tail _ (.head _))))).1] at ho; cases ho; obtain ⟨_, _, hx, _⟩ := hod; rw [hx.1] at hc; exact absurd hc (by simp)
    simp [z1, z2, hldlo, z3]
  clear F N hm1 hm2 hm3 hm4
  (repeat' (first | (k_unfold; (try dsimp only)) | ((fail_if_success (with_reducible first | refine (?_ : Exists _) | show wpAny _ _ (exec (Stmt.While _ _ _ _) _) _ _ _ | show wpAny _ _ (exec (Stmt.For _ _ _ _ _) _) _ _ _ | show wpAny _ _ (PySem.call (Value.ref _) _ _) _ _ _ | show wpAny _ _ (PySem.call (Value.type "range") _ _) _ _ _ | show wpAny _ _ (pyIter _) _ _ _ | show wpAny _ _ (PySem.call (Value.builtin "list.append") _ _) _ _ _ | show wpAny _ _ (PySem.call (Value.builtin "len") _ _) _ _ _ | show wpAny _ _ (setItem (Value.ref _) (Value.str _ _) _) _ _ _ | show wpAny _ _ (exec (Stmt.Raise _ _ _) _) _ _ _)); walk1) | dsimp only | fail "no step"))
  rename Fr _ _ _ _ => F3
  rename News _ _ _ _ => N3
  dsimp only at q1 q2 q3 q4 p1 p2 p3 p4
  rename_i ll _ l1 _
  obtain ⟨b1, b2, b3, b4, b5, b6⟩ := l1
  have hrdne : r ≠ dx := Nat.ne_of_gt hrd
  have hdn : s.heap.get? dx = none := none_of_le (Nat.le_trans (Nat.le_of_lt hLh) hd2)
  refine wpAny_For ?_
  (repeat' (first | (k_unfold; (try dsimp only)) | ((fail_if_success (with_reducible first | refine (?_ : Exists _) | show wpAny _ _ (exec (Stmt.While _ _ _ _) _) _ _ _ | show wpAny _ _ (exec (Stmt.For _ _ _ _ _) _) _ _ _ | show wpAny _ _ (PySem.call (Value.ref _) _ _) _ _ _ | show wpAny _ _ (PySem.call (Value.type "range") _ _) _ _ _ | show wpAny _ _ (pyIter _) _ _ _ | show wpAny _ _ (PySem.call (Value.builtin "list.append") _ _) _ _ _ | show wpAny _ _ (PySem.call (Value.builtin "len") _ _) _ _ _ | show wpAny _ _ (setItem (Value.ref _) (Value.str _ _) _) _ _ _ | show wpAny _ _ (exec (Stmt.Raise _ _ _) _) _ _ _)); walk1) | dsimp only | fail "no step"))
  refine count_call G (C'.now B F3).less (Core.mk (C'.now B F3) B (News.sub N3 (pick2 (by k_mem) (by k_mem)))) hrdne (Fr.lst F3 hl') hI (by decide) (by omega) hby ?_ ?_
  case refine_2 =>
    intro e h4 tk4 hr x
    refine er' ?_ e h4 _ (x.fx.back (kp_out co F3 rfl N3 kp (ar_W (by k_mem) (by k_mem))) (by simpa using .inr hdn))
    rw [show ns = ns.drop (Int.toNat 0) from rfl, parse, hr]
  intro n i1 h4 tk4 tv u3' hr hn0 hn1' hi1 hi2 k4 e4
  dsimp only at k4
  have F4 := k4.fr F3 (by simpa using hdL.symm) (by simpa using hlg _ hd2)
  have N4 := News.put (by k_upd) N3 k4 e4
  clear F3 N3
  (repeat' (first | (k_unfold; (try dsimp only)) | ((fail_if_success (with_reducible first | refine (?_ : Exists _) | show wpAny _ _ (exec (Stmt.While _ _ _ _) _) _ _ _ | show wpAny _ _ (exec (Stmt.For _ _ _ _ _) _) _ _ _ | show wpAny _ _ (PySem.call (Value.ref _) _ _) _ _ _ | show wpAny _ _ (PySem.call (Value.type "range") _ _) _ _ _ | show wpAny _ _ (pyIter _) _ _ _ | show wpAny _ _ (PySem.call (Value.builtin "list.append") _ _) _ _ _ | show wpAny _ _ (PySem.call (Value.builtin "len") _ _) _ _ _ | show wpAny _ _ (setItem (Value.ref _) (Value.str _ _) _) _ _ _ | show wpAny _ _ (exec (Stmt.Raise _ _ _) _) _ _ _)); walk1) | dsimp only | fail "no step"))
  refine range_iter hn0 (by omega) ?_
  intro I h5 tk5 k5 hI5 hit5
  dsimp only at k5 hI5
  have hIn : ∀ b, h4.objs.size ≤ b → g.get? b = none := fun b hb => none_of_le (Nat.le_trans (Nat.le_of_lt (Nat.lt_of_le_of_lt F4.above F4.ns.lt)) hb)
  have hIL : I ≠ s.heap.objs.size := fun q => by rw [q] at hI5; exact absurd F4.ns.lt (Nat.lt_asymm hI5)
  have hIg : g.get? I = none := hIn I (Nat.le_of_lt hI5)
  have ne_I : ∀ b o, h4.get? b = some o → I ≠ b := fun b o q => fresh_ne (Nat.le_of_lt hI5) q
  have i1' := ne_I _ _ (N4 _ (.head _)).1
  have i2' := ne_I _ _ (N4 _ (.tail _ (.head _))).1
  have i3' := ne_I _ _ (N4 _ (.tail _ (.tail _ (.head _)))).1
  have i4' := ne_I _ _ (N4 _ (.tail _ (.tail _ (.tail _ (.head _))))).1
  have i5' := ne_I _ _ (N4 _ (.tail _ (.tail _ (.tail _ (.tail _ (.head _)))))).1
  have i6' := ne_I _ _ (N4 _ (.tail _ (.tail _ (.tail _ (.tail _ (.tail _ (.head _))))))).1
  have i7' := ne_I _ _ (N4 _ (.tail _ (.tail _ (.tail _ (.tail _ (.tail _ (.tail _ (.head _)))))))).1
  dsimp only at i1' i2' i3' i4' i5' i6' i7'
  have F5 := k5.fr F4 (by simp) (by simp)
  have N5 := News.cons hit5 hIL hIg (k5.news N4 (by simp))
  clear F4 N4
  refine loop_range (n := n.toNat) (C'.now B F5).calm (fun (k : Nat) (s' : Shared) => Box (∀ PP : Prop, (∀ (p : Int) (es : List (Str × Int)) (lens names : List Value) (u' tk'' : Tok) (m : Str → Option Value) (h'' : Heap), s' = { s with heap := h'', toks := tk'' } → Fr g s.heap.objs.size h'' m → (∀ x ∈ [(Str.ofString "lengths", Value.ref ll), (Str.ofString "reader", Value.ref r), (Str.ofString "self", Value.ref ar)], m x.1 = some x.2) → News g s.heap.objs.size h'' [(I, rgObj k ((n.toNat : Int) - k)), (ll, W.listOf lens.toArray k), (r, instObj 168 dx), (dx, rdDict w u1 u2 u' ld p), (ar, instObj 224 da), (da, arDict w t1 t2 t3 ld lo pd), (lo, W.listOf names.toArray k), (pd, od)] → 0 < p → p ≤ ns.length → es.length = k → IntsAre lens (es.map (·.2)) → StrsAre names (es.map (·.1)) → (pDir n.toNat none (ns.drop i1.toNat) = (pDir (n.toNat - k) (es.getLast?.map (·.1)) (ns.drop p.toNat)).map fun z => (es ++ z.1, z.2)) → PP) → PP)) ?_ ?_ ?_ ?_
  · rintro k s' xx
    refine unbox xx _ fun p es lens names u' tk'' m h'' es F6 hm N6 _ _ _ _ _ _ => ?_
    subst es
    exact (N6 _ (.head _)).1
  · rintro k s' h6 tk6 hk xx hit6 hs6
    refine unbox xx _ fun p es lens names u' tk'' m h'' es F6 hm N6 hp0 hp1 hes hlens hnames hpd => ?_
    subst es
    have K6 := same_kp hs6
    have F7 := Fr.known (K6.fr F6 (by simpa using hIL.symm) (by simpa using hIg)) hm
    have N7 := News.put (by k_upd) N6 K6 hit6
    clear F6 N6 F5 N5
    dsimp only
    refine (?_ : wpAny (model PR w) _ _ _ _ _)
    (repeat' (first | (k_unfold; (try dsimp only)) | ((fail_if_success (with_reducible first | refine (?_ : Exists _) | show wpAny _ _ (exec (Stmt.While _ _ _ _) _) _ _ _ | show wpAny _ _ (exec (Stmt.For _ _ _ _ _) _) _ _ _ | show wpAny _ _ (PySem.call (Value.ref _) _ _) _ _ _ | show wpAny _ _ (PySem.call (Value.type "range") _ _) _ _ _ | show wpAny _ _ (pyIter _) _ _ _ | show wpAny _ _ (PySem.call (Value.builtin "list.append") _ _) _ _ _ | show wpAny _ _ (PySem.call (Value.builtin "len") _ _) _ _ _ | show wpAny _ _ (setItem (Value.ref _) (Value.str _ _) _) _ _ _ | show wpAny _ _ (exec (Stmt.Raise _ _ _) _) _ _ _)); walk1) | dsimp only | fail "no step"))
    rename Fr _ _ _ _ => F8
    rename News _ _ _ _ => N8
    refine text_call G (C'.now B F8).less (Core.mk (C'.now B F8) B (News.sub N8 (pick2 (by k_mem) (by k_mem)))) hrdne (Fr.lst F8 hl') hI (by omega) (by omega) hby ?_ ?_
    case refine_2 =>
      intro e h9 tk9 hr9 x
      refine noted_fx (C'.now B F8).stack rfl (x.fx.back (kp_out co F8 rfl N8 kp (ar_W (by k_mem) (by k_mem))) (by simpa using .inr hdn)) fun h10 y => er' ?_ e h10 _ y
      obtain ⟨j, hj⟩ : ∃ j, n.toNat - k = j + 1 := ⟨n.toNat - k - 1, by omega⟩
      rw [show ns = ns.drop (Int.toNat 0) from rfl, parse, hr]
      simp only [hpd, hj, pDir, hr9, Option.map_none]
    intro x i9 h9 tk9 tv9 u9 hr9 hx9 hi91 hi92 k9 e9
    dsimp only at k9
    have F9 := k9.fr F8 (by simpa using hdL.symm) (by simpa using hlg _ hd2)
    have N9 := News.put (by k_upd) N8 k9 e9
    clear F8 N8
    (repeat' (first | (k_unfold; (try dsimp only)) | ((fail_if_success (with_reducible first | refine (?_ : Exists _) | show wpAny _ _ (exec (Stmt.While _ _ _ _) _) _ _ _ | show wpAny _ _ (exec (Stmt.For _ _ _ _ _) _) _ _ _ | show wpAny _ _ (PySem.call (Value.ref _) _ _) _ _ _ | show wpAny _ _ (PySem.call (Value.type "range") _ _) _ _ _ | show wpAny _ _ (pyIter _) _ _ _ | show wpAny _ _ (PySem.call (Value.builtin "list.append") _ _) _ _ _ | show wpAny _ _ (PySem.call (Value.builtin "len") _ _) _ _ _ | show wpAny _ _ (setItem (Value.ref _) (Value.str _ _) _) _ _ _ | show wpAny _ _ (exec (Stmt.Raise _ _ _) _) _ _ _)); walk1) | dsimp only | fail "no step"))
    rename Fr _ _ _ _ => F10
    rename News _ _ _ _ => N10
    have hnl : names.length = k := by rw [hnames.len_eq, List.length_map, hes]
    refine len_of (News.isList N10 (by k_mem)) hnl (by omega) ?_
    have hnl' : names.length ≤ 1000000 := by omega
    have hll' : lens.length ≤ 1000000 := by rw [hlens.length, List.length_map, hes]; omega
    (repeat' (first | (k_unfold; (try dsimp only)) | ((fail_if_success (with_reducible first | refine (?_ : Exists _) | show wpAny _ _ (exec (Stmt.While _ _ _ _) _) _ _ _ | show wpAny _ _ (exec (Stmt.For _ _ _ _ _) _) _ _ _ | show wpAny _ _ (PySem.call (Value.ref _) _ _) _ _ _ | show wpAny _ _ (PySem.call (Value.type "range") _ _) _ _ _ | show wpAny _ _ (pyIter _) _ _ _ | show wpAny _ _ (PySem.call (Value.builtin "list.append") _ _) _ _ _ | show wpAny _ _ (PySem.call (Value.builtin "len") _ _) _ _ _ | show wpAny _ _ (setItem (Value.ref _) (Value.str _ _) _) _ _ _ | show wpAny _ _ (exec (Stmt.Raise _ _ _) _) _ _ _)); walk1) | dsimp only | fail "no step"))
    rotate_left 1
    · rename ¬ (_ < _) => hcmp
      rename Fr _ _ _ _ => F11
      rename News _ _ _ _ => N11
      have hlast : (es.getLast?.map (·.1)) = some ((es.map (·.1)).getD (k - 1) Str.empty) := last_get es hes (by omega)
      refine fail_call G (C'.now B F11).less (Core.mk (C'.now B F11) B (News.sub N11 (pick2 (by k_mem) (by k_mem)))) ?_
      intro e h12 tk12 xx
      refine noted_fx (C'.now B F11).stack rfl ((xx.mono (by simp)).fx.before (kp_out co F11 rfl N11 kp (ar_W (by k_mem) (by k_mem)))) fun h13 y => er' ?_ e h13 _ y
      obtain ⟨j, hj⟩ : ∃ j, n.toNat - k = j + 1 := ⟨n.toNat - k - 1, by omega⟩
      rw [show ns = ns.drop (Int.toNat 0) from rfl, parse, hr]
      have hidx : (-1 + ((es.map (·.1)).length : Int)).toNat = k - 1 := by rw [List.length_map, hes]; omega
      rw [hidx] at hcmp
      simp only [hpd, hj, pDir, hr9, hlast, Option.any_some, decide_eq_false hcmp, Bool.not_false, if_true, Option.map_none]
    all_goals (
      rename Fr _ _ _ _ => F11
      rename News _ _ _ _ => N11
      have hpass : (((es.getLast?.map (·.1)).any fun y => !decide (y.cps.toList < x.cps.toList)) = true) ↔ False := by
        by_cases hk0 : k = 0
        · rw [List.eq_nil_of_length_eq_zero (hes.trans hk0)]
          simp
        · rw [last_get es hes (by omega)]
          have hidx : (-1 + ((es.map (·.1)).length : Int)).toNat = k - 1 := by rw [List.length_map, hes]; omega
          first
            | (exfalso; omega)
            | (rename (_ : List Nat) < _ => hcmp
               rw [hidx] at hcmp
               simp only [Option.any_some, decide_eq_true hcmp, Bool.not_true, Bool.false_eq_true])
      refine append_K F11 N11 (by k_upd) ?_ (by rw [List.size_toArray, sizeLine_eq]; omega)
      intro h12 F12 N12
      clear F11 N11
      (repeat' (first | (k_unfold; (try dsimp only)) | ((fail_if_success (with_reducible first | refine (?_ : Exists _) | show wpAny _ _ (exec (Stmt.While _ _ _ _) _) _ _ _ | show wpAny _ _ (exec (Stmt.For _ _ _ _ _) _) _ _ _ | show wpAny _ _ (PySem.call (Value.ref _) _ _) _ _ _ | show wpAny _ _ (PySem.call (Value.type "range") _ _) _ _ _ | show wpAny _ _ (pyIter _) _ _ _ | show wpAny _ _ (PySem.call (Value.builtin "list.append") _ _) _ _ _ | show wpAny _ _ (PySem.call (Value.builtin "len") _ _) _ _ _ | show wpAny _ _ (setItem (Value.ref _) (Value.str _ _) _) _ _ _ | show wpAny _ _ (exec (Stmt.Raise _ _ _) _) _ _ _)); walk1) | dsimp only | fail "no step"))
      refine number_call G (C'.now B F12).less (Core.mk (C'.now B F12) B (News.sub N12 (pick2 (by k_mem) (by k_mem)))) hrdne (Fr.lst F12 hl') hI (by omega) (by omega) hby ?_ ?_
      case refine_2 =>
        intro e h13 tk13 hr13 xx
        refine noted_fx (C'.now B F12).stack rfl (xx.fx.back (kp_out co F12 rfl N12 kp (ar_W (by k_mem) (by k_mem))) (by simpa using .inr hdn)) fun h14 y => er' ?_ e h14 _ y
        obtain ⟨j, hj⟩ : ∃ j, n.toNat - k = j + 1 := ⟨n.toNat - k - 1, by omega⟩
        rw [show ns = ns.drop (Int.toNat 0) from rfl, parse, hr]
        simp only [hpd, hj, pDir, hr9, hpass, if_false, pNum, hr13, Option.map_none]
      intro t13 i13 h13 tk13 tv13 u13 hr13 hi131 hi132 k13 e13
      dsimp only at k13
      have F13 := k13.fr F12 (by simpa using hdL.symm) (by simpa using hlg _ hd2)
      have N13 := News.put (by k_upd) N12 k13 e13
      clear F12 N12
      (repeat' (first | (k_unfold; (try dsimp only)) | ((fail_if_success (with_reducible first | refine (?_ : Exists _) | show wpAny _ _ (exec (Stmt.While _ _ _ _) _) _ _ _ | show wpAny _ _ (exec (Stmt.For _ _ _ _ _) _) _ _ _ | show wpAny _ _ (PySem.call (Value.ref _) _ _) _ _ _ | show wpAny _ _ (PySem.call (Value.type "range") _ _) _ _ _ | show wpAny _ _ (pyIter _) _ _ _ | show wpAny _ _ (PySem.call (Value.builtin "list.append") _ _) _ _ _ | show wpAny _ _ (PySem.call (Value.builtin "len") _ _) _ _ _ | show wpAny _ _ (setItem (Value.ref _) (Value.str _ _) _) _ _ _ | show wpAny _ _ (exec (Stmt.Raise _ _ _) _) _ _ _)); walk1) | dsimp only | fail "no step"))
      refine append_K F13 N13 (by k_upd) ?_ (by rw [List.size_toArray, sizeLine_eq]; omega)
      intro h14 F14 N14
      clear F13 N13
      (repeat' (first | (k_unfold; (try dsimp only)) | ((fail_if_success (with_reducible first | refine (?_ : Exists _) | show wpAny _ _ (exec (Stmt.While _ _ _ _) _) _ _ _ | show wpAny _ _ (exec (Stmt.For _ _ _ _ _) _) _ _ _ | show wpAny _ _ (PySem.call (Value.ref _) _ _) _ _ _ | show wpAny _ _ (PySem.call (Value.type "range") _ _) _ _ _ | show wpAny _ _ (pyIter _) _ _ _ | show wpAny _ _ (PySem.call (Value.builtin "list.append") _ _) _ _ _ | show wpAny _ _ (PySem.call (Value.builtin "len") _ _) _ _ _ | show wpAny _ _ (setItem (Value.ref _) (Value.str _ _) _) _ _ _ | show wpAny _ _ (exec (Stmt.Raise _ _ _) _) _ _ _)); walk1) | dsimp only | fail "no step"))
      simp only [List.push_toArray] at N14
      refine box fun PP kk => kk i13 (es ++ [(x, unz t13)]) _ _ u13 _ _ _ rfl F14 (by simp only [List.forall_mem_cons]; exact ⟨rfl, rfl, rfl, nofun⟩) N14 (by omega) hi132 (by simp [hes]) ?_ ?_ ?_
      · rw [List.map_append]; exact IntsAre.append hlens (.cons _ _ .nil)
      · rw [List.map_append]; exact StrsAre.append' hnames (.cons _ _ .nil)
      · obtain ⟨j, hj⟩ : ∃ j, n.toNat - k = j + 1 := ⟨n.toNat - k - 1, by omega⟩
        have hj' : n.toNat - (k + 1) = j := by omega
        rw [hpd, hj, hj', pDir]
        simp only [hr9, hpass, if_false, pNum, hr13, Option.map_some, Option.map_map, List.getLast?_concat]
        congr 1
        funext z
        simp)
  · rintro s' h6 xx he6
    refine unbox xx _ fun p es lens names u' tk'' m h'' es F6 hm N6 hp0 hp1 hes hlens hnames hpd => ?_
    subst es
    have F7 := Fr.known (Fr.ext F6 he6 hIL hIg) hm
    have N7 := News.extA N6 he6 ⟨i1', i2', i3', i4', i5', i6', i7', trivial⟩
    clear F6 N6 F5 N5
    have hpd' : pDir n.toNat none (ns.drop i1.toNat) = some (es, ns.drop p.toNat) := by
      rw [hpd, Nat.sub_self]
      show Option.map _ (some ([], _)) = _
      rw [Option.map_some, List.append_nil]
    dsimp only
    refine (?_ : wpAny (model PR w) _ _ _ _ _)
    (repeat' (first | (k_unfold; (try dsimp only)) | ((fail_if_success (with_reducible first | refine (?_ : Exists _) | show wpAny _ _ (exec (Stmt.While _ _ _ _) _) _ _ _ | show wpAny _ _ (exec (Stmt.For _ _ _ _ _) _) _ _ _ | show wpAny _ _ (PySem.call (Value.ref _) _ _) _ _ _ | show wpAny _ _ (PySem.call (Value.type "range") _ _) _ _ _ | show wpAny _ _ (pyIter _) _ _ _ | show wpAny _ _ (PySem.call (Value.builtin "list.append") _ _) _ _ _ | show wpAny _ _ (PySem.call (Value.builtin "len") _ _) _ _ _ | show wpAny _ _ (setItem (Value.ref _) (Value.str _ _) _) _ _ _ | show wpAny _ _ (exec (Stmt.Raise _ _ _) _) _ _ _)); walk1) | dsimp only | fail "no step"))
    refine wpAny_For ?_
    (repeat' (first | (k_unfold; (try dsimp only)) | ((fail_if_success (with_reducible first | refine (?_ : Exists _) | show wpAny _ _ (exec (Stmt.While _ _ _ _) _) _ _ _ | show wpAny _ _ (exec (Stmt.For _ _ _ _ _) _) _ _ _ | show wpAny _ _ (PySem.call (Value.ref _) _ _) _ _ _ | show wpAny _ _ (PySem.call (Value.type "range") _ _) _ _ _ | show wpAny _ _ (pyIter _) _ _ _ | show wpAny _ _ (PySem.call (Value.builtin "list.append") _ _) _ _ _ | show wpAny _ _ (PySem.call (Value.builtin "len") _ _) _ _ _ | show wpAny _ _ (setItem (Value.ref _) (Value.str _ _) _) _ _ _ | show wpAny _ _ (exec (Stmt.Raise _ _ _) _) _ _ _)); walk1) | dsimp only | fail "no step"))
    rename Fr _ _ _ _ => F8
    rename News _ _ _ _ => N8
    have hps : parse ns = pParts p ns.length es := by
      rw [show ns = ns.drop (Int.toNat 0) from rfl, parse, hr]
      simp only [hpd']
      rw [show ns.drop (Int.toNat 0) = ns from rfl]
      congr 1
      rw [List.length_drop]
      omega
    have hll : lens.length = n.toNat := by rw [hlens.length, List.length_map, hes]
    refine len_of (News.isList N8 (by k_mem)) hll (by omega) ?_
    (repeat' (first | (k_unfold; (try dsimp only)) | ((fail_if_success (with_reducible first | refine (?_ : Exists _) | show wpAny _ _ (exec (Stmt.While _ _ _ _) _) _ _ _ | show wpAny _ _ (exec (Stmt.For _ _ _ _ _) _) _ _ _ | show wpAny _ _ (PySem.call (Value.ref _) _ _) _ _ _ | show wpAny _ _ (PySem.call (Value.type "range") _ _) _ _ _ | show wpAny _ _ (pyIter _) _ _ _ | show wpAny _ _ (PySem.call (Value.builtin "list.append") _ _) _ _ _ | show wpAny _ _ (PySem.call (Value.builtin "len") _ _) _ _ _ | show wpAny _ _ (setItem (Value.ref _) (Value.str _ _) _) _ _ _ | show wpAny _ _ (exec (Stmt.Raise _ _ _) _) _ _ _)); walk1) | dsimp only | fail "no step"))
    refine range_iter (Int.natCast_nonneg _) (by omega) ?_
    intro I2 h9 tk9 k9 hI9 hit9
    dsimp only at k9 hI9
    have hJL : I2 ≠ s.heap.objs.size := fun q => by rw [q] at hI9; exact absurd F8.ns.lt (Nat.lt_asymm hI9)
    have hJg : g.get? I2 = none := none_of_le (Nat.le_trans (Nat.le_of_lt (Nat.lt_of_le_of_lt F8.above F8.ns.lt)) (Nat.le_of_lt hI9))
    have ne_J := fun b o q => fresh_ne (b := b) (o := o) (Nat.le_of_lt hI9) q
    have j1 := ne_J _ _ (N8 _ (.head _)).1
    have j2 := ne_J _ _ (N8 _ (.tail _ (.head _))).1
    have j3 := ne_J _ _ (N8 _ (.tail _ (.tail _ (.head _)))).1
    have j4 := ne_J _ _ (N8 _ (.tail _ (.tail _ (.tail _ (.head _))))).1
    have j5 := ne_J _ _ (N8 _ (.tail _ (.tail _ (.tail _ (.tail _ (.head _)))))).1
    have j6 := ne_J _ _ (N8 _ (.tail _ (.tail _ (.tail _ (.tail _ (.tail _ (.head _))))))).1
    have j7 := ne_J _ _ (N8 _ (.tail _ (.tail _ (.tail _ (.tail _ (.tail _ (.tail _ (.head _)))))))).1
    dsimp only at j1 j2 j3 j4 j5 j6 j7
    have F9 := k9.fr F8 (by simp) (by simp)
    have N9 := News.cons hit9 hJL hJg (k9.news N8 (by simp))
    clear F8 N8
    refine loop_range (n := n.toNat) (C'.now B F9).calm (fun (k : Nat) (s' : Shared) => Box (∀ PP : Prop, (∀ (st : Int) (ps : List (Str × Int × Int)) (kvs : List (Str × Value)) (tl : List (Addr × Obj)) (od' : Obj) (tst tk'' : Tok) (m : Str → Option Value) (h'' : Heap), s' = { s with heap := h'', toks := tk'' } → Fr g s.heap.objs.size h'' m → (∀ x ∈ [(Str.ofString "start", Value.int st tst), (Str.ofString "lengths", Value.ref ll), (Str.ofString "reader", Value.ref r), (Str.ofString "self", Value.ref ar)], m x.1 = some x.2) → News g s.heap.objs.size h'' ((I2, rgObj k ((n.toNat : Int) - k)) :: (ll, W.listOf lens.toArray n.toNat) :: (r, instObj 168 dx) :: (dx, rdDict w u1 u2 u' ld p) :: (ar, instObj 224 da) :: (da, arDict w t1 t2 t3 ld lo pd) :: (lo, W.listOf names.toArray n.toNat) :: (pd, od') :: tl) → od'.IsDictOf (strKind PR w) kvs → PartsOk tl kvs ps → (∀ q ∈ tl, q.1 ≠ I2) → (∀ q ∈ tl, q.1 ≠ pd) → (∀ q ∈ tl, s.heap.objs.size ≤ q.1) → kvs.map (·.1) = (es.take k).map (·.1) → 0 ≤ st → st ≤ ns.length → pParts p ns.length es = (pParts st ns.length (es.drop k)).map (ps ++ ·) → PP) → PP)) ?_ ?_ ?_ ?_
    · rintro k s' xx
      refine unbox xx _ fun st ps kvs tl od' tst tk'' m h'' es F6 hm N6 _ _ _ _ _ _ _ _ _ => ?_
      subst es
      exact (N6 _ (.head _)).1
    · rintro k s' h6 tk6 hk xx hit6 hs6
      refine unbox xx _ fun st ps kvs tl od' tst tk'' m h'' es F6 hm N6 hod' hpo hti htp hts hkeys hst0 hst1 hpp => ?_
      subst es
      have K6 := same_kp hs6
      have F7 := Fr.known (K6.fr F6 (by simpa using hJL.symm) (by simpa using hJg)) hm
      have N7 := News.put (by k_upd) N6 K6 hit6
      clear F6 N6 F9 N9
      dsimp only
      refine (?_ : wpAny (model PR w) _ _ _ _ _)
      have hek : es.drop k = ((es.map (·.1)).getD k Str.empty, (es.map (·.2)).getD k 0) :: es.drop (k + 1) := drop_get es (by omega)
      have hkl : kvs.length = k := by rw [← List.length_map (f := (·.1)), hkeys, List.length_map, List.length_take]; omega
      have hit : (Int.toNat (k : Int)) = k := Int.toNat_natCast k
      have hlg2 : lens.length ≤ 1000000 := by omega
      (repeat' (first | (k_unfold; (try dsimp only)) | ((fail_if_success (with_reducible first | refine (?_ : Exists _) | show wpAny _ _ (exec (Stmt.While _ _ _ _) _) _ _ _ | show wpAny _ _ (exec (Stmt.For _ _ _ _ _) _) _ _ _ | show wpAny _ _ (PySem.call (Value.ref _) _ _) _ _ _ | show wpAny _ _ (PySem.call (Value.type "range") _ _) _ _ _ | show wpAny _ _ (pyIter _) _ _ _ | show wpAny _ _ (PySem.call (Value.builtin "list.append") _ _) _ _ _ | show wpAny _ _ (PySem.call (Value.builtin "len") _ _) _ _ _ | show wpAny _ _ (setItem (Value.ref _) (Value.str _ _) _) _ _ _ | show wpAny _ _ (exec (Stmt.Raise _ _ _) _) _ _ _)); walk1) | dsimp only | fail "no step"))
      · rename Fr _ _ _ _ => F8
        rename News _ _ _ _ => N8
        rename _ < (0 : Int) => hneg
        rw [hit] at hneg
        refine raise_fmt (C'.now B F8).calm ?_
        (repeat' (first | (k_unfold; (try dsimp only)) | ((fail_if_success (with_reducible first | refine (?_ : Exists _) | show wpAny _ _ (exec (Stmt.While _ _ _ _) _) _ _ _ | show wpAny _ _ (exec (Stmt.For _ _ _ _ _) _) _ _ _ | show wpAny _ _ (PySem.call (Value.ref _) _ _) _ _ _ | show wpAny _ _ (PySem.call (Value.type "range") _ _) _ _ _ | show wpAny _ _ (pyIter _) _ _ _ | show wpAny _ _ (PySem.call (Value.builtin "list.append") _ _) _ _ _ | show wpAny _ _ (PySem.call (Value.builtin "len") _ _) _ _ _ | show wpAny _ _ (setItem (Value.ref _) (Value.str _ _) _) _ _ _ | show wpAny _ _ (exec (Stmt.Raise _ _ _) _) _ _ _)); walk1) | dsimp only | fail "no step"))
        refine fmt_call G (C'.now B F8).less ?_
        intro h9 e D TA tk9 k9 hn9 he9
        dsimp only at k9 hn9
        have hb := At.new (C'.now B F8) hn9
        refine ⟨e, some D, TA, rfl, G.K.keeps fun b o q => k9.2 _ _ ((C'.now B F8).stays b o q) (by simp), he9, ?_⟩
        refine noted_first (k9.at (C'.now B F8) (by simp) (by simp)) rfl ((kp_out co F8 rfl N8 kp (ar_W (by k_mem) (by k_mem))).trans (k9.mono (by simp))) hb he9 fun h10 y => er' ?_ e h10 _ y
        rw [hps, hpp, hek, pParts, if_pos (Or.inl hneg)]; rfl
      · rename Fr _ _ _ _ => F8
        rename News _ _ _ _ => N8
        refine len_of (Fr.lst F8 hl') hI.length (by omega) ?_
        (repeat' (first | (k_unfold; (try dsimp only)) | ((fail_if_success (with_reducible first | refine (?_ : Exists _) | show wpAny _ _ (exec (Stmt.While _ _ _ _) _) _ _ _ | show wpAny _ _ (exec (Stmt.For _ _ _ _ _) _) _ _ _ | show wpAny _ _ (PySem.call (Value.ref _) _ _) _ _ _ | show wpAny _ _ (PySem.call (Value.type "range") _ _) _ _ _ | show wpAny _ _ (pyIter _) _ _ _ | show wpAny _ _ (PySem.call (Value.builtin "list.append") _ _) _ _ _ | show wpAny _ _ (PySem.call (Value.builtin "len") _ _) _ _ _ | show wpAny _ _ (setItem (Value.ref _) (Value.str _ _) _) _ _ _ | show wpAny _ _ (exec (Stmt.Raise _ _ _) _) _ _ _)); walk1) | dsimp only | fail "no step"))
        · rename (_ < (_ : Int) + _) => hbig
          rw [hit] at hbig
          refine raise_fmt (C'.now B F8).calm ?_
          (repeat' (first | (k_unfold; (try dsimp only)) | ((fail_if_success (with_reducible first | refine (?_ : Exists _) | show wpAny _ _ (exec (Stmt.While _ _ _ _) _) _ _ _ | show wpAny _ _ (exec (Stmt.For _ _ _ _ _) _) _ _ _ | show wpAny _ _ (PySem.call (Value.ref _) _ _) _ _ _ | show wpAny _ _ (PySem.call (Value.type "range") _ _) _ _ _ | show wpAny _ _ (pyIter _) _ _ _ | show wpAny _ _ (PySem.call (Value.builtin "list.append") _ _) _ _ _ | show wpAny _ _ (PySem.call (Value.builtin "len") _ _) _ _ _ | show wpAny _ _ (setItem (Value.ref _) (Value.str _ _) _) _ _ _ | show wpAny _ _ (exec (Stmt.Raise _ _ _) _) _ _ _)); walk1) | dsimp only | fail "no step"))
          refine fmt_call G (C'.now B F8).less ?_
          intro h9 e D TA tk9 k9 hn9 he9
          dsimp only at k9 hn9
          have hb := At.new (C'.now B F8) hn9
          refine ⟨e, some D, TA, rfl, G.K.keeps fun b o q => k9.2 _ _ ((C'.now B F8).stays b o q) (by simp), he9, ?_⟩
          refine noted_first (k9.at (C'.now B F8) (by simp) (by simp)) rfl ((kp_out co F8 rfl N8 kp (ar_W (by k_mem) (by k_mem))).trans (k9.mono (by simp))) hb he9 fun h10 y => er' ?_ e h10 _ y
          rw [hps, hpp, hek, pParts, if_pos (Or.inr hbig)]; rfl
        · rename ¬ (_ < (0 : Int)) => hneg
          rename ¬ (_ < (_ : Int) + _) => hbig
          rename Fr _ _ _ _ => F9
          rename News _ _ _ _ => N9
          rw [hit] at hneg hbig
          simp only [hit] at N9 ⊢
          rename_i T h9 l9 _
          obtain ⟨c1, c2, c3, c4, c5, c6, c7, c8⟩ := l9
          have hTn : s.heap.objs.size < T := Nat.lt_trans hLh (Nat.lt_of_le_of_lt hd2 (Nat.lt_trans hrd (Nat.lt_trans b1 c2)))
          refine wpAny_setItem_pairs (strKind_is _ _ _ _) (Heap.dictOf_iff.mpr ⟨od', (N9 (pd, od') (by k_mem)).1, hod'⟩) ?_ (by rw [sizeLine_eq]; omega)
          intro h10 hd10 hs10
          obtain ⟨od2, e10, hod2⟩ := Heap.dictOf_iff.mp hd10
          have hxk : (es.map (·.1)).getD k Str.empty ∉ kvs.map (·.1) := by rw [hkeys]; exact pDir_new hpd' (by omega)
          rw [stored_new hxk] at hod2
          have F10 := (same_kp hs10).fr F9 (by simpa using (N9 (pd, od') (by k_mem)).2.1.symm) (by simpa using (N9 (pd, od') (by k_mem)).2.2)
          have N10 := News.put (by k_upd) N9 (same_kp hs10) e10
          have N11 := News.sub N10 (fun p hp => mem_ins (a := [_, _, _, _, _, _, _, _]) hp)
          clear F9 N9 N10
          (repeat' (first | (k_unfold; (try dsimp only)) | ((fail_if_success (with_reducible first | refine (?_ : Exists _) | show wpAny _ _ (exec (Stmt.While _ _ _ _) _) _ _ _ | show wpAny _ _ (exec (Stmt.For _ _ _ _ _) _) _ _ _ | show wpAny _ _ (PySem.call (Value.ref _) _ _) _ _ _ | show wpAny _ _ (PySem.call (Value.type "range") _ _) _ _ _ | show wpAny _ _ (pyIter _) _ _ _ | show wpAny _ _ (PySem.call (Value.builtin "list.append") _ _) _ _ _ | show wpAny _ _ (PySem.call (Value.builtin "len") _ _) _ _ _ | show wpAny _ _ (setItem (Value.ref _) (Value.str _ _) _) _ _ _ | show wpAny _ _ (exec (Stmt.Raise _ _ _) _) _ _ _)); walk1) | dsimp only | fail "no step"))
          rename Fr _ _ _ _ => F12
          rename News _ _ _ _ => N12
          refine box fun PP kk => kk (st + (es.map (·.2)).getD k 0) (ps ++ [((es.map (·.1)).getD k Str.empty, st, st + (es.map (·.2)).getD k 0)]) _ ((T, _) :: tl) od2 _ _ _ _ rfl F12 (by simp only [List.forall_mem_cons]; exact ⟨rfl, rfl, rfl, rfl, nofun⟩) N12 hod2 ?_ ?_ ?_ ?_ ?_ ?_ ?_ ?_
          · exact (hpo.mono fun p hp => .tail _ hp).append (.cons (.head _) .nil)
          · intro q hq
            rcases List.mem_cons.mp hq with rfl | hq
            · exact Nat.ne_of_gt c1
            · exact hti q hq
          · intro q hq
            rcases List.mem_cons.mp hq with rfl | hq
            · exact Nat.ne_of_gt c8.1
            · exact htp q hq
          · intro q hq
            rcases List.mem_cons.mp hq with rfl | hq
            · exact Nat.le_of_lt hTn
            · exact hts q hq
          · rw [List.map_append, hkeys, take_get es (by omega)]; rfl
          · omega
          · omega
          · rw [hpp, hek, pParts, if_neg (by omega), Option.map_map]
            congr 1
            funext z
            simp
    · rintro s' h6 xx he6
      refine unbox xx _ fun st ps kvs tl od' tst tk'' m h'' es F6 hm N6 hod' hpo hti htp hts hkeys hst0 hst1 hpp => ?_
      subst es
      have F7 := Fr.known (Fr.ext F6 he6 hJL hJg) hm
      have N7 := News.extA N6 he6 ⟨j1, j2, j3, j4, j5, j6, j7, AllNe.of hti⟩
      clear F6 N6 F9 N9
      have hlen : es.length = n.toNat := hes
      have hkn : kvs.map (·.1) = es.map (·.1) := by rw [hkeys, List.take_of_length_le (by omega)]
      rw [List.drop_of_length_le (by omega)] at hpp
      dsimp only
      refine (?_ : wpAny (model PR w) _ _ _ _ _)
      (repeat' (first | (k_unfold; (try dsimp only)) | ((fail_if_success (with_reducible first | refine (?_ : Exists _) | show wpAny _ _ (exec (Stmt.While _ _ _ _) _) _ _ _ | show wpAny _ _ (exec (Stmt.For _ _ _ _ _) _) _ _ _ | show wpAny _ _ (PySem.call (Value.ref _) _ _) _ _ _ | show wpAny _ _ (PySem.call (Value.type "range") _ _) _ _ _ | show wpAny _ _ (pyIter _) _ _ _ | show wpAny _ _ (PySem.call (Value.builtin "list.append") _ _) _ _ _ | show wpAny _ _ (PySem.call (Value.builtin "len") _ _) _ _ _ | show wpAny _ _ (setItem (Value.ref _) (Value.str _ _) _) _ _ _ | show wpAny _ _ (exec (Stmt.Raise _ _ _) _) _ _ _)); walk1) | dsimp only | fail "no step"))
      rename Fr _ _ _ _ => F8
      rename News _ _ _ _ => N8
      refine len_of (Fr.lst F8 hl') hI.length (by omega) ?_
      (repeat' (first | (k_unfold; (try dsimp only)) | ((fail_if_success (with_reducible first | refine (?_ : Exists _) | show wpAny _ _ (exec (Stmt.While _ _ _ _) _) _ _ _ | show wpAny _ _ (exec (Stmt.For _ _ _ _ _) _) _ _ _ | show wpAny _ _ (PySem.call (Value.ref _) _ _) _ _ _ | show wpAny _ _ (PySem.call (Value.type "range") _ _) _ _ _ | show wpAny _ _ (pyIter _) _ _ _ | show wpAny _ _ (PySem.call (Value.builtin "list.append") _ _) _ _ _ | show wpAny _ _ (PySem.call (Value.builtin "len") _ _) _ _ _ | show wpAny _ _ (setItem (Value.ref _) (Value.str _ _) _) _ _ _ | show wpAny _ _ (exec (Stmt.Raise _ _ _) _) _ _ _)); walk1) | dsimp only | fail "no step"))
      · rename Fr _ _ _ _ => F10
        rename News _ _ _ _ => N10
        rename st ≠ _ => hst
        refine raise_fmt (C'.now B F10).calm ?_
        (repeat' (first | (k_unfold; (try dsimp only)) | ((fail_if_success (with_reducible first | refine (?_ : Exists _) | show wpAny _ _ (exec (Stmt.While _ _ _ _) _) _ _ _ | show wpAny _ _ (exec (Stmt.For _ _ _ _ _) _) _ _ _ | show wpAny _ _ (PySem.call (Value.ref _) _ _) _ _ _ | show wpAny _ _ (PySem.call (Value.type "range") _ _) _ _ _ | show wpAny _ _ (pyIter _) _ _ _ | show wpAny _ _ (PySem.call (Value.builtin "list.append") _ _) _ _ _ | show wpAny _ _ (PySem.call (Value.builtin "len") _ _) _ _ _ | show wpAny _ _ (setItem (Value.ref _) (Value.str _ _) _) _ _ _ | show wpAny _ _ (exec (Stmt.Raise _ _ _) _) _ _ _)); walk1) | dsimp only | fail "no step"))
        refine fmt_call G (C'.now B F10).less ?_
        intro h9 e D TA tk9 k9 hn9 he9
        dsimp only at k9 hn9
        have hb := At.new (C'.now B F10) hn9
        refine ⟨e, some D, TA, rfl, G.K.keeps fun b o q => k9.2 _ _ ((C'.now B F10).stays b o q) (by simp), he9, ?_⟩
        refine leave_first (k9.at (C'.now B F10) (by simp) (by simp)) ((kp_out co F10 rfl N10 kp (ar_W (by k_mem) (by k_mem))).trans (k9.mono (by simp))) hb he9 fun h10 y => er e h10 _ ?_ y
        rw [hps, hpp, pParts, if_pos hst]; rfl
      · rename Fr _ _ _ _ => F10
        rename News _ _ _ _ => N10
        rename st = _ => hst
        have hpar : parse ns = some ps := by
          rw [hps, hpp, pParts, if_neg (by simp [hst])]
          simp
        refine ok _ _ names _ od' kvs tl ps hpar (kp_out co F10 rfl N10 kp (ar_W (by k_mem) (by k_mem))) (N10 (lo, _) (by k_mem)).1 ?_ (N10 (pd, _) (by k_mem)).1 hod' hpo fun q hq => ⟨(N10 q ?_).1, hts q hq⟩
        · rw [← hpo.keys, hkn]; exact hnames
        · iterate 7 refine .tail _ ?_
          exact hq
    · refine box fun PP kk => kk p ([]) ([]) ([]) od u' _ _ _ rfl F9 (by simp only [List.forall_mem_cons]; exact ⟨rfl, rfl, rfl, rfl, nofun⟩) ?_ hod .nil (fun _ hq => absurd hq List.not_mem_nil) (fun _ hq => absurd hq List.not_mem_nil) (fun _ hq => absurd hq List.not_mem_nil) rfl (by omega) hp1 ?_
      · rw [show ((n.toNat : Int) - ((0 : Nat) : Int)) = n.toNat by omega]
        exact N9
      · simp
  · refine box fun PP kk => kk i1 ([]) ([]) ([]) u3' _ _ _ rfl F5 (by simp only [List.forall_mem_cons]; exact ⟨rfl, rfl, rfl, nofun⟩) ?_ hi1 hi2 rfl .nil .nil ?_
    · rw [show ((n.toNat : Int) - ((0 : Nat) : Int)) = n by omega]
      exact N5
    · simp
end

section
open PySem PySem.W PyProof.Rows PySem.Calls



variable {w : World} {mean : ExcName → Option Value} {mg mb : Str → Option Value} {base : Heap} {A : Around} {l : List Env} {s : Shared}

/-- what an archive is made of -/
def ArLed (w : World) (ar ld : Addr) (ps : List (Str × Int × Int)) (al : List (Addr × Obj)) : Prop :=
  ∃ da lo pd t1 t2 t3 lv ep o kvs tl, al = [(ar, instObj 224 da), (da, arDict w t1 t2 t3 ld lo pd), (lo, W.listOf lv.toArray ep), (pd, o)] ++ tl ∧
    StrsAre lv (ps.map (·.1)) ∧ o.IsDictOf (strKind PR w) kvs ∧ PartsOk tl kvs ps ∧ ar ≠ da ∧ ar ≠ lo ∧ ar ≠ pd ∧ da ≠ lo ∧ da ≠ pd ∧ lo ≠ pd ∧ (pd == sysModules) = false ∧ (∀ p ∈ tl, p.1 ≠ ar ∧ p.1 ≠ da ∧ p.1 ≠ lo ∧ p.1 ≠ pd)

theorem Ex.back {W V : List Addr} {h₀ h h' : Heap} {e : Addr} (x : Ex base l W h h' e) (k : Kp V h₀ h) (hW : ∀ a ∈ W, a ∈ V ∨ h₀.get? a = none) : Ex base l V h₀ h' e :=
  ⟨x.1, fun b o q nb hd => x.2 b o (k.2 b o q nb) (fun z => (hW b z).elim nb fun y => by rw [q] at y; cases y) hd⟩
theorem amake_call {ld : Addr} {vs : List Value} {ns : List Int} {Q E : Value → Shared → Prop} (G : Gr w mean mg mb base) (C : At base A l 11 s.heap)
    (hl : s.heap.IsList ld vs.toArray) (hI : IntsAre vs ns) (hsz : ns.length < 100000) (hby : ∀ n ∈ ns, 0 ≤ n ∧ n ≤ 255)
    (ok : ∀ ar al ps h' tk, parse ns = some ps → Kp [] s.heap h' → ArLed w ar ld ps al → (∀ p ∈ al, h'.get? p.1 = some p.2 ∧ s.heap.objs.size ≤ p.1) → Q (.ref ar) { s with heap := h', toks := tk })
    (er : ∀ e h' tk, parse ns = none → Ex base l [] s.heap h' e → E (.ref e) { s with heap := h', toks := tk }) :
    wpAny (model PR w) A (call (.ref 224) [.ref ld]) Q E s := by
  refine make_call (n := 10) (fI := 193) G C (by k_is) (by k_is) (by k_is) ?_
  intro ar da h' k hle hlt e1 e2 C1
  have co : Core base l h' [(ar, instObj 224 da), (da, dictOf [] 0)] := Core.fresh C fun p hp => by
    rcases List.mem_cons.mp hp with rfl | hp
    · exact ⟨e1, Nat.le_of_lt (Nat.lt_of_le_of_lt hle hlt)⟩
    · rcases List.mem_cons.mp hp with rfl | hp
      · exact ⟨e2, hle⟩
      · cases hp
  refine enter (s := { s with heap := h' }) G C1 co (by k_is) (by k_is) (BindsTo.of_eq (binds := [("self", .ref ar), ("data", .ref ld)]) rfl) (locs rfl) ?_
  intro g h₁ F N B X TT kp rv C'
  have hne : ar ≠ da := Nat.ne_of_gt hlt
  refine (?_ : wpAny (model PR w) _ _ _ _ _)
  k_fold
  (repeat' (first | (k_unfold; (try dsimp only)) | ((fail_if_success (with_reducible first | refine (?_ : Exists _) | show wpAny _ _ (exec (Stmt.While _ _ _ _) _) _ _ _ | show wpAny _ _ (exec (Stmt.For _ _ _ _ _) _) _ _ _ | show wpAny _ _ (PySem.call (Value.ref _) _ _) _ _ _ | show wpAny _ _ (PySem.call (Value.type "range") _ _) _ _ _ | show wpAny _ _ (pyIter _) _ _ _ | show wpAny _ _ (PySem.call (Value.builtin "list.append") _ _) _ _ _ | show wpAny _ _ (PySem.call (Value.builtin "len") _ _) _ _ _ | show wpAny _ _ (setItem (Value.ref _) (Value.str _ _) _) _ _ _ | show wpAny _ _ (exec (Stmt.Raise _ _ _) _) _ _ _)); walk1) | dsimp only | fail "no step"))
  rename Fr _ _ _ _ => F2
  rename News _ _ _ _ => N2
  rename_i tk1 h1 lo h2 c1 h3 d h4 o lo' hso _ _ _ c2 h5
  obtain ⟨c21, c22, c23⟩ := c2
  dsimp only at F2 N2
  obtain ⟨t1, t2, t3, hml⟩ : ∃ t1 t2 t3, News g h'.objs.size h5 [(ar, instObj 224 da), (da, arDict w t1 t2 t3 ld lo d), (lo, W.listOf ([] : List Value).toArray 0), (d, o)] :=
    ⟨_, _, _, News.sub N2 (pick4 (a := (ar, _)) (b := (da, _)) (c := (lo, _)) (d := (d, _)) (by k_mem) (by k_mem) (by k_mem) (by k_mem))⟩
  have hld : ld < s.heap.objs.size := by
    obtain ⟨_, ho, _⟩ := hl
    exact Heap.lt_size ho
  have k2 : Kp [da] h' h5 := kp_out co F2 rfl N2 kp fun p hp => by
    rcases List.mem_cons.mp hp with rfl | hp
    · exact .inr (by k_mem)
    · rcases List.mem_cons.mp hp with rfl | hp
      · exact .inl (.head _)
      · cases hp
  have hlo : s.heap.objs.size < lo := Nat.lt_of_le_of_lt hle c1.2
  have hd : s.heap.objs.size < d := Nat.lt_of_le_of_lt hle c23
  have k02 : Kp [] s.heap h5 := k.then k2 fun a ha => .inr (by rw [List.mem_singleton.mp ha]; exact none_of_le hle)
  have hl5 : h5.IsList ld vs.toArray := by
    obtain ⟨o, ho, q⟩ := hl
    exact ⟨o, k02.2 _ _ ho (by simp), q⟩
  refine readdir_call (lo := lo) (pd := d) G ((C'.now B F2).less (k := 9)) (Core.mk (C'.now B F2) B hml) hne (Nat.ne_of_lt c1.1) (Nat.ne_of_lt c22) (Nat.ne_of_lt c1.2) (Nat.ne_of_lt c23) (Nat.ne_of_lt c21) hso hl5 (Nat.ne_of_lt (Nat.lt_trans hld hlo)) hI hsz hby ?_ ?_
  · intro h6 tk6 lv ep o6 kvs tl ps hps k6 e6 hlv e6' ho6 hpo htl
    dsimp only at k6 htl
    have k06 : Kp [] s.heap h6 := k02.then k6 fun a ha => by
      rcases List.mem_cons.mp ha with rfl | ha
      · exact .inr (none_of_le (Nat.le_of_lt hlo))
      · rw [List.mem_singleton.mp ha]; exact .inr (none_of_le (Nat.le_of_lt hd))
    have s5 : ∀ {b : Addr} {ob : Obj}, h5.get? b = some ob → ∀ p ∈ tl, p.1 ≠ b := fun q p hp => fresh_ne (htl p hp).2 q
    (repeat' (first | (k_unfold; (try dsimp only)) | ((fail_if_success (with_reducible first | refine (?_ : Exists _) | show wpAny _ _ (exec (Stmt.While _ _ _ _) _) _ _ _ | show wpAny _ _ (exec (Stmt.For _ _ _ _ _) _) _ _ _ | show wpAny _ _ (PySem.call (Value.ref _) _ _) _ _ _ | show wpAny _ _ (PySem.call (Value.type "range") _ _) _ _ _ | show wpAny _ _ (pyIter _) _ _ _ | show wpAny _ _ (PySem.call (Value.builtin "list.append") _ _) _ _ _ | show wpAny _ _ (PySem.call (Value.builtin "len") _ _) _ _ _ | show wpAny _ _ (setItem (Value.ref _) (Value.str _ _) _) _ _ _ | show wpAny _ _ (exec (Stmt.Raise _ _ _) _) _ _ _)); walk1) | dsimp only | fail "no step"))
    refine ⟨rfl, ok ar _ ps h6 tk6 hps k06 ⟨da, lo, d, t1, t2, t3, lv, ep, o6, kvs, tl, rfl, hlv, ho6, hpo, hne, Nat.ne_of_lt c1.1, Nat.ne_of_lt c22, Nat.ne_of_lt c1.2, Nat.ne_of_lt c23, Nat.ne_of_lt c21, lo', fun p hp => ⟨s5 (hml _ (.head _)).1 p hp, s5 (hml _ (.tail _ (.head _))).1 p hp, s5 (hml _ (.tail _ (.tail _ (.head _)))).1 p hp, s5 (hml _ (.tail _ (.tail _ (.tail _ (.head _))))).1 p hp⟩⟩ ?_⟩
    have n1 : ar ∉ [lo, d] := by simp [Nat.ne_of_lt c1.1, Nat.ne_of_lt c22]
    have n2 : da ∉ [lo, d] := by simp [Nat.ne_of_lt c1.2, Nat.ne_of_lt c23]
    intro p hp
    rcases List.mem_append.mp hp with hp | hp
    · rcases List.mem_cons.mp hp with rfl | hp
      · exact ⟨k6.2 _ _ (hml _ (.head _)).1 n1, Nat.le_of_lt (Nat.lt_of_le_of_lt hle hlt)⟩
      rcases List.mem_cons.mp hp with rfl | hp
      · exact ⟨k6.2 _ _ (hml _ (.tail _ (.head _))).1 n2, hle⟩
      rcases List.mem_cons.mp hp with rfl | hp
      · exact ⟨e6, Nat.le_of_lt hlo⟩
      · rw [List.mem_singleton.mp hp]; exact ⟨e6', Nat.le_of_lt hd⟩
    · exact ⟨(htl p hp).1, Nat.le_trans k02.1 (htl p hp).2⟩
  · intro e h6 tk6 hps x
    dsimp only at x
    refine leave_ex B.stack (x.back k02 fun a ha => ?_) fun h7 y => er e h7 _ hps y
    rcases List.mem_cons.mp ha with rfl | ha
    · exact .inr (none_of_le (Nat.le_of_lt hlo))
    · rw [List.mem_singleton.mp ha]; exact .inr (none_of_le (Nat.le_of_lt hd))
end

section
open PySem PySem.W PyProof.Rows PySem.Calls



variable {w : World} {mean : ExcName → Option Value} {mg mb : Str → Option Value} {base : Heap} {A : Around} {l : List Env} {s : Shared}


def look {α : Type} (xs : List (Str × α)) (x : Str) : Option α := (xs.find? fun p => p.1 = x).map (·.2)
theorem look_cons {α : Type} (y : Str) (v : α) (xs : List (Str × α)) (x : Str) : look ((y, v) :: xs) x = if y = x then some v else look xs x := by
  unfold look
  rw [List.find?_cons]
  by_cases h : y = x <;> simp [h]
theorem valueAt_look (kvs : List (Str × Value)) (x : Str) : valueAt kvs x = look kvs x := rfl
theorem PartsOk.look_none {tl : List (Addr × Obj)} {x : Str} : ∀ {kvs : List (Str × Value)} {ps : List (Str × Int × Int)}, PartsOk tl kvs ps → look ps x = none → valueAt kvs x = none
  | _, _, .nil, _ => rfl
  | _, _, .cons (x := y) m r, h => by
    rw [look_cons] at h
    rw [valueAt_look, look_cons]
    split at h
    · cases h
    · rename_i q; rw [if_neg q]; exact r.look_none h
theorem PartsOk.look_some {tl : List (Addr × Obj)} {x : Str} {a b : Int} : ∀ {kvs : List (Str × Value)} {ps : List (Str × Int × Int)}, PartsOk tl kvs ps → look ps x = some (a, b) → ∃ tp ta tb, valueAt kvs x = some (.ref tp) ∧ (tp, tupObj a b ta tb) ∈ tl
  | _, _, .nil, h => by cases h
  | _, _, .cons (x := y) m r, h => by
    rw [look_cons] at h
    rw [valueAt_look, look_cons]
    split at h
    · rename_i q; rw [if_pos q]; cases h; exact ⟨_, _, _, rfl, m⟩
    · rename_i q; rw [if_neg q]; exact r.look_some h
theorem Core.sub {h : Heap} {core core' : List (Addr × Obj)} (co : Core base l h core) (k : ∀ p ∈ core', p ∈ core) : Core base l h core' := fun p hp => co p (k p hp)

theorem item_dict {prog : Program} {w : World} {K : Type} [DecidableEq K] {knd : KeyKind prog w K} {E : Value → Shared → Prop} {h₀ : Heap} {L d : Addr} {news : List (Addr × Obj)} {o : Obj} {kvs : List (K × Value)} {k : K} {key v : Value}
    {value slice : PySem.Expr} {Q : Value → Shared → Prop} (N : News h₀ L s.heap news) (hp : (d, o) ∈ news) (hd : o.IsDictOf knd kvs) (hkey : knd.is k key = true) (hl : valueAt kvs k = some v) (h : Q v { s with toks := s.toks + 1 })
    (hs : subscripted slice false (.ref d) key = operate [.ref d, key] (getItem (.ref d) key) := by with_unfolding_all rfl) : wpAny (model prog w) A (subscriptTail value slice (.ref d) key) Q E s :=
  have hD := kda_dict N hp hd
  tail_any hD.typeIs slot_dict_getitem.lookup (wpAny_getItem_of hkey hD.mapOf hl h) hs

theorem fresh_of {g h : Heap} {core : List (Addr × Obj)} {b : Addr} (hg : g.get? b = none) (kp : ∀ b o, h.get? b = some o → b ∉ core.map (·.1) → g.get? b = some o) (hb : b ∉ core.map (·.1)) : h.get? b = none := by
  cases q : h.get? b with
  | none => rfl
  | some o => rw [kp b o q hb] at hg; cases hg

theorem names_call {ar ld : Addr} {ps : List (Str × Int × Int)} {al : List (Addr × Obj)} {Q E : Value → Shared → Prop} (G : Gr w mean mg mb base) (C : At base A l 1 s.heap)
    (ha : ArLed w ar ld ps al) (co : Core base l s.heap al) (hsz : ps.length < 100000)
    (ok : ∀ b lv ep h' tk, Kp [] s.heap h' → s.heap.get? b = none → StrsAre lv (ps.map (·.1)) → h'.get? b = some (W.listOf lv.toArray ep) → Q (.ref b) { s with heap := h', toks := tk }) :
    wpAny (model PR w) A (call (.ref 207) [.ref ar]) Q E s := by
  obtain ⟨da, lo, pd, t1, t2, t3, lv, ep, o, kvs, tl, rfl, hlv, ho, hpo, n1, n2, n3, n4, n5, n6, hsm, htl⟩ := ha
  have hlen : lv.length = ps.length := by rw [hlv.len_eq, List.length_map]
  refine wpAny_call ?_
  refine enter G C (co.sub (core' := [(ar, instObj 224 da), (da, arDict w t1 t2 t3 ld lo pd), (lo, W.listOf lv.toArray ep)]) ?_) (by k_is) (by k_is) (BindsTo.of_eq (binds := [("self", .ref ar)]) rfl) (locs rfl) ?_
  · exact pick3 (.head _) (.tail _ (.head _)) (.tail _ (.tail _ (.head _)))
  intro g h₁ F N B X TT kp rv C'
  refine (?_ : wpAny (model PR w) _ _ _ _ _)
  k_fold
  (repeat' (first | (k_unfold; (try dsimp only)) | ((fail_if_success (with_reducible first | refine (?_ : Exists _) | show wpAny _ _ (exec (Stmt.While _ _ _ _) _) _ _ _ | show wpAny _ _ (exec (Stmt.For _ _ _ _ _) _) _ _ _ | show wpAny _ _ (PySem.call (Value.ref _) _ _) _ _ _ | show wpAny _ _ (PySem.call (Value.type "range") _ _) _ _ _ | show wpAny _ _ (pyIter _) _ _ _ | show wpAny _ _ (PySem.call (Value.builtin "list.append") _ _) _ _ _ | show wpAny _ _ (PySem.call (Value.builtin "len") _ _) _ _ _ | show wpAny _ _ (setItem (Value.ref _) (Value.str _ _) _) _ _ _ | show wpAny _ _ (exec (Stmt.Raise _ _ _) _) _ _ _ | show wpAny _ _ (compareOp Cmpop.NotIn _ _) _ _ _ | show wpAny _ _ (subscriptTail _ _ (Value.ref _) (Value.str _ _)) _ _ _)); walk1) | dsimp only | fail "no step"))
  rename Fr _ _ _ _ => F2
  rename News _ _ _ _ => N2
  rename_i b ep2 h2 l1
  refine ok b lv ep2 h2 _ (kp_out (co.sub ?_) F2 rfl N2 kp fun p hp => .inr ?_) ?_ hlv (N2 _ (.head _)).1
  · exact pick3 (.head _) (.tail _ (.head _)) (.tail _ (.tail _ (.head _)))
  · exact .tail _ hp
  · exact fresh_of (N2 _ (.head _)).2.2 kp (by simp [Nat.ne_of_gt l1.1, Nat.ne_of_gt l1.2.1, Nat.ne_of_gt l1.2.2])

theorem size_call {ar ld : Addr} {ps : List (Str × Int × Int)} {al : List (Addr × Obj)} {x : Str} {tx : Tok} {Q E : Value → Shared → Prop} (G : Gr w mean mg mb base) (C : At base A l 1 s.heap)
    (ha : ArLed w ar ld ps al) (co : Core base l s.heap al)
    (ok : ∀ h' tk tv, Kp [] s.heap h' → Q (.int (match look ps x with | none => -1 | some (a, b) => b - a) tv) { s with heap := h', toks := tk }) :
    wpAny (model PR w) A (call (.ref 214) [.ref ar, .str x tx]) Q E s := by
  obtain ⟨da, lo, pd, t1, t2, t3, lv, ep, o, kvs, tl, rfl, hlv, ho, hpo, n1, n2, n3, n4, n5, n6, hsm, htl⟩ := ha
  refine wpAny_call ?_
  cases hx : look ps x with
  | none =>
    simp only [hx] at ok
    refine enter G C (co.sub (core' := [(ar, instObj 224 da), (da, arDict w t1 t2 t3 ld lo pd), (pd, o)]) ?_) (by k_is) (by k_is) (BindsTo.of_eq (binds := [("self", .ref ar), ("name", .str x tx)]) rfl) (locs rfl) ?_
    · exact pick3 (.head _) (.tail _ (.head _)) (.tail _ (.tail _ (.tail _ (.head _))))
    intro g h₁ F N B X TT kp rv C'
    refine (?_ : wpAny (model PR w) _ _ _ _ _)
    k_fold
    (repeat' (first | (k_unfold; (try dsimp only)) | ((fail_if_success (with_reducible first | refine (?_ : Exists _) | show wpAny _ _ (exec (Stmt.While _ _ _ _) _) _ _ _ | show wpAny _ _ (exec (Stmt.For _ _ _ _ _) _) _ _ _ | show wpAny _ _ (PySem.call (Value.ref _) _ _) _ _ _ | show wpAny _ _ (PySem.call (Value.type "range") _ _) _ _ _ | show wpAny _ _ (pyIter _) _ _ _ | show wpAny _ _ (PySem.call (Value.builtin "list.append") _ _) _ _ _ | show wpAny _ _ (PySem.call (Value.builtin "len") _ _) _ _ _ | show wpAny _ _ (setItem (Value.ref _) (Value.str _ _) _) _ _ _ | show wpAny _ _ (exec (Stmt.Raise _ _ _) _) _ _ _ | show wpAny _ _ (compareOp Cmpop.NotIn _ _) _ _ _ | show wpAny _ _ (subscriptTail _ _ (Value.ref _) (Value.str _ _)) _ _ _)); walk1) | dsimp only | fail "no step"))
    refine kdg_notin N (by k_mem) ho hsm (strKind_is _ _ _ _) false (by rw [hpo.look_none hx]; rfl) ?_
    (repeat' (first | (k_unfold; (try dsimp only)) | ((fail_if_success (with_reducible first | refine (?_ : Exists _) | show wpAny _ _ (exec (Stmt.While _ _ _ _) _) _ _ _ | show wpAny _ _ (exec (Stmt.For _ _ _ _ _) _) _ _ _ | show wpAny _ _ (PySem.call (Value.ref _) _ _) _ _ _ | show wpAny _ _ (PySem.call (Value.type "range") _ _) _ _ _ | show wpAny _ _ (pyIter _) _ _ _ | show wpAny _ _ (PySem.call (Value.builtin "list.append") _ _) _ _ _ | show wpAny _ _ (PySem.call (Value.builtin "len") _ _) _ _ _ | show wpAny _ _ (setItem (Value.ref _) (Value.str _ _) _) _ _ _ | show wpAny _ _ (exec (Stmt.Raise _ _ _) _) _ _ _ | show wpAny _ _ (compareOp Cmpop.NotIn _ _) _ _ _ | show wpAny _ _ (subscriptTail _ _ (Value.ref _) (Value.str _ _)) _ _ _)); walk1) | dsimp only | fail "no step"))
    exact ok _ _ _ (kp_out (co.sub (pick3 (.head _) (.tail _ (.head _)) (.tail _ (.tail _ (.tail _ (.head _)))))) F rfl N kp fun p hp => .inr hp)
  | some ab =>
    obtain ⟨a, b⟩ := ab
    simp only [hx] at ok
    obtain ⟨tp, ta, tb, hv, hm⟩ := hpo.look_some hx
    refine enter G C (co.sub (core' := [(ar, instObj 224 da), (da, arDict w t1 t2 t3 ld lo pd), (pd, o), (tp, tupObj a b ta tb)]) ?_) (by k_is) (by k_is) (BindsTo.of_eq (binds := [("self", .ref ar), ("name", .str x tx)]) rfl) (locs rfl) ?_
    · exact pick4 (.head _) (.tail _ (.head _)) (.tail _ (.tail _ (.tail _ (.head _)))) (.tail _ (.tail _ (.tail _ (.tail _ hm))))
    intro g h₁ F N B X TT kp rv C'
    refine (?_ : wpAny (model PR w) _ _ _ _ _)
    k_fold
    (repeat' (first | (k_unfold; (try dsimp only)) | ((fail_if_success (with_reducible first | refine (?_ : Exists _) | show wpAny _ _ (exec (Stmt.While _ _ _ _) _) _ _ _ | show wpAny _ _ (exec (Stmt.For _ _ _ _ _) _) _ _ _ | show wpAny _ _ (PySem.call (Value.ref _) _ _) _ _ _ | show wpAny _ _ (PySem.call (Value.type "range") _ _) _ _ _ | show wpAny _ _ (pyIter _) _ _ _ | show wpAny _ _ (PySem.call (Value.builtin "list.append") _ _) _ _ _ | show wpAny _ _ (PySem.call (Value.builtin "len") _ _) _ _ _ | show wpAny _ _ (setItem (Value.ref _) (Value.str _ _) _) _ _ _ | show wpAny _ _ (exec (Stmt.Raise _ _ _) _) _ _ _ | show wpAny _ _ (compareOp Cmpop.NotIn _ _) _ _ _ | show wpAny _ _ (subscriptTail _ _ (Value.ref _) (Value.str _ _)) _ _ _)); walk1) | dsimp only | fail "no step"))
    refine kdg_notin N (by k_mem) ho hsm (strKind_is _ _ _ _) true (by rw [hv]; rfl) ?_
    (repeat' (first | (k_unfold; (try dsimp only)) | ((fail_if_success (with_reducible first | refine (?_ : Exists _) | show wpAny _ _ (exec (Stmt.While _ _ _ _) _) _ _ _ | show wpAny _ _ (exec (Stmt.For _ _ _ _ _) _) _ _ _ | show wpAny _ _ (PySem.call (Value.ref _) _ _) _ _ _ | show wpAny _ _ (PySem.call (Value.type "range") _ _) _ _ _ | show wpAny _ _ (pyIter _) _ _ _ | show wpAny _ _ (PySem.call (Value.builtin "list.append") _ _) _ _ _ | show wpAny _ _ (PySem.call (Value.builtin "len") _ _) _ _ _ | show wpAny _ _ (setItem (Value.ref _) (Value.str _ _) _) _ _ _ | show wpAny _ _ (exec (Stmt.Raise _ _ _) _) _ _ _ | show wpAny _ _ (compareOp Cmpop.NotIn _ _) _ _ _ | show wpAny _ _ (subscriptTail _ _ (Value.ref _) (Value.str _ _)) _ _ _)); walk1) | dsimp only | fail "no step"))
    refine item_dict N (by k_mem) ho (strKind_is _ _ _ _) hv ?_
    (repeat' (first | (k_unfold; (try dsimp only)) | ((fail_if_success (with_reducible first | refine (?_ : Exists _) | show wpAny _ _ (exec (Stmt.While _ _ _ _) _) _ _ _ | show wpAny _ _ (exec (Stmt.For _ _ _ _ _) _) _ _ _ | show wpAny _ _ (PySem.call (Value.ref _) _ _) _ _ _ | show wpAny _ _ (PySem.call (Value.type "range") _ _) _ _ _ | show wpAny _ _ (pyIter _) _ _ _ | show wpAny _ _ (PySem.call (Value.builtin "list.append") _ _) _ _ _ | show wpAny _ _ (PySem.call (Value.builtin "len") _ _) _ _ _ | show wpAny _ _ (setItem (Value.ref _) (Value.str _ _) _) _ _ _ | show wpAny _ _ (exec (Stmt.Raise _ _ _) _) _ _ _ | show wpAny _ _ (compareOp Cmpop.NotIn _ _) _ _ _ | show wpAny _ _ (subscriptTail _ _ (Value.ref _) (Value.str _ _)) _ _ _)); walk1) | dsimp only | fail "no step"))
    refine unpackN_ F N (News.isTup N (by k_mem)) C'.calm rfl rfl ?_
    intro h2 F2 N2
    (repeat' (first | (k_unfold; (try dsimp only)) | ((fail_if_success (with_reducible first | refine (?_ : Exists _) | show wpAny _ _ (exec (Stmt.While _ _ _ _) _) _ _ _ | show wpAny _ _ (exec (Stmt.For _ _ _ _ _) _) _ _ _ | show wpAny _ _ (PySem.call (Value.ref _) _ _) _ _ _ | show wpAny _ _ (PySem.call (Value.type "range") _ _) _ _ _ | show wpAny _ _ (pyIter _) _ _ _ | show wpAny _ _ (PySem.call (Value.builtin "list.append") _ _) _ _ _ | show wpAny _ _ (PySem.call (Value.builtin "len") _ _) _ _ _ | show wpAny _ _ (setItem (Value.ref _) (Value.str _ _) _) _ _ _ | show wpAny _ _ (exec (Stmt.Raise _ _ _) _) _ _ _ | show wpAny _ _ (compareOp Cmpop.NotIn _ _) _ _ _ | show wpAny _ _ (subscriptTail _ _ (Value.ref _) (Value.str _ _)) _ _ _)); walk1) | dsimp only | fail "no step"))
    rename Fr _ _ _ _ => F3
    rename News _ _ _ _ => N3
    exact ok _ _ _ (kp_out (co.sub (pick4 (.head _) (.tail _ (.head _)) (.tail _ (.tail _ (.tail _ (.head _)))) (.tail _ (.tail _ (.tail _ (.tail _ hm)))))) F3 rfl N3 kp fun p hp => .inr hp)

theorem read_call {ar ld : Addr} {ps : List (Str × Int × Int)} {al : List (Addr × Obj)} {x : Str} {tx : Tok} {vs : List Value} {ns : List Int} {Q E : Value → Shared → Prop} (G : Gr w mean mg mb base) (C : At base A l 1 s.heap)
    (ha : ArLed w ar ld ps al) (co : Core base l s.heap al) (hl : s.heap.IsList ld vs.toArray) (hld : ∀ p ∈ al, p.1 ≠ ld) (hI : IntsAre vs ns) (hsz : ns.length < 100000) (hps : ∀ a b, look ps x = some (a, b) → 0 ≤ a ∧ a ≤ b ∧ b ≤ ns.length)
    (none_ : look ps x = none → ∀ h' tk, Kp [] s.heap h' → Q .none { s with heap := h', toks := tk })
    (some_ : ∀ a b, look ps x = some (a, b) → ∀ d vs' ep' h' tk, Kp [] s.heap h' → s.heap.get? d = none → IntsAre vs' ((ns.drop a.toNat).take (b - a).toNat) → h'.get? d = some (W.listOf vs'.toArray ep') → Q (.ref d) { s with heap := h', toks := tk }) :
    wpAny (model PR w) A (call (.ref 221) [.ref ar, .str x tx]) Q E s := by
  obtain ⟨da, lo, pd, t1, t2, t3, lv, ep, o, kvs, tl, rfl, hlv, ho, hpo, n1, n2, n3, n4, n5, n6, hsm, htl⟩ := ha
  refine wpAny_call ?_
  cases hx : look ps x with
  | none =>
    refine enter G C (co.sub (core' := [(ar, instObj 224 da), (da, arDict w t1 t2 t3 ld lo pd), (pd, o)]) ?_) (by k_is) (by k_is) (BindsTo.of_eq (binds := [("self", .ref ar), ("name", .str x tx)]) rfl) (locs rfl) ?_
    · exact pick3 (.head _) (.tail _ (.head _)) (.tail _ (.tail _ (.tail _ (.head _))))
    intro g h₁ F N B X TT kp rv C'
    refine (?_ : wpAny (model PR w) _ _ _ _ _)
    k_fold
    (repeat' (first | (k_unfold; (try dsimp only)) | ((fail_if_success (with_reducible first | refine (?_ : Exists _) | show wpAny _ _ (exec (Stmt.While _ _ _ _) _) _ _ _ | show wpAny _ _ (exec (Stmt.For _ _ _ _ _) _) _ _ _ | show wpAny _ _ (PySem.call (Value.ref _) _ _) _ _ _ | show wpAny _ _ (PySem.call (Value.type "range") _ _) _ _ _ | show wpAny _ _ (pyIter _) _ _ _ | show wpAny _ _ (PySem.call (Value.builtin "list.append") _ _) _ _ _ | show wpAny _ _ (PySem.call (Value.builtin "len") _ _) _ _ _ | show wpAny _ _ (setItem (Value.ref _) (Value.str _ _) _) _ _ _ | show wpAny _ _ (exec (Stmt.Raise _ _ _) _) _ _ _ | show wpAny _ _ (compareOp Cmpop.NotIn _ _) _ _ _ | show wpAny _ _ (subscriptTail _ _ (Value.ref _) (Value.str _ _)) _ _ _)); walk1) | dsimp only | fail "no step"))
    refine kdg_notin N (by k_mem) ho hsm (strKind_is _ _ _ _) false (by rw [hpo.look_none hx]; rfl) ?_
    (repeat' (first | (k_unfold; (try dsimp only)) | ((fail_if_success (with_reducible first | refine (?_ : Exists _) | show wpAny _ _ (exec (Stmt.While _ _ _ _) _) _ _ _ | show wpAny _ _ (exec (Stmt.For _ _ _ _ _) _) _ _ _ | show wpAny _ _ (PySem.call (Value.ref _) _ _) _ _ _ | show wpAny _ _ (PySem.call (Value.type "range") _ _) _ _ _ | show wpAny _ _ (pyIter _) _ _ _ | show wpAny _ _ (PySem.call (Value.builtin "list.append") _ _) _ _ _ | show wpAny _ _ (PySem.call (Value.builtin "len") _ _) _ _ _ | show wpAny _ _ (setItem (Value.ref _) (Value.str _ _) _) _ _ _ | show wpAny _ _ (exec (Stmt.Raise _ _ _) _) _ _ _ | show wpAny _ _ (compareOp Cmpop.NotIn _ _) _ _ _ | show wpAny _ _ (subscriptTail _ _ (Value.ref _) (Value.str _ _)) _ _ _)); walk1) | dsimp only | fail "no step"))
    exact none_ hx _ _ (kp_out (co.sub (pick3 (.head _) (.tail _ (.head _)) (.tail _ (.tail _ (.tail _ (.head _)))))) F rfl N kp fun p hp => .inr hp)
  | some ab =>
    obtain ⟨a, b⟩ := ab
    obtain ⟨p0, p1, p2⟩ := hps _ _ hx
    obtain ⟨tp, ta, tb, hv, hm⟩ := hpo.look_some hx
    have co' := (co.sub (pick4 (a := (ar, instObj 224 da)) (b := (da, arDict w t1 t2 t3 ld lo pd)) (c := (pd, o)) (d := (tp, tupObj a b ta tb)) (.head _) (.tail _ (.head _)) (.tail _ (.tail _ (.tail _ (.head _)))) (.tail _ (.tail _ (.tail _ (.tail _ hm))))))
    refine enter G C co' (by k_is) (by k_is) (BindsTo.of_eq (binds := [("self", .ref ar), ("name", .str x tx)]) rfl) (locs rfl) ?_
    intro g h₁ F N B X TT kp rv C'
    have hl' : g.IsList ld vs.toArray := by
      obtain ⟨o1, ho1, hc, q⟩ := hl
      refine ⟨o1, kp _ _ ho1 ?_, hc, q⟩
      have z1 := hld _ (.head _)
      have z2 := hld _ (.tail _ (.head _))
      have z3 := hld _ (.tail _ (.tail _ (.tail _ (.head _))))
      have z4 := hld _ (.tail _ (.tail _ (.tail _ (.tail _ hm))))
      dsimp only at z1 z2 z3 z4
      simp [z1.symm, z2.symm, z3.symm, z4.symm]
    refine (?_ : wpAny (model PR w) _ _ _ _ _)
    k_fold
    (repeat' (first | (k_unfold; (try dsimp only)) | ((fail_if_success (with_reducible first | refine (?_ : Exists _) | show wpAny _ _ (exec (Stmt.While _ _ _ _) _) _ _ _ | show wpAny _ _ (exec (Stmt.For _ _ _ _ _) _) _ _ _ | show wpAny _ _ (PySem.call (Value.ref _) _ _) _ _ _ | show wpAny _ _ (PySem.call (Value.type "range") _ _) _ _ _ | show wpAny _ _ (pyIter _) _ _ _ | show wpAny _ _ (PySem.call (Value.builtin "list.append") _ _) _ _ _ | show wpAny _ _ (PySem.call (Value.builtin "len") _ _) _ _ _ | show wpAny _ _ (setItem (Value.ref _) (Value.str _ _) _) _ _ _ | show wpAny _ _ (exec (Stmt.Raise _ _ _) _) _ _ _ | show wpAny _ _ (compareOp Cmpop.NotIn _ _) _ _ _ | show wpAny _ _ (subscriptTail _ _ (Value.ref _) (Value.str _ _)) _ _ _)); walk1) | dsimp only | fail "no step"))
    refine kdg_notin N (by k_mem) ho hsm (strKind_is _ _ _ _) true (by rw [hv]; rfl) ?_
    (repeat' (first | (k_unfold; (try dsimp only)) | ((fail_if_success (with_reducible first | refine (?_ : Exists _) | show wpAny _ _ (exec (Stmt.While _ _ _ _) _) _ _ _ | show wpAny _ _ (exec (Stmt.For _ _ _ _ _) _) _ _ _ | show wpAny _ _ (PySem.call (Value.ref _) _ _) _ _ _ | show wpAny _ _ (PySem.call (Value.type "range") _ _) _ _ _ | show wpAny _ _ (pyIter _) _ _ _ | show wpAny _ _ (PySem.call (Value.builtin "list.append") _ _) _ _ _ | show wpAny _ _ (PySem.call (Value.builtin "len") _ _) _ _ _ | show wpAny _ _ (setItem (Value.ref _) (Value.str _ _) _) _ _ _ | show wpAny _ _ (exec (Stmt.Raise _ _ _) _) _ _ _ | show wpAny _ _ (compareOp Cmpop.NotIn _ _) _ _ _ | show wpAny _ _ (subscriptTail _ _ (Value.ref _) (Value.str _ _)) _ _ _)); walk1) | dsimp only | fail "no step"))
    refine item_dict N (by k_mem) ho (strKind_is _ _ _ _) hv ?_
    (repeat' (first | (k_unfold; (try dsimp only)) | ((fail_if_success (with_reducible first | refine (?_ : Exists _) | show wpAny _ _ (exec (Stmt.While _ _ _ _) _) _ _ _ | show wpAny _ _ (exec (Stmt.For _ _ _ _ _) _) _ _ _ | show wpAny _ _ (PySem.call (Value.ref _) _ _) _ _ _ | show wpAny _ _ (PySem.call (Value.type "range") _ _) _ _ _ | show wpAny _ _ (pyIter _) _ _ _ | show wpAny _ _ (PySem.call (Value.builtin "list.append") _ _) _ _ _ | show wpAny _ _ (PySem.call (Value.builtin "len") _ _) _ _ _ | show wpAny _ _ (setItem (Value.ref _) (Value.str _ _) _) _ _ _ | show wpAny _ _ (exec (Stmt.Raise _ _ _) _) _ _ _ | show wpAny _ _ (compareOp Cmpop.NotIn _ _) _ _ _ | show wpAny _ _ (subscriptTail _ _ (Value.ref _) (Value.str _ _)) _ _ _)); walk1) | dsimp only | fail "no step"))
    refine unpackN_ F N (News.isTup N (by k_mem)) C'.calm rfl rfl ?_
    intro h2 F2 N2
    have hIl := hI.length
    (repeat' (first | (k_unfold; (try dsimp only)) | ((fail_if_success (with_reducible first | refine (?_ : Exists _) | show wpAny _ _ (exec (Stmt.While _ _ _ _) _) _ _ _ | show wpAny _ _ (exec (Stmt.For _ _ _ _ _) _) _ _ _ | show wpAny _ _ (PySem.call (Value.ref _) _ _) _ _ _ | show wpAny _ _ (PySem.call (Value.type "range") _ _) _ _ _ | show wpAny _ _ (pyIter _) _ _ _ | show wpAny _ _ (PySem.call (Value.builtin "list.append") _ _) _ _ _ | show wpAny _ _ (PySem.call (Value.builtin "len") _ _) _ _ _ | show wpAny _ _ (setItem (Value.ref _) (Value.str _ _) _) _ _ _ | show wpAny _ _ (exec (Stmt.Raise _ _ _) _) _ _ _ | show wpAny _ _ (compareOp Cmpop.NotIn _ _) _ _ _ | show wpAny _ _ (subscriptTail _ _ (Value.ref _) (Value.str _ _)) _ _ _)); walk1) | dsimp only | fail "no step"))
    rename Fr _ _ _ _ => F3
    rename News _ _ _ _ => N3
    rename_i d1 ws h5 hIw _ _ l1 d2 c2 h6 l2
    refine some_ a b hx d2 ws c2 _ _ (kp_out co' F3 rfl N3 kp fun p hp => .inr (.tail _ (.tail _ hp))) ?_ ?_ (N3 _ (.head _)).1
    · exact fresh_of (N3 _ (.head _)).2.2 kp (by simp [Nat.ne_of_gt l2.2.1, Nat.ne_of_gt l2.2.2.1, Nat.ne_of_gt l2.2.2.2.1, Nat.ne_of_gt l2.2.2.2.2])
    · have e : (b - a).toNat = min b.toNat ns.length - a.toNat := by omega
      rw [e]; exact hIw
end

section
open PySem PySem.W PyProof.Rows PySem.Calls



variable {w : World} {mean : ExcName → Option Value} {mg mb : Str → Option Value} {base : Heap} {A : Around} {l : List Env} {s : Shared}


/-! sorting texts -/
def asc (ss : List Str) : Prop := ss.Pairwise fun a b => a.cps.toList < b.cps.toList
theorem str_ext {a b : Str} (h : a.cps.toList = b.cps.toList) : a = b := by
  obtain ⟨a⟩ := a
  obtain ⟨b⟩ := b
  congr 1
  exact Array.ext' h
theorem rising_pair : ∀ (p : Str) (l : List Str), risingS p l = true → (∀ x ∈ l, ¬ x.cps.toList < p.cps.toList) ∧ l.Pairwise (fun a b => ¬ b.cps.toList < a.cps.toList)
  | _, [], _ => ⟨fun _ hx => absurd hx List.not_mem_nil, .nil⟩
  | p, x :: r, h => by
    rw [risingS, Bool.and_eq_true, ltCps_eq] at h
    have h1 : ¬ x.cps.toList < p.cps.toList := by simpa using h.1
    obtain ⟨a, b⟩ := rising_pair x r h.2
    refine ⟨fun y hy => ?_, .cons a b⟩
    rcases List.mem_cons.mp hy with rfl | hy
    · exact h1
    · intro q
      exact h1 (List.lt_of_le_of_lt (List.not_lt.mp (a y hy)) q)
theorem sorted_pair : ∀ {l : List Str}, sortedS l = true → l.Pairwise (fun a b => ¬ b.cps.toList < a.cps.toList)
  | [], _ => .nil
  | x :: r, h => by
    obtain ⟨a, b⟩ := rising_pair x r h
    exact .cons a b
theorem asc_of {l : List Str} (h : sortedS l = true) (hn : l.Nodup) : asc l := by
  have h1 := sorted_pair h
  unfold asc
  refine List.Pairwise.imp ?_ (List.pairwise_and_iff.mpr ⟨h1, hn⟩)
  rintro a b ⟨q, n⟩
  rcases Classical.em (a.cps.toList < b.cps.toList) with z | z
  · exact z
  · exact absurd (str_ext (List.le_antisymm (List.not_lt.mp q) (List.not_lt.mp z))) n
theorem asc_uniq : ∀ {a b : List Str}, a.Perm b → asc a → asc b → a = b
  | [], _, p, _, _ => p.nil_eq
  | x :: r, b, p, ha, hb => by
    cases b with
    | nil => exact absurd p.length_eq (by simp)
    | cons y t =>
      have hx : x ∈ y :: t := p.mem_iff.mp (.head _)
      have hy : y ∈ x :: r := p.mem_iff.mpr (.head _)
      have e : x = y := by
        rcases List.mem_cons.mp hx with h | h
        · exact h
        · rcases List.mem_cons.mp hy with h' | h'
          · exact h'.symm
          · have a1 := (List.pairwise_cons.mp ha).1 y h'
            have a2 := (List.pairwise_cons.mp hb).1 x h
            exact absurd (List.lt_trans a1 a2) (List.lt_irrefl _)
      subst e
      rw [asc_uniq (List.Perm.cons_inv p) (List.pairwise_cons.mp ha).2 (List.pairwise_cons.mp hb).2]

theorem list_sort_strs {prog : Program} {w : World} {E : Value → Shared → Prop} {D : Addr} {vs : List Value} {n : Nat} {ss : List Str} {Q : Value → Shared → Prop} (ho : s.heap.get? D = some (W.listOf vs.toArray n)) (hS : StrsAre vs ss) (h64 : vs.length < 64)
    (h : ∀ h' vs' ss' ep, Kp [D] s.heap h' → StrsAre vs' ss' → ss'.Perm ss → sortedS ss' = true → h'.get? D = some (W.listOf vs'.toArray ep) → Q .none { s with heap := h' }) :
    wpAny (model prog w) A (call (.builtin "list.sort") [.ref D]) Q E s := by
  refine wpAny_call_entry PyProof.Rows.slot_list_sort ⟨_, ho, rfl⟩ PyProof.Rows.entry_list_sort (list_sort_treeK strKind_oneLt (n := n) (vs := vs) ho hS.keysOf (fun v₁ v₂ rest e => keyKind_strs (by rw [← e]; exact hS)) h64 fun st' hp hs => ?_) (PyProof.Rows.args_list_sort _)
  obtain ⟨ss', h1, h2, h3⟩ := sorted_out_str hS hp hs
  obtain ⟨ep, he⟩ := sortedHeap_at (out := (arrOf st').map (·.2)) ho
  refine ⟨.none, rfl, h _ _ ss' ep ⟨?_, fun b o q nb => ?_⟩ h1 h2 h3 (by rw [Array.toArray_toList]; exact he)⟩
  · unfold sortedHeap
    simp only [Heap.size_update, size_push']
    omega
  · rw [sortedHeap_old (by simpa using nb) (Heap.lt_size q)]; exact q

theorem sorted_dict {prog : Program} {w : World} {E : Value → Shared → Prop} {g : Heap} {L d : Addr} {m : Str → Option Value} {news : List (Addr × Obj)} {o : Obj} {kvs : List (Str × Value)} {Q : Value → Shared → Prop} (hh : A.handled = none) (F : Fr g L s.heap m) (N : News g L s.heap news)
    (hd : s.heap.get? d = some o) (ho : o.IsDictOf (PySem.strKind prog w) kvs) (lo : (d == sysModules) = false) (h64 : kvs.length < 64)
    (h : ∀ D h' tk lv ss ep, Fr g L h' m → News g L h' ((D, W.listOf lv.toArray ep) :: news) → (∀ q ∈ news, q.1 < D) → StrsAre lv ss → ss.Perm (kvs.map (·.1)) → asc ss → Q (.ref D) { s with heap := h', toks := tk }) :
    wpAny (model prog w) A (call (.builtin "sorted") [.ref d]) Q E s := by
  obtain ⟨ep, hat⟩ := (Heap.dictOf_iff.mpr ⟨o, hd, ho⟩).dictAt
  refine kdu_sorted (kdl_dict (knd := PySem.strKind prog w) (kvs := kvs) (ep := ep) lo) hh F N hat (by rw [sizeLine_eq]; omega) fun D h' tk vs F' N' l1 hl hv => ?_
  have hS : ∀ (kvs : List (Str × Value)) (vs : List Value), vs.length = kvs.length → (∀ (j : Nat) (v : Value), vs[j]? = some v → ∃ (k : Str) (x : Value), kvs[j]? = some (k, x) ∧ (PySem.strKind prog w).is k v = true) → StrsAre vs (kvs.map (·.1)) := by
    intro kvs
    induction kvs with
    | nil => intro vs hl _; rw [List.eq_nil_of_length_eq_zero hl]; exact .nil
    | cons q r ih =>
      intro vs hl hv
      cases vs with
      | nil => cases hl
      | cons v vs =>
        obtain ⟨k, x, e, hk⟩ := hv 0 v rfl
        obtain ⟨t, rfl⟩ := Value.isStrOf_shape hk
        cases e
        exact .cons _ _ (ih vs (by simpa using hl) fun j u hu => hv (j + 1) u hu)
  have hD := N' _ (.head _)
  refine list_sort_strs hD.1 (hS kvs vs hl hv) (by omega) fun h2 vs2 ss2 ep2 k2 hS2 hp2 hs2 e2 => ?_
  have hn : (kvs.map (·.1)).Nodup := by
    obtain ⟨_, _, _, _, _, _, hn⟩ := ho
    exact hn
  refine h D h2 tk vs2 ss2 ep2 (k2.fr F' (by simpa using hD.2.1.symm) (by simpa using hD.2.2)) ?_ l1 hS2 hp2 (asc_of hs2 (hp2.nodup_iff.mpr hn))
  exact News.cons e2 hD.2.1 hD.2.2 (k2.news (News.tail N') fun p hp => by simpa using Nat.ne_of_lt (l1 p hp))
end

section
open PySem PySem.W PyProof.Rows PySem.Calls



variable {w : World} {mean : ExcName → Option Value} {mg mb : Str → Option Value} {base : Heap} {A : Around} {l : List Env} {s : Shared}


abbrev Files := List (Str × List Int)
def encHead (f : Str × List Int) : List Int := encText f.1 ++ encNat (2 * f.2.length)
def enc (fs : Files) : List Int := encNat (2 * fs.length) ++ fs.flatMap encHead ++ fs.flatMap (·.2)
def FileOk (f : Str × List Int) : Prop := f.1.cps.all (· < 128) = true ∧ f.1.length ≤ 8 ∧ f.2.length ≤ 6 ∧ ∀ n ∈ f.2, 0 ≤ n ∧ n ≤ 255
inductive FilesP (P : Addr → Obj → Prop) : List (Str × Value) → Files → Prop
  | nil : FilesP P [] []
  | cons {x : Str} {a : Addr} {vs : List Value} {ep : Nat} {ns : List Int} {kvs : List (Str × Value)} {fs : Files} : P a (W.listOf vs.toArray ep) → IntsAre vs ns → FilesP P kvs fs → FilesP P ((x, .ref a) :: kvs) ((x, ns) :: fs)
abbrev FilesIn (h : Heap) : List (Str × Value) → Files → Prop := FilesP fun a o => h.get? a = some o
abbrev FilesOk (tl : List (Addr × Obj)) : List (Str × Value) → Files → Prop := FilesP fun a o => (a, o) ∈ tl
section
variable {P P' : Addr → Obj → Prop}
theorem FilesP.keys : ∀ {kvs : List (Str × Value)} {fs : Files}, FilesP P kvs fs → kvs.map (·.1) = fs.map (·.1)
  | _, _, .nil => rfl
  | _, _, .cons _ _ r => by rw [List.map_cons, List.map_cons, r.keys]
theorem FilesP.mono (hk : ∀ a o, P a o → P' a o) : ∀ {kvs : List (Str × Value)} {fs : Files}, FilesP P kvs fs → FilesP P' kvs fs
  | _, _, .nil => .nil
  | _, _, .cons a b r => .cons (hk _ _ a) b (r.mono hk)
theorem FilesP.look {x : Str} {c : List Int} : ∀ {kvs : List (Str × Value)} {fs : Files}, FilesP P kvs fs → look fs x = some c → ∃ a vs ep, valueAt kvs x = some (.ref a) ∧ P a (W.listOf vs.toArray ep) ∧ IntsAre vs c
  | _, _, .nil, q => by cases q
  | _, _, .cons (x := y) a b r, q => by
    rw [look_cons] at q
    rw [valueAt_look, look_cons]
    split at q
    · rename_i z; rw [if_pos z]; cases q; exact ⟨_, _, _, rfl, a, b⟩
    · rename_i z; rw [if_neg z]; exact r.look q
theorem FilesP.look_none {x : Str} : ∀ {kvs : List (Str × Value)} {fs : Files}, FilesP P kvs fs → Mine.look fs x = none → valueAt kvs x = none
  | _, _, .nil, _ => rfl
  | _, _, .cons (x := y) a b r, q => by
    rw [look_cons] at q
    rw [valueAt_look, look_cons]
    split at q
    · cases q
    · rename_i z; rw [if_neg z]; exact r.look_none q
end
def putF (fs : Files) (x : Str) (c : List Int) : Files := if fs.any (fun kv => kv.1 = x) then fs.map (fun kv => if kv.1 = x then (kv.1, c) else kv) else fs ++ [(x, c)]
def delF (fs : Files) (x : Str) : Files := fs.filter fun kv => decide (kv.1 ≠ x)
section
variable {P : Addr → Obj → Prop}
theorem FilesP.any {x : Str} : ∀ {kvs : List (Str × Value)} {fs : Files}, FilesP P kvs fs → kvs.any (fun kv => kv.1 = x) = fs.any (fun kv => kv.1 = x)
  | _, _, .nil => rfl
  | _, _, .cons _ _ r => by rw [List.any_cons, List.any_cons, r.any]
theorem FilesP.append {kvs' : List (Str × Value)} {fs' : Files} : ∀ {kvs : List (Str × Value)} {fs : Files}, FilesP P kvs fs → FilesP P kvs' fs' → FilesP P (kvs ++ kvs') (fs ++ fs')
  | _, _, .nil, h => h
  | _, _, .cons a b r, h => .cons a b (r.append h)
theorem FilesP.map {x : Str} {a : Addr} {vs : List Value} {ep : Nat} {c : List Int} (ha : P a (W.listOf vs.toArray ep)) (hI : IntsAre vs c) : ∀ {kvs : List (Str × Value)} {fs : Files}, FilesP P kvs fs →
    FilesP P (kvs.map fun kv => if kv.1 = x then (kv.1, .ref a) else kv) (fs.map fun kv => if kv.1 = x then (kv.1, c) else kv)
  | _, _, .nil => .nil
  | _, _, .cons (x := y) u v r => by
    rw [List.map_cons, List.map_cons]
    dsimp only
    split
    · exact .cons ha hI (r.map ha hI)
    · exact .cons u v (r.map ha hI)
theorem FilesP.put {x : Str} {a : Addr} {vs : List Value} {ep : Nat} {c : List Int} {kvs : List (Str × Value)} {fs : Files} (h : FilesP P kvs fs) (ha : P a (W.listOf vs.toArray ep)) (hI : IntsAre vs c) : FilesP P (stored kvs x (.ref a)) (putF fs x c) := by
  unfold stored putF
  rw [h.any]
  split
  · exact h.map ha hI
  · exact h.append (.cons ha hI .nil)
theorem FilesP.del {x : Str} : ∀ {kvs : List (Str × Value)} {fs : Files}, FilesP P kvs fs → FilesP P (without kvs x) (delF fs x)
  | _, _, .nil => .nil
  | _, _, .cons (x := y) u v r => by
    unfold without delF
    rw [List.filter_cons, List.filter_cons]
    dsimp only
    split
    · exact .cons u v r.del
    · exact r.del
end
/-! the files by name -/
def insF (f : Str × List Int) : Files → Files
  | [] => [f]
  | g :: r => if f.1.cps.toList < g.1.cps.toList then f :: g :: r else g :: insF f r
def sortF : Files → Files
  | [] => []
  | f :: r => insF f (sortF r)
theorem insF_perm (f : Str × List Int) : ∀ fs : Files, (insF f fs).Perm (f :: fs)
  | [] => .refl _
  | g :: r => by
    unfold insF
    split
    · exact .refl _
    · exact ((insF_perm f r).cons g).trans (.swap f g r)
theorem sortF_perm : ∀ fs : Files, (sortF fs).Perm fs
  | [] => .refl _
  | f :: r => (insF_perm f _).trans ((sortF_perm r).cons f)
theorem lt_of_ne {a b : Str} (h : a ≠ b) (q : ¬ a.cps.toList < b.cps.toList) : b.cps.toList < a.cps.toList := by
  rcases Classical.em (b.cps.toList < a.cps.toList) with z | z
  · exact z
  · exact absurd (str_ext (List.le_antisymm (List.not_lt.mp z) (List.not_lt.mp q))) h
theorem insF_asc {f : Str × List Int} : ∀ {fs : Files}, asc (fs.map (·.1)) → f.1 ∉ fs.map (·.1) → asc ((insF f fs).map (·.1))
  | [], _, _ => List.pairwise_singleton _ _
  | g :: r, h, hn => by
    rw [List.map_cons] at h hn
    obtain ⟨h1, h2⟩ := List.pairwise_cons.mp h
    simp only [List.mem_cons, not_or] at hn
    unfold insF
    split
    · rename_i q
      refine List.pairwise_cons.mpr ⟨fun y hy => ?_, h⟩
      rcases List.mem_cons.mp hy with rfl | hy
      · exact q
      · exact List.lt_trans q (h1 y hy)
    · rename_i q
      rw [List.map_cons]
      refine List.pairwise_cons.mpr ⟨fun y hy => ?_, insF_asc h2 hn.2⟩
      rcases List.mem_cons.mp (((insF_perm f r).map (·.1)).mem_iff.mp hy) with rfl | hy
      · exact lt_of_ne hn.1 q
      · exact h1 y hy
theorem sortF_asc : ∀ {fs : Files}, (fs.map (·.1)).Nodup → asc ((sortF fs).map (·.1))
  | [], _ => .nil
  | f :: r, h => by
    rw [List.map_cons, List.nodup_cons] at h
    refine insF_asc (sortF_asc h.2) fun q => h.1 ?_
    exact ((sortF_perm r).map (·.1)).mem_iff.mp q
theorem look_mem {α : Type} {x : Str} {c : α} : ∀ {fs : List (Str × α)}, (fs.map (·.1)).Nodup → (x, c) ∈ fs → look fs x = some c
  | [], _, h => by cases h
  | (y, d) :: r, hn, h => by
    rw [List.map_cons, List.nodup_cons] at hn
    rw [look_cons]
    rcases List.mem_cons.mp h with q | q
    · cases q; rw [if_pos rfl]
    · rw [if_neg, look_mem hn.2 q]
      rintro rfl
      exact hn.1 (List.mem_map.mpr ⟨_, q, rfl⟩)
theorem encHead_len {f : Str × List Int} (h : FileOk f) : (encHead f).length ≤ 18 := by
  obtain ⟨h1, h2, h3, _⟩ := h
  unfold encHead encText
  have e1 := encNat_len (2 * f.2.length)
  have e2 := encNat_len (2 * f.1.length)
  have e3 : ∀ l : List Nat, l.all (· < 128) = true → (l.flatMap fun c => encNat (2 * c)).length ≤ 2 * l.length := by
    intro l
    induction l with
    | nil => intro _; simp
    | cons c r ih =>
      intro hc
      rw [List.all_cons, Bool.and_eq_true, decide_eq_true_eq] at hc
      have := encNat_len (2 * c)
      have := ih hc.2
      rw [List.flatMap_cons, List.length_append, List.length_cons]
      omega
  have e4 := e3 f.1.cps.toList (by rw [← Array.all_toList] at h1; exact h1)
  have e5 : f.1.cps.toList.length = f.1.length := Array.length_toList
  simp only [List.length_append]
  omega
theorem encHeads_len : ∀ {fs : Files}, (∀ f ∈ fs, FileOk f) → (fs.flatMap encHead).length ≤ 18 * fs.length
  | [], _ => by simp
  | f :: r, h => by
    have := encHead_len (h f (.head _))
    have := encHeads_len fun g hg => h g (.tail _ hg)
    rw [List.flatMap_cons, List.length_append, List.length_cons]
    omega
theorem bodies_len : ∀ {fs : Files}, (∀ f ∈ fs, FileOk f) → (fs.flatMap (·.2)).length ≤ 6 * fs.length
  | [], _ => by simp
  | f :: r, h => by
    have := (h f (.head _)).2.2.1
    have := bodies_len fun g hg => h g (.tail _ hg)
    rw [List.flatMap_cons, List.length_append, List.length_cons]
    omega

theorem len_dict {prog : Program} {w : World} {K : Type} [DecidableEq K] {knd : KeyKind prog w K} {E : Value → Shared → Prop} {d : Addr} {o : Obj} {kvs : List (K × Value)} {Q : Value → Shared → Prop} (hd : s.heap.get? d = some o) (ho : o.IsDictOf knd kvs) (lo : (d == sysModules) = false) (hfit : kvs.length ≤ 1000)
    (h : Q (.int kvs.length (s.toks + 1)) { s with toks := s.toks + 1 + 1 }) : wpAny (model prog w) A (call (.builtin "len") [.ref d]) Q E s := call_len_dict lo (Heap.dictOf_iff.mpr ⟨o, hd, ho⟩) (by omega) h
theorem item_of {prog : Program} {w : World} {K : Type} [DecidableEq K] {knd : KeyKind prog w K} {E : Value → Shared → Prop} {d : Addr} {o : Obj} {kvs : List (K × Value)} {k : K} {key v : Value}
    {value slice : PySem.Expr} {Q : Value → Shared → Prop} (hd : s.heap.get? d = some o) (ho : o.IsDictOf knd kvs) (hkey : knd.is k key = true) (hl : valueAt kvs k = some v) (h : Q v { s with toks := s.toks + 1 })
    (hs : subscripted slice false (.ref d) key = operate [.ref d, key] (getItem (.ref d) key) := by with_unfolding_all rfl) : wpAny (model prog w) A (subscriptTail value slice (.ref d) key) Q E s :=
  have hD : s.heap.DictOf knd d kvs := Heap.dictOf_iff.mpr ⟨o, hd, ho⟩
  tail_any hD.typeIs slot_dict_getitem.lookup (wpAny_getItem_of hkey hD.mapOf hl h) hs

theorem list_iter {prog : Program} {w : World} {E : Value → Shared → Prop} {K : Value → Shared → Prop} {D : Addr} {items : Array Value} (hl : s.heap.IsList D items)
    (k : ∀ I h', Kp [] s.heap h' → s.heap.objs.size ≤ I → h'.get? I = some (liObj D 0) → K (.ref I) { s with heap := h' }) : wpAny (model prog w) A (pyIter (.ref D)) K E s :=
  wpAny_pyIter_list hl (k _ _ ⟨by rw [Heap.size_push]; exact Nat.le_succ _, fun b o q _ => Heap.get?_push_of_some _ q⟩ (Nat.le_refl _) (Heap.get?_push_size _ rfl))
theorem strs_get : ∀ {lv : List Value} {ss : List Str}, StrsAre lv ss → ∀ {k : Nat} {v : Value}, lv[k]? = some v → ∃ x t, ss[k]? = some x ∧ v = .str x t
  | _, _, .nil, k, v, h => by simp at h
  | _, _, .cons x t r, 0, v, h => by cases h; exact ⟨x, t, rfl, rfl⟩
  | _, _, .cons x t r, k + 1, v, h => strs_get r (by simpa using h)

theorem isList_of {h : Heap} {a : Addr} {its : Array Value} {n : Nat} (e : h.get? a = some (W.listOf its n)) : h.IsList a its := ⟨_, e, rfl, n, rfl⟩
theorem extend_list {prog : Program} {w : World} {E : Value → Shared → Prop} {D b : Addr} {its its2 : List Value} {n n2 : Nat} {Q : Value → Shared → Prop} (hD : s.heap.get? D = some (W.listOf its.toArray n)) (hb : s.heap.get? b = some (W.listOf its2.toArray n2))
    (hz : its.length + its2.length ≤ 100000) (h : ∀ h' ep, Kp [D] s.heap h' → h'.get? D = some (W.listOf (its ++ its2).toArray ep) → Q .none { s with heap := h' }) :
    wpAny (model prog w) A (call (.builtin "list.extend") [.ref D, .ref b]) Q E s := by
  have hu := PyProof.Rows.get?_update_seq hD (· ++ its2.toArray)
  refine call_meets PySem.F.slot_list_extend ⟨_, hD, rfl⟩ PySem.F.entry_list_extend (PySem.F.args_list_extend_2 _ _) (PySem.AutoSeq1.list_extend_list_list_0 D its.toArray n b its2.toArray n2 ?_ (by rw [List.size_toArray, sizeLine_eq]; omega) (by rw [List.size_toArray, List.size_toArray, sizeLine_eq]; omega)) ⟨hD, hb, h _ (if (its.toArray ++ its2.toArray).size == its.toArray.size then n else n + 1) ⟨?_, fun c o q nb => ?_⟩ (hu.trans ?_)⟩
  · simp only [List.size_toArray, Builtin.List.listTooLong]
    intro q
    simp [sizeLine_eq] at q
    omega
  · rw [Heap.size_after_update]; exact Nat.le_refl _
  · rw [Heap.get?_update_ne _ _ _ _ (by simpa using nb)]; exact q
  · simp only [List.append_toArray]

theorem pack_call {fd : Addr} {od : Obj} {kvs : List (Str × Value)} {fs : Files} {Q E : Value → Shared → Prop} (G : Gr w mean mg mb base) (C : At base A l 4 s.heap)
    (hfd : s.heap.get? fd = some od) (hod : od.IsDictOf (strKind PR w) kvs) (hsm : (fd == sysModules) = false) (hfs : FilesIn s.heap kvs fs) (hok : ∀ f ∈ fs, FileOk f) (hn : fs.length ≤ 8)
    (ok : ∀ b vs ep h' tk, Kp [] s.heap h' → s.heap.get? b = none → IntsAre vs (enc (sortF fs)) → h'.get? b = some (W.listOf vs.toArray ep) → Q (.ref b) { s with heap := h', toks := tk }) :
    wpAny (model PR w) A (call (.ref 179) [.ref fd]) Q E s := by
  have hnd : (fs.map (·.1)).Nodup := by
    obtain ⟨_, _, _, _, _, _, hn⟩ := hod
    rw [← hfs.keys]; exact hn
  have hp := sortF_perm fs
  have ha := sortF_asc hnd
  generalize sortF fs = fs' at ok hp ha
  refine wpAny_call ?_
  refine enter (core := []) G C (fun _ hp => absurd hp List.not_mem_nil) (by k_is) (by k_is) (BindsTo.of_eq (binds := [("files", .ref fd)]) rfl) (locs rfl) ?_
  intro g h₁ F N B X TT kp rv C'
  have gfd : g.get? fd = some od := kp _ _ hfd (by simp)
  have gfs : FilesIn g kvs fs := hfs.mono fun a o ho => kp _ _ ho (by simp)
  have hkl : kvs.length = fs.length := by rw [← List.length_map (f := (·.1)), hfs.keys, List.length_map]
  refine (?_ : wpAny (model PR w) _ _ _ _ _)
  k_fold
  (repeat' (first | (k_unfold; (try dsimp only)) | ((fail_if_success (with_reducible first | refine (?_ : Exists _) | show wpAny _ _ (exec (Stmt.While _ _ _ _) _) _ _ _ | show wpAny _ _ (exec (Stmt.For _ _ _ _ _) _) _ _ _ | show wpAny _ _ (PySem.call (Value.ref _) _ _) _ _ _ | show wpAny _ _ (PySem.call (Value.type "range") _ _) _ _ _ | show wpAny _ _ (pyIter _) _ _ _ | show wpAny _ _ (PySem.call (Value.builtin "list.append") _ _) _ _ _ | show wpAny _ _ (PySem.call (Value.builtin "len") _ _) _ _ _ | show wpAny _ _ (setItem (Value.ref _) (Value.str _ _) _) _ _ _ | show wpAny _ _ (exec (Stmt.Raise _ _ _) _) _ _ _ | show wpAny _ _ (compareOp Cmpop.NotIn _ _) _ _ _ | show wpAny _ _ (PySem.call (Value.builtin "sorted") _ _) _ _ _ | show wpAny _ _ (subscriptTail _ _ (Value.ref _) (Value.str _ _)) _ _ _)); walk1) | dsimp only | fail "no step"))
  refine wmake_call G C'.less ?_
  intro wr dw lo h2 tk2 t1 k2 hd2 hdw hwl e1 e2 e3
  dsimp only at k2 hd2
  have hLh : s.heap.objs.size < h₁.objs.size := F.ns.lt
  have wrL : wr ≠ s.heap.objs.size := Nat.ne_of_gt (Nat.lt_trans (Nat.lt_of_lt_of_le hLh hd2) hdw)
  have dwL : dw ≠ s.heap.objs.size := Nat.ne_of_gt (Nat.lt_of_lt_of_le hLh hd2)
  have loL : lo ≠ s.heap.objs.size := Nat.ne_of_gt (Nat.lt_trans (Nat.lt_trans (Nat.lt_of_lt_of_le hLh hd2) hdw) hwl)
  have hg : ∀ b, h₁.objs.size ≤ b → g.get? b = none := fun b hb => none_of_le (Nat.le_trans (Nat.le_of_lt (Nat.lt_of_le_of_lt F.above hLh)) hb)
  have dwg := hg _ hd2
  have wrg := hg _ (Nat.le_of_lt (Nat.lt_of_le_of_lt hd2 hdw))
  have log := hg _ (Nat.le_of_lt (Nat.lt_trans (Nat.lt_of_le_of_lt hd2 hdw) hwl))
  have n1 : wr ≠ dw := Nat.ne_of_gt hdw
  have n2 : wr ≠ lo := Nat.ne_of_lt hwl
  have n3 : dw ≠ lo := Nat.ne_of_lt (Nat.lt_trans hdw hwl)
  have F2 := k2.fr F (by simp) (by simp)
  have N2 : News g s.heap.objs.size h2 (wrCore w wr dw lo t1 [] 0) := News.cons e1 wrL wrg (News.cons e2 dwL dwg (News.cons e3 loL log News.nil))
  clear F N
  (repeat' (first | (k_unfold; (try dsimp only)) | ((fail_if_success (with_reducible first | refine (?_ : Exists _) | show wpAny _ _ (exec (Stmt.While _ _ _ _) _) _ _ _ | show wpAny _ _ (exec (Stmt.For _ _ _ _ _) _) _ _ _ | show wpAny _ _ (PySem.call (Value.ref _) _ _) _ _ _ | show wpAny _ _ (PySem.call (Value.type "range") _ _) _ _ _ | show wpAny _ _ (pyIter _) _ _ _ | show wpAny _ _ (PySem.call (Value.builtin "list.append") _ _) _ _ _ | show wpAny _ _ (PySem.call (Value.builtin "len") _ _) _ _ _ | show wpAny _ _ (setItem (Value.ref _) (Value.str _ _) _) _ _ _ | show wpAny _ _ (exec (Stmt.Raise _ _ _) _) _ _ _ | show wpAny _ _ (compareOp Cmpop.NotIn _ _) _ _ _ | show wpAny _ _ (PySem.call (Value.builtin "sorted") _ _) _ _ _ | show wpAny _ _ (subscriptTail _ _ (Value.ref _) (Value.str _ _)) _ _ _)); walk1) | dsimp only | fail "no step"))
  rename Fr _ _ _ _ => F3
  rename News _ _ _ _ => N3
  refine len_dict (F3.keep _ _ gfd) hod hsm (by omega) ?_
  (repeat' (first | (k_unfold; (try dsimp only)) | ((fail_if_success (with_reducible first | refine (?_ : Exists _) | show wpAny _ _ (exec (Stmt.While _ _ _ _) _) _ _ _ | show wpAny _ _ (exec (Stmt.For _ _ _ _ _) _) _ _ _ | show wpAny _ _ (PySem.call (Value.ref _) _ _) _ _ _ | show wpAny _ _ (PySem.call (Value.type "range") _ _) _ _ _ | show wpAny _ _ (pyIter _) _ _ _ | show wpAny _ _ (PySem.call (Value.builtin "list.append") _ _) _ _ _ | show wpAny _ _ (PySem.call (Value.builtin "len") _ _) _ _ _ | show wpAny _ _ (setItem (Value.ref _) (Value.str _ _) _) _ _ _ | show wpAny _ _ (exec (Stmt.Raise _ _ _) _) _ _ _ | show wpAny _ _ (compareOp Cmpop.NotIn _ _) _ _ _ | show wpAny _ _ (PySem.call (Value.builtin "sorted") _ _) _ _ _ | show wpAny _ _ (subscriptTail _ _ (Value.ref _) (Value.str _ _)) _ _ _)); walk1) | dsimp only | fail "no step"))
  refine wnumber_call G (C'.now B F3).less (Core.mk (C'.now B F3) B N3) n1 n2 n3 .nil (Int.natCast_nonneg _) (by omega) (by decide) ?_
  intro h4 tk4 vs4 ep4 hI4 k4 e4
  have F4 := k4.fr F3 (by simpa using loL.symm) (by simpa using log)
  have N4 := wr_news N3 n2 n3 k4 e4
  clear F3 N3
  rw [Int.toNat_natCast, List.nil_append] at hI4
  (repeat' (first | (k_unfold; (try dsimp only)) | ((fail_if_success (with_reducible first | refine (?_ : Exists _) | show wpAny _ _ (exec (Stmt.While _ _ _ _) _) _ _ _ | show wpAny _ _ (exec (Stmt.For _ _ _ _ _) _) _ _ _ | show wpAny _ _ (PySem.call (Value.ref _) _ _) _ _ _ | show wpAny _ _ (PySem.call (Value.type "range") _ _) _ _ _ | show wpAny _ _ (pyIter _) _ _ _ | show wpAny _ _ (PySem.call (Value.builtin "list.append") _ _) _ _ _ | show wpAny _ _ (PySem.call (Value.builtin "len") _ _) _ _ _ | show wpAny _ _ (setItem (Value.ref _) (Value.str _ _) _) _ _ _ | show wpAny _ _ (exec (Stmt.Raise _ _ _) _) _ _ _ | show wpAny _ _ (compareOp Cmpop.NotIn _ _) _ _ _ | show wpAny _ _ (PySem.call (Value.builtin "sorted") _ _) _ _ _ | show wpAny _ _ (subscriptTail _ _ (Value.ref _) (Value.str _ _)) _ _ _)); walk1) | dsimp only | fail "no step"))
  refine wpAny_For ?_
  (repeat' (first | (k_unfold; (try dsimp only)) | ((fail_if_success (with_reducible first | refine (?_ : Exists _) | show wpAny _ _ (exec (Stmt.While _ _ _ _) _) _ _ _ | show wpAny _ _ (exec (Stmt.For _ _ _ _ _) _) _ _ _ | show wpAny _ _ (PySem.call (Value.ref _) _ _) _ _ _ | show wpAny _ _ (PySem.call (Value.type "range") _ _) _ _ _ | show wpAny _ _ (pyIter _) _ _ _ | show wpAny _ _ (PySem.call (Value.builtin "list.append") _ _) _ _ _ | show wpAny _ _ (PySem.call (Value.builtin "len") _ _) _ _ _ | show wpAny _ _ (setItem (Value.ref _) (Value.str _ _) _) _ _ _ | show wpAny _ _ (exec (Stmt.Raise _ _ _) _) _ _ _ | show wpAny _ _ (compareOp Cmpop.NotIn _ _) _ _ _ | show wpAny _ _ (PySem.call (Value.builtin "sorted") _ _) _ _ _ | show wpAny _ _ (subscriptTail _ _ (Value.ref _) (Value.str _ _)) _ _ _)); walk1) | dsimp only | fail "no step"))
  refine sorted_dict C'.calm F4 N4 (F4.keep _ _ gfd) hod hsm (by omega) ?_
  intro D h5 tk5 lv ss ep5 F5 N5 l5 hlv hpm has
  (repeat' (first | (k_unfold; (try dsimp only)) | ((fail_if_success (with_reducible first | refine (?_ : Exists _) | show wpAny _ _ (exec (Stmt.While _ _ _ _) _) _ _ _ | show wpAny _ _ (exec (Stmt.For _ _ _ _ _) _) _ _ _ | show wpAny _ _ (PySem.call (Value.ref _) _ _) _ _ _ | show wpAny _ _ (PySem.call (Value.type "range") _ _) _ _ _ | show wpAny _ _ (pyIter _) _ _ _ | show wpAny _ _ (PySem.call (Value.builtin "list.append") _ _) _ _ _ | show wpAny _ _ (PySem.call (Value.builtin "len") _ _) _ _ _ | show wpAny _ _ (setItem (Value.ref _) (Value.str _ _) _) _ _ _ | show wpAny _ _ (exec (Stmt.Raise _ _ _) _) _ _ _ | show wpAny _ _ (compareOp Cmpop.NotIn _ _) _ _ _ | show wpAny _ _ (PySem.call (Value.builtin "sorted") _ _) _ _ _ | show wpAny _ _ (subscriptTail _ _ (Value.ref _) (Value.str _ _)) _ _ _)); walk1) | dsimp only | fail "no step"))
  have hss : ss = fs'.map (·.1) := asc_uniq (hpm.trans (by rw [hfs.keys]; exact (hp.map _).symm)) has ha
  subst hss
  have hnd' : (fs'.map (·.1)).Nodup := (hp.map _).nodup_iff.mpr hnd
  have hfl : fs'.length = fs.length := hp.length_eq
  have hok' : ∀ f ∈ fs', FileOk f := fun f hf => hok f (hp.mem_iff.mp hf)
  have hlk : ∀ f ∈ fs', look fs f.1 = some f.2 := fun f hf => look_mem hnd (hp.mem_iff.mp hf)
  have hb40 : ∀ k, ((fs'.take k).flatMap encHead).length ≤ 40 * 8 := fun k => by
    have := encHeads_len (fs := fs'.take k) fun f hf => hok' f (List.mem_of_mem_take hf)
    have h2 : (fs'.take k).length ≤ 8 := by rw [List.length_take]; omega
    omega
  have hlvl : lv.length = fs'.length := by rw [hlv.len_eq, List.length_map]
  have hb0 : (encNat (2 * kvs.length)).length ≤ 2 := Nat.le_trans (encNat_len _) (by omega)
  refine list_iter (News.isList N5 (.head _)) ?_
  intro I h6 k6 hI6 e6
  dsimp only at k6 hI6
  have hIL : I ≠ s.heap.objs.size := Nat.ne_of_gt (Nat.lt_of_lt_of_le F5.ns.lt hI6)
  have hIg : g.get? I = none := none_of_le (Nat.le_trans (Nat.le_of_lt (Nat.lt_of_le_of_lt F5.above F5.ns.lt)) hI6)
  have hI1 : I ≠ wr := fresh_ne hI6 (N5 _ (.tail _ (.head _))).1
  have hI2 : I ≠ dw := fresh_ne hI6 (N5 _ (.tail _ (.tail _ (.head _)))).1
  have hI3 : I ≠ lo := fresh_ne hI6 (N5 _ (.tail _ (.tail _ (.tail _ (.head _))))).1
  have hI5 : I ≠ D := fresh_ne hI6 (N5 _ (.head _)).1
  have hDlo : D ≠ lo := Nat.ne_of_gt (l5 _ (.tail _ (.tail _ (.head _))))
  have F6 := k6.fr F5 (by simp) (by simp)
  have N6 := News.cons e6 hIL hIg (k6.news N5 (by simp))
  clear F5 N5
  refine loop_list (ll := D) (items := lv) (C'.now B F6).calm (fun (k : Nat) (s' : Shared) => Box (∀ PP : Prop, (∀ (vs' : List Value) (ep' : Nat) (tk'' : Tok) (m : Str → Option Value) (h'' : Heap) (o : Obj), s' = { s with heap := h'', toks := tk'' } → Fr g s.heap.objs.size h'' m → (∀ x ∈ [(Str.ofString "writer", Value.ref wr), (Str.ofString "files", Value.ref fd)], m x.1 = some x.2) → News g s.heap.objs.size h'' ((I, o) :: (D, W.listOf lv.toArray ep5) :: wrCore w wr dw lo t1 vs' ep') → o.cls = .type "list_iterator" → o.data = .fields #[.ref D, .int k 0] → IntsAre vs' (encNat (2 * kvs.length) ++ (fs'.take k).flatMap encHead) → PP) → PP)) ?_ ?_ ?_ ?_
  · rintro k s' xx
    refine unbox xx _ fun vs' ep' tk'' m h'' o es F7 hm N7 ho1 ho2 _ => ?_
    subst es
    exact ⟨⟨o, (N7 _ (.head _)).1, ho1, ho2⟩, News.isList N7 (.tail _ (.head _))⟩
  · rintro k s' h7 v hv xx ⟨o', ho', hc', hd'⟩ hs7
    refine unbox xx _ fun vs' ep' tk'' m h'' o es F7 hm N7 ho1 ho2 hI7 => ?_
    subst es
    obtain ⟨x, tx, hx, rfl⟩ := strs_get hlv hv
    obtain ⟨⟨x', c⟩, hf, rfl⟩ : ∃ f, fs'[k]? = some f ∧ f.1 = x := by
      rw [List.getElem?_map] at hx
      exact Option.map_eq_some_iff.mp hx
    have hfm : (x', c) ∈ fs' := List.mem_of_getElem? hf
    obtain ⟨q1, q2, q3, q4⟩ := hok' _ hfm
    dsimp only at q1 q2 q3 q4
    have hlook : look fs x' = some c := hlk _ hfm
    obtain ⟨ca, cvs, cep, hva, hcl, hcI⟩ := gfs.look hlook
    have htake : (fs'.take (k + 1)) = fs'.take k ++ [(x', c)] := by rw [List.take_add_one, hf]; rfl
    have K7 := same_kp hs7
    have F8 := Fr.known (K7.fr F7 (by simpa using hIL.symm) (by simpa using hIg)) hm
    have N8 := News.cons ho' hIL hIg (K7.news (News.tail N7) (by simp [hI1.symm, hI2.symm, hI3.symm, hI5.symm]))
    have hbk := hb40 k
    clear F7 N7 F6 N6
    dsimp only
    refine (?_ : wpAny (model PR w) _ _ _ _ _)
    (repeat' (first | (k_unfold; (try dsimp only)) | ((fail_if_success (with_reducible first | refine (?_ : Exists _) | show wpAny _ _ (exec (Stmt.While _ _ _ _) _) _ _ _ | show wpAny _ _ (exec (Stmt.For _ _ _ _ _) _) _ _ _ | show wpAny _ _ (PySem.call (Value.ref _) _ _) _ _ _ | show wpAny _ _ (PySem.call (Value.type "range") _ _) _ _ _ | show wpAny _ _ (pyIter _) _ _ _ | show wpAny _ _ (PySem.call (Value.builtin "list.append") _ _) _ _ _ | show wpAny _ _ (PySem.call (Value.builtin "len") _ _) _ _ _ | show wpAny _ _ (setItem (Value.ref _) (Value.str _ _) _) _ _ _ | show wpAny _ _ (exec (Stmt.Raise _ _ _) _) _ _ _ | show wpAny _ _ (compareOp Cmpop.NotIn _ _) _ _ _ | show wpAny _ _ (PySem.call (Value.builtin "sorted") _ _) _ _ _ | show wpAny _ _ (subscriptTail _ _ (Value.ref _) (Value.str _ _)) _ _ _)); walk1) | dsimp only | fail "no step"))
    rename Fr _ _ _ _ => F9
    rename News _ _ _ _ => N9
    refine wtext_call G (C'.now B F9).less (Core.mk (C'.now B F9) B (News.tail (News.tail N9))) n1 n2 n3 hI7 q1 (by omega) (by rw [List.length_append]; omega) ?_
    intro h10 tk10 vs10 ep10 hI10 k10 e10
    have F10 := k10.fr F9 (by simpa using loL.symm) (by simpa using log)
    have N10 := News.cons (k10.2 _ _ (N9 _ (.head _)).1 (by simpa using hI3)) hIL hIg (News.cons (k10.2 _ _ (N9 _ (.tail _ (.head _))).1 (by simpa using hDlo)) (N9 _ (.tail _ (.head _))).2.1 (N9 _ (.tail _ (.head _))).2.2 (wr_news (News.tail (News.tail N9)) n2 n3 k10 e10))
    clear F9 N9
    dsimp only at N10
    (repeat' (first | (k_unfold; (try dsimp only)) | ((fail_if_success (with_reducible first | refine (?_ : Exists _) | show wpAny _ _ (exec (Stmt.While _ _ _ _) _) _ _ _ | show wpAny _ _ (exec (Stmt.For _ _ _ _ _) _) _ _ _ | show wpAny _ _ (PySem.call (Value.ref _) _ _) _ _ _ | show wpAny _ _ (PySem.call (Value.type "range") _ _) _ _ _ | show wpAny _ _ (pyIter _) _ _ _ | show wpAny _ _ (PySem.call (Value.builtin "list.append") _ _) _ _ _ | show wpAny _ _ (PySem.call (Value.builtin "len") _ _) _ _ _ | show wpAny _ _ (setItem (Value.ref _) (Value.str _ _) _) _ _ _ | show wpAny _ _ (exec (Stmt.Raise _ _ _) _) _ _ _ | show wpAny _ _ (compareOp Cmpop.NotIn _ _) _ _ _ | show wpAny _ _ (PySem.call (Value.builtin "sorted") _ _) _ _ _ | show wpAny _ _ (subscriptTail _ _ (Value.ref _) (Value.str _ _)) _ _ _)); walk1) | dsimp only | fail "no step"))
    refine item_of (F10.keep _ _ gfd) hod (strKind_is _ _ _ _) hva ?_
    (repeat' (first | (k_unfold; (try dsimp only)) | ((fail_if_success (with_reducible first | refine (?_ : Exists _) | show wpAny _ _ (exec (Stmt.While _ _ _ _) _) _ _ _ | show wpAny _ _ (exec (Stmt.For _ _ _ _ _) _) _ _ _ | show wpAny _ _ (PySem.call (Value.ref _) _ _) _ _ _ | show wpAny _ _ (PySem.call (Value.type "range") _ _) _ _ _ | show wpAny _ _ (pyIter _) _ _ _ | show wpAny _ _ (PySem.call (Value.builtin "list.append") _ _) _ _ _ | show wpAny _ _ (PySem.call (Value.builtin "len") _ _) _ _ _ | show wpAny _ _ (setItem (Value.ref _) (Value.str _ _) _) _ _ _ | show wpAny _ _ (exec (Stmt.Raise _ _ _) _) _ _ _ | show wpAny _ _ (compareOp Cmpop.NotIn _ _) _ _ _ | show wpAny _ _ (PySem.call (Value.builtin "sorted") _ _) _ _ _ | show wpAny _ _ (subscriptTail _ _ (Value.ref _) (Value.str _ _)) _ _ _)); walk1) | dsimp only | fail "no step"))
    refine len_of (isList_of (F10.keep _ _ hcl)) hcI.length (by omega) ?_
    (repeat' (first | (k_unfold; (try dsimp only)) | ((fail_if_success (with_reducible first | refine (?_ : Exists _) | show wpAny _ _ (exec (Stmt.While _ _ _ _) _) _ _ _ | show wpAny _ _ (exec (Stmt.For _ _ _ _ _) _) _ _ _ | show wpAny _ _ (PySem.call (Value.ref _) _ _) _ _ _ | show wpAny _ _ (PySem.call (Value.type "range") _ _) _ _ _ | show wpAny _ _ (pyIter _) _ _ _ | show wpAny _ _ (PySem.call (Value.builtin "list.append") _ _) _ _ _ | show wpAny _ _ (PySem.call (Value.builtin "len") _ _) _ _ _ | show wpAny _ _ (setItem (Value.ref _) (Value.str _ _) _) _ _ _ | show wpAny _ _ (exec (Stmt.Raise _ _ _) _) _ _ _ | show wpAny _ _ (compareOp Cmpop.NotIn _ _) _ _ _ | show wpAny _ _ (PySem.call (Value.builtin "sorted") _ _) _ _ _ | show wpAny _ _ (subscriptTail _ _ (Value.ref _) (Value.str _ _)) _ _ _)); walk1) | dsimp only | fail "no step"))
    have hel := encHead_len (hok' _ hfm)
    unfold encHead at hel
    dsimp only at hel
    rw [List.length_append] at hel
    refine wnumber_call G (C'.now B F10).less (Core.mk (C'.now B F10) B (News.tail (News.tail N10))) n1 n2 n3 hI10 (Int.natCast_nonneg _) (by omega) (by rw [List.length_append, List.length_append]; omega) ?_
    intro h11 tk11 vs11 ep11 hI11 k11 e11
    have F11 := k11.fr F10 (by simpa using loL.symm) (by simpa using log)
    have N11 := News.cons (k11.2 _ _ (N10 _ (.head _)).1 (by simpa using hI3)) hIL hIg (News.cons (k11.2 _ _ (N10 _ (.tail _ (.head _))).1 (by simpa using hDlo)) (N10 _ (.tail _ (.head _))).2.1 (N10 _ (.tail _ (.head _))).2.2 (wr_news (News.tail (News.tail N10)) n2 n3 k11 e11))
    clear F10 N10
    dsimp only at N11
    (repeat' (first | (k_unfold; (try dsimp only)) | ((fail_if_success (with_reducible first | refine (?_ : Exists _) | show wpAny _ _ (exec (Stmt.While _ _ _ _) _) _ _ _ | show wpAny _ _ (exec (Stmt.For _ _ _ _ _) _) _ _ _ | show wpAny _ _ (PySem.call (Value.ref _) _ _) _ _ _ | show wpAny _ _ (PySem.call (Value.type "range") _ _) _ _ _ | show wpAny _ _ (pyIter _) _ _ _ | show wpAny _ _ (PySem.call (Value.builtin "list.append") _ _) _ _ _ | show wpAny _ _ (PySem.call (Value.builtin "len") _ _) _ _ _ | show wpAny _ _ (setItem (Value.ref _) (Value.str _ _) _) _ _ _ | show wpAny _ _ (exec (Stmt.Raise _ _ _) _) _ _ _ | show wpAny _ _ (compareOp Cmpop.NotIn _ _) _ _ _ | show wpAny _ _ (PySem.call (Value.builtin "sorted") _ _) _ _ _ | show wpAny _ _ (subscriptTail _ _ (Value.ref _) (Value.str _ _)) _ _ _)); walk1) | dsimp only | fail "no step"))
    rw [Int.toNat_natCast] at hI11
    refine box fun PP kk => kk vs11 ep11 _ _ _ o' rfl F11 (by simp only [List.forall_mem_cons]; exact ⟨rfl, rfl, fun _ hq => absurd hq List.not_mem_nil⟩) N11 hc' hd' ?_
    rw [htake, List.flatMap_append, List.flatMap_cons, List.flatMap_nil, List.append_nil, encHead]
    simpa [List.append_assoc] using hI11
  · rintro s' h7 xx he7
    refine unbox xx _ fun vs' ep' tk'' m h'' o es F7 hm N7 ho1 ho2 hI7 => ?_
    subst es
    have F8 := Fr.known (Fr.ext F7 he7 hIL hIg) hm
    have N8 := News.ext (News.tail N7) he7 (by simp [hI1.symm, hI2.symm, hI3.symm, hI5.symm])
    have N8' := News.tail N8
    clear F7 N7 F6 N6 N8
    rw [List.take_of_length_le (by omega)] at hI7
    dsimp only
    refine (?_ : wpAny (model PR w) _ _ _ _ _)
    (repeat' (first | (k_unfold; (try dsimp only)) | ((fail_if_success (with_reducible first | refine (?_ : Exists _) | show wpAny _ _ (exec (Stmt.While _ _ _ _) _) _ _ _ | show wpAny _ _ (exec (Stmt.For _ _ _ _ _) _) _ _ _ | show wpAny _ _ (PySem.call (Value.ref _) _ _) _ _ _ | show wpAny _ _ (PySem.call (Value.type "range") _ _) _ _ _ | show wpAny _ _ (pyIter _) _ _ _ | show wpAny _ _ (PySem.call (Value.builtin "list.append") _ _) _ _ _ | show wpAny _ _ (PySem.call (Value.builtin "len") _ _) _ _ _ | show wpAny _ _ (setItem (Value.ref _) (Value.str _ _) _) _ _ _ | show wpAny _ _ (exec (Stmt.Raise _ _ _) _) _ _ _ | show wpAny _ _ (compareOp Cmpop.NotIn _ _) _ _ _ | show wpAny _ _ (PySem.call (Value.builtin "sorted") _ _) _ _ _ | show wpAny _ _ (subscriptTail _ _ (Value.ref _) (Value.str _ _)) _ _ _)); walk1) | dsimp only | fail "no step"))
    refine wpAny_For ?_
    (repeat' (first | (k_unfold; (try dsimp only)) | ((fail_if_success (with_reducible first | refine (?_ : Exists _) | show wpAny _ _ (exec (Stmt.While _ _ _ _) _) _ _ _ | show wpAny _ _ (exec (Stmt.For _ _ _ _ _) _) _ _ _ | show wpAny _ _ (PySem.call (Value.ref _) _ _) _ _ _ | show wpAny _ _ (PySem.call (Value.type "range") _ _) _ _ _ | show wpAny _ _ (pyIter _) _ _ _ | show wpAny _ _ (PySem.call (Value.builtin "list.append") _ _) _ _ _ | show wpAny _ _ (PySem.call (Value.builtin "len") _ _) _ _ _ | show wpAny _ _ (setItem (Value.ref _) (Value.str _ _) _) _ _ _ | show wpAny _ _ (exec (Stmt.Raise _ _ _) _) _ _ _ | show wpAny _ _ (compareOp Cmpop.NotIn _ _) _ _ _ | show wpAny _ _ (PySem.call (Value.builtin "sorted") _ _) _ _ _ | show wpAny _ _ (subscriptTail _ _ (Value.ref _) (Value.str _ _)) _ _ _)); walk1) | dsimp only | fail "no step"))
    refine sorted_dict C'.calm F8 N8' (F8.keep _ _ gfd) hod hsm (by omega) ?_
    intro D2 h9 tk9 lv2 ss2 ep9 F9 N9 l9 hlv2 hpm2 has2
    have hss : ss2 = fs'.map (·.1) := asc_uniq (hpm2.trans (by rw [hfs.keys]; exact (hp.map _).symm)) has2 ha
    subst hss
    have hlvl2 : lv2.length = fs'.length := by rw [hlv2.len_eq, List.length_map]
    clear F8 N8'
    (repeat' (first | (k_unfold; (try dsimp only)) | ((fail_if_success (with_reducible first | refine (?_ : Exists _) | show wpAny _ _ (exec (Stmt.While _ _ _ _) _) _ _ _ | show wpAny _ _ (exec (Stmt.For _ _ _ _ _) _) _ _ _ | show wpAny _ _ (PySem.call (Value.ref _) _ _) _ _ _ | show wpAny _ _ (PySem.call (Value.type "range") _ _) _ _ _ | show wpAny _ _ (pyIter _) _ _ _ | show wpAny _ _ (PySem.call (Value.builtin "list.append") _ _) _ _ _ | show wpAny _ _ (PySem.call (Value.builtin "len") _ _) _ _ _ | show wpAny _ _ (setItem (Value.ref _) (Value.str _ _) _) _ _ _ | show wpAny _ _ (exec (Stmt.Raise _ _ _) _) _ _ _ | show wpAny _ _ (compareOp Cmpop.NotIn _ _) _ _ _ | show wpAny _ _ (PySem.call (Value.builtin "sorted") _ _) _ _ _ | show wpAny _ _ (subscriptTail _ _ (Value.ref _) (Value.str _ _)) _ _ _)); walk1) | dsimp only | fail "no step"))
    refine list_iter (News.isList N9 (.head _)) ?_
    intro J h10 k10 hJ10 e10
    dsimp only at k10 hJ10
    have hJL : J ≠ s.heap.objs.size := Nat.ne_of_gt (Nat.lt_of_lt_of_le F9.ns.lt hJ10)
    have hJg : g.get? J = none := none_of_le (Nat.le_trans (Nat.le_of_lt (Nat.lt_of_le_of_lt F9.above F9.ns.lt)) hJ10)
    have hJ1 : J ≠ wr := fresh_ne hJ10 (N9 _ (.tail _ (.head _))).1
    have hJ2 : J ≠ dw := fresh_ne hJ10 (N9 _ (.tail _ (.tail _ (.head _)))).1
    have hJ3 : J ≠ lo := fresh_ne hJ10 (N9 _ (.tail _ (.tail _ (.tail _ (.head _))))).1
    have hJ5 : J ≠ D2 := fresh_ne hJ10 (N9 _ (.head _)).1
    have hDlo2 : D2 ≠ lo := Nat.ne_of_gt (l9 _ (.tail _ (.tail _ (.head _))))
    have F10 := k10.fr F9 (by simp) (by simp)
    have N10 := News.cons e10 hJL hJg (k10.news N9 (by simp))
    clear F9 N9
    have hb8 : ∀ k, ((fs'.take k).flatMap (·.2)).length ≤ 64 := fun k => by
      have := bodies_len (fs := fs'.take k) fun f hf => hok' f (List.mem_of_mem_take hf)
      have h2 : (fs'.take k).length ≤ 8 := by rw [List.length_take]; omega
      omega
    have hb41 := encHeads_len hok'
    refine loop_list (ll := D2) (items := lv2) (C'.now B F10).calm (fun (k : Nat) (s' : Shared) => Box (∀ PP : Prop, (∀ (vs' : List Value) (ep' : Nat) (tk'' : Tok) (m : Str → Option Value) (h'' : Heap) (o : Obj), s' = { s with heap := h'', toks := tk'' } → Fr g s.heap.objs.size h'' m → (∀ x ∈ [(Str.ofString "writer", Value.ref wr), (Str.ofString "files", Value.ref fd)], m x.1 = some x.2) → News g s.heap.objs.size h'' ((J, o) :: (D2, W.listOf lv2.toArray ep9) :: wrCore w wr dw lo t1 vs' ep') → o.cls = .type "list_iterator" → o.data = .fields #[.ref D2, .int k 0] → IntsAre vs' (encNat (2 * kvs.length) ++ fs'.flatMap encHead ++ (fs'.take k).flatMap (·.2)) → PP) → PP)) ?_ ?_ ?_ ?_
    · rintro k s' xx
      refine unbox xx _ fun vs' ep' tk'' m h'' o es F7 hm N7 ho1 ho2 _ => ?_
      subst es
      exact ⟨⟨o, (N7 _ (.head _)).1, ho1, ho2⟩, News.isList N7 (.tail _ (.head _))⟩
    · rintro k s' h7 v hv xx ⟨o', ho', hc', hd'⟩ hs7
      refine unbox xx _ fun vs' ep' tk'' m h'' o es F7 hm N7 ho1 ho2 hI7 => ?_
      subst es
      obtain ⟨x, tx, hx, rfl⟩ := strs_get hlv2 hv
      obtain ⟨⟨x', c⟩, hf, rfl⟩ : ∃ f, fs'[k]? = some f ∧ f.1 = x := by
        rw [List.getElem?_map] at hx
        exact Option.map_eq_some_iff.mp hx
      have hfm : (x', c) ∈ fs' := List.mem_of_getElem? hf
      obtain ⟨q1, q2, q3, q4⟩ := hok' _ hfm
      dsimp only at q1 q2 q3 q4
      have hlook : look fs x' = some c := hlk _ hfm
      obtain ⟨ca, cvs, cep, hva, hcl, hcI⟩ := gfs.look hlook
      have htake : (fs'.take (k + 1)) = fs'.take k ++ [(x', c)] := by rw [List.take_add_one, hf]; rfl
      have K7 := same_kp hs7
      have F8 := Fr.known (K7.fr F7 (by simpa using hJL.symm) (by simpa using hJg)) hm
      have N8 := News.cons ho' hJL hJg (K7.news (News.tail N7) (by simp [hJ1.symm, hJ2.symm, hJ3.symm, hJ5.symm]))
      have hbk := hb8 k
      have hvl : vs'.length ≤ 1000 := by rw [hI7.length]; simp only [List.length_append]; omega
      have hcl3 : cvs.length ≤ 8 := by rw [hcI.length]; exact Nat.le_trans q3 (by decide)
      clear F7 N7 F10 N10
      dsimp only
      refine (?_ : wpAny (model PR w) _ _ _ _ _)
      (repeat' (first | (k_unfold; (try dsimp only)) | ((fail_if_success (with_reducible first | refine (?_ : Exists _) | show wpAny _ _ (exec (Stmt.While _ _ _ _) _) _ _ _ | show wpAny _ _ (exec (Stmt.For _ _ _ _ _) _) _ _ _ | show wpAny _ _ (PySem.call (Value.ref _) _ _) _ _ _ | show wpAny _ _ (PySem.call (Value.type "range") _ _) _ _ _ | show wpAny _ _ (pyIter _) _ _ _ | show wpAny _ _ (PySem.call (Value.builtin "list.append") _ _) _ _ _ | show wpAny _ _ (PySem.call (Value.builtin "len") _ _) _ _ _ | show wpAny _ _ (setItem (Value.ref _) (Value.str _ _) _) _ _ _ | show wpAny _ _ (exec (Stmt.Raise _ _ _) _) _ _ _ | show wpAny _ _ (compareOp Cmpop.NotIn _ _) _ _ _ | show wpAny _ _ (PySem.call (Value.builtin "sorted") _ _) _ _ _ | show wpAny _ _ (subscriptTail _ _ (Value.ref _) (Value.str _ _)) _ _ _)); walk1) | dsimp only | fail "no step"))
      refine item_of ((by assumption : Fr _ _ _ _).keep _ _ gfd) hod (strKind_is _ _ _ _) hva ?_
      (repeat' (first | (k_unfold; (try dsimp only)) | ((fail_if_success (with_reducible first | refine (?_ : Exists _) | show wpAny _ _ (exec (Stmt.While _ _ _ _) _) _ _ _ | show wpAny _ _ (exec (Stmt.For _ _ _ _ _) _) _ _ _ | show wpAny _ _ (PySem.call (Value.ref _) _ _) _ _ _ | show wpAny _ _ (PySem.call (Value.type "range") _ _) _ _ _ | show wpAny _ _ (pyIter _) _ _ _ | show wpAny _ _ (PySem.call (Value.builtin "list.append") _ _) _ _ _ | show wpAny _ _ (PySem.call (Value.builtin "len") _ _) _ _ _ | show wpAny _ _ (setItem (Value.ref _) (Value.str _ _) _) _ _ _ | show wpAny _ _ (exec (Stmt.Raise _ _ _) _) _ _ _ | show wpAny _ _ (compareOp Cmpop.NotIn _ _) _ _ _ | show wpAny _ _ (PySem.call (Value.builtin "sorted") _ _) _ _ _ | show wpAny _ _ (subscriptTail _ _ (Value.ref _) (Value.str _ _)) _ _ _)); walk1) | dsimp only | fail "no step"))
      rename Fr _ _ _ _ => F9
      rename News _ _ _ _ => N9
      refine extend_list (its := vs') (its2 := cvs) (N9 (lo, _) (by k_mem)).1 (F9.keep _ _ hcl) (by omega) ?_
      intro h12 ep12 k12 e12
      have F12 := k12.fr F9 (by simpa using loL.symm) (by simpa using log)
      have N12 := News.cons (k12.2 _ _ (N9 _ (.head _)).1 (by simpa using hJ3)) hJL hJg (News.cons (k12.2 _ _ (N9 _ (.tail _ (.head _))).1 (by simpa using hDlo2)) (N9 _ (.tail _ (.head _))).2.1 (N9 _ (.tail _ (.head _))).2.2 (wr_news (News.tail (News.tail N9)) n2 n3 k12 e12))
      clear F9 N9
      dsimp only at N12
      (repeat' (first | (k_unfold; (try dsimp only)) | ((fail_if_success (with_reducible first | refine (?_ : Exists _) | show wpAny _ _ (exec (Stmt.While _ _ _ _) _) _ _ _ | show wpAny _ _ (exec (Stmt.For _ _ _ _ _) _) _ _ _ | show wpAny _ _ (PySem.call (Value.ref _) _ _) _ _ _ | show wpAny _ _ (PySem.call (Value.type "range") _ _) _ _ _ | show wpAny _ _ (pyIter _) _ _ _ | show wpAny _ _ (PySem.call (Value.builtin "list.append") _ _) _ _ _ | show wpAny _ _ (PySem.call (Value.builtin "len") _ _) _ _ _ | show wpAny _ _ (setItem (Value.ref _) (Value.str _ _) _) _ _ _ | show wpAny _ _ (exec (Stmt.Raise _ _ _) _) _ _ _ | show wpAny _ _ (compareOp Cmpop.NotIn _ _) _ _ _ | show wpAny _ _ (PySem.call (Value.builtin "sorted") _ _) _ _ _ | show wpAny _ _ (subscriptTail _ _ (Value.ref _) (Value.str _ _)) _ _ _)); walk1) | dsimp only | fail "no step"))
      refine box fun PP kk => kk _ _ _ _ _ o' rfl F12 (by simp only [List.forall_mem_cons]; exact ⟨rfl, rfl, fun _ hq => absurd hq List.not_mem_nil⟩) N12 hc' hd' ?_
      rw [htake, List.flatMap_append, List.flatMap_cons, List.flatMap_nil, List.append_nil, ← List.append_assoc]
      exact IntsAre.append hI7 hcI
    · rintro s' h7 xx he7
      refine unbox xx _ fun vs' ep' tk'' m h'' o es F7 hm N7 ho1 ho2 hI7 => ?_
      subst es
      have F8 := Fr.known (Fr.ext F7 he7 hJL hJg) hm
      have N8 := News.ext (News.tail N7) he7 (by simp [hJ1.symm, hJ2.symm, hJ3.symm, hJ5.symm])
      have N8' := News.tail N8
      clear F7 N7 F10 N10 N8
      rw [List.take_of_length_le (by omega), hkl, ← hfl] at hI7
      dsimp only
      refine (?_ : wpAny (model PR w) _ _ _ _ _)
      (repeat' (first | (k_unfold; (try dsimp only)) | ((fail_if_success (with_reducible first | refine (?_ : Exists _) | show wpAny _ _ (exec (Stmt.While _ _ _ _) _) _ _ _ | show wpAny _ _ (exec (Stmt.For _ _ _ _ _) _) _ _ _ | show wpAny _ _ (PySem.call (Value.ref _) _ _) _ _ _ | show wpAny _ _ (PySem.call (Value.type "range") _ _) _ _ _ | show wpAny _ _ (pyIter _) _ _ _ | show wpAny _ _ (PySem.call (Value.builtin "list.append") _ _) _ _ _ | show wpAny _ _ (PySem.call (Value.builtin "len") _ _) _ _ _ | show wpAny _ _ (setItem (Value.ref _) (Value.str _ _) _) _ _ _ | show wpAny _ _ (exec (Stmt.Raise _ _ _) _) _ _ _ | show wpAny _ _ (compareOp Cmpop.NotIn _ _) _ _ _ | show wpAny _ _ (PySem.call (Value.builtin "sorted") _ _) _ _ _ | show wpAny _ _ (subscriptTail _ _ (Value.ref _) (Value.str _ _)) _ _ _)); walk1) | dsimp only | fail "no step"))
      refine ok lo vs' ep' h7 _ (kp_out (base := base) (l := l) (core := []) (fun _ hp => absurd hp List.not_mem_nil) F8 rfl N8' kp fun _ hp => absurd hp List.not_mem_nil) ?_ hI7 (N8' _ (.tail _ (.tail _ (.head _)))).1
      exact fresh_of log kp (by simp)
    · exact box fun PP kk => kk _ _ _ _ _ _ rfl F10 (by simp only [List.forall_mem_cons]; exact ⟨rfl, rfl, fun _ hq => absurd hq List.not_mem_nil⟩) N10 rfl rfl (by simpa using hI7)
  · exact box fun PP kk => kk vs4 ep4 _ _ _ _ rfl F6 (by simp only [List.forall_mem_cons]; exact ⟨rfl, rfl, fun _ hq => absurd hq List.not_mem_nil⟩) N6 rfl rfl (by simpa using hI4)
end

section
open PySem PySem.W PyProof.Rows PySem.Calls


/-! what a parse tells -/
theorem rawNum_le : ∀ {b : Bool} {r : List Int} {t : Int} {r' : List Int}, rawNum b r = some (t, r') → r'.length < r.length
  | _, [], _, _, h => by cases h
  | b, x :: r, t, r', h => by
    rw [rawNum] at h
    split at h
    · obtain ⟨⟨t2, r2⟩, h2, h3⟩ := Option.map_eq_some_iff.mp h
      simp only [Prod.mk.injEq] at h3
      have := rawNum_le h2
      rw [List.length_cons, ← h3.2]; omega
    · split at h
      · cases h
      · cases h; simp
theorem pNum_le {r r' : List Int} {n : Int} (h : pNum r = some (n, r')) : r'.length < r.length := by
  obtain ⟨⟨t, r2⟩, h2, h3⟩ := Option.map_eq_some_iff.mp h
  simp only [Prod.mk.injEq] at h3
  rw [← h3.2]; exact rawNum_le h2
theorem pCount_le {r r' : List Int} {n : Int} (h : pCount r = some (n, r')) : r'.length < r.length ∧ 0 ≤ n ∧ n ≤ r'.length := by
  unfold pCount at h
  split at h
  · cases h
  · rename_i n2 r2 h2
    split at h
    · cases h
    · cases h; exact ⟨pNum_le h2, by omega, by omega⟩
theorem pCodes_le : ∀ {k : Nat} {r : List Int} {cs : List Nat} {r' : List Int}, pCodes k r = some (cs, r') → r'.length ≤ r.length
  | 0, r, cs, r', h => by rw [pCodes] at h; cases h; exact Nat.le_refl _
  | k + 1, r, cs, r', h => by
    rw [pCodes] at h
    split at h
    · cases h
    · rename_i c r2 h2
      split at h
      · cases h
      · obtain ⟨⟨cs2, r3⟩, h3, h4⟩ := Option.map_eq_some_iff.mp h
        simp only [Prod.mk.injEq] at h4
        have := pNum_le h2
        have := pCodes_le h3
        rw [← h4.2]; omega
theorem pText_le {r r' : List Int} {x : Str} (h : pText r = some (x, r')) : r'.length < r.length := by
  unfold pText at h
  split at h
  · cases h
  · rename_i n r2 h2
    obtain ⟨⟨cs, r3⟩, h3, h4⟩ := Option.map_eq_some_iff.mp h
    simp only [Prod.mk.injEq] at h4
    have := (pCount_le h2).1
    have := pCodes_le h3
    rw [← h4.2]; omega
theorem pDir_le : ∀ {k : Nat} {last : Option Str} {r : List Int} {es : List (Str × Int)} {r' : List Int}, pDir k last r = some (es, r') → r'.length + 2 * k ≤ r.length
  | 0, _, r, es, r', h => by rw [pDir] at h; cases h; exact Nat.le_refl _
  | k + 1, last, r, es, r', h => by
    rw [pDir] at h
    split at h
    · cases h
    · rename_i x r1 h1
      split at h
      · cases h
      · split at h
        · cases h
        · rename_i n r2 h2
          obtain ⟨⟨es2, r3⟩, h3, h4⟩ := Option.map_eq_some_iff.mp h
          simp only [Prod.mk.injEq] at h4
          have := pText_le h1
          have := pNum_le h2
          have := pDir_le h3
          rw [← h4.2]; omega
theorem pParts_keys : ∀ {es : List (Str × Int)} {a tot : Int} {ps : List (Str × Int × Int)}, pParts a tot es = some ps → ps.map (·.1) = es.map (·.1)
  | [], a, tot, ps, h => by
    rw [pParts] at h
    split at h
    · cases h
    · cases h; rfl
  | (x, n) :: r, a, tot, ps, h => by
    rw [pParts] at h
    split at h
    · cases h
    · obtain ⟨ps2, h2, h3⟩ := Option.map_eq_some_iff.mp h
      rw [← h3, List.map_cons, List.map_cons, pParts_keys h2]
theorem pParts_in : ∀ {es : List (Str × Int)} {a tot : Int} {ps : List (Str × Int × Int)}, pParts a tot es = some ps → ∀ p ∈ ps, a ≤ p.2.1 ∧ p.2.1 ≤ p.2.2 ∧ p.2.2 ≤ tot
  | [], a, tot, ps, h => by
    rw [pParts] at h
    split at h
    · cases h
    · cases h; intro p hp; exact absurd hp List.not_mem_nil
  | (x, n) :: r, a, tot, ps, h => by
    rw [pParts] at h
    split at h
    · cases h
    · rename_i hn
      obtain ⟨ps2, h2, h3⟩ := Option.map_eq_some_iff.mp h
      intro p hp
      rw [← h3] at hp
      rcases List.mem_cons.mp hp with rfl | hp
      · dsimp only; omega
      · have := pParts_in h2 p hp
        omega
/-- the sizes fill the rest -/
theorem pParts_sum : ∀ {es : List (Str × Int)} {a tot : Int} {ps : List (Str × Int × Int)}, pParts a tot es = some ps → a + (ps.map fun p => p.2.2 - p.2.1).sum = tot
  | [], a, tot, ps, h => by
    rw [pParts] at h
    split at h
    · cases h
    · rename_i q; cases h; simp at q ⊢; exact q
  | (x, n) :: r, a, tot, ps, h => by
    rw [pParts] at h
    split at h
    · cases h
    · obtain ⟨ps2, h2, h3⟩ := Option.map_eq_some_iff.mp h
      have := pParts_sum h2
      rw [← h3, List.map_cons, List.sum_cons]
      dsimp only
      omega
theorem parse_tells {ns : List Int} {ps : List (Str × Int × Int)} (h : parse ns = some ps) : asc (ps.map (·.1)) ∧ (∀ p ∈ ps, 0 ≤ p.2.1 ∧ p.2.1 ≤ p.2.2 ∧ p.2.2 ≤ ns.length) ∧ (ps.map fun p => p.2.2 - p.2.1).sum ≤ ns.length ∧ 2 * ps.length < ns.length := by
  unfold parse at h
  split at h
  · cases h
  · rename_i n r h1
    split at h
    · cases h
    · rename_i es r2 h2
      have l1 := pCount_le h1
      have l2 := pDir_le h2
      obtain ⟨_, h3, h4⟩ := pDir_asc h2
      have hk := pParts_keys h
      refine ⟨?_, fun p hp => ?_, ?_, ?_⟩
      · rw [hk]
        exact List.pairwise_map.mpr h3
      · have := pParts_in h p hp
        omega
      · have := pParts_sum h
        omega
      · have : ps.length = es.length := by rw [← List.length_map (f := (·.1)), hk, List.length_map]
        omega
theorem asc_nodup {ss : List Str} (h : asc ss) : ss.Nodup := List.Pairwise.imp (fun {a b} q e => absurd (e ▸ q) (List.lt_irrefl _)) h
theorem look_in {α : Type} {x : Str} {c : α} : ∀ {fs : List (Str × α)}, look fs x = some c → (x, c) ∈ fs
  | [], h => by cases h
  | (y, d) :: r, h => by
    rw [look_cons] at h
    split at h
    · rename_i q; cases h; rw [q]; exact .head _
    · exact .tail _ (look_in h)
theorem parse_look {ns : List Int} {ps : List (Str × Int × Int)} (h : parse ns = some ps) {x : Str} {a b : Int} (q : look ps x = some (a, b)) : 0 ≤ a ∧ a ≤ b ∧ b ≤ ns.length := (parse_tells h).2.1 _ (look_in q)
end

section
open PySem PySem.W PyProof.Rows PySem.Calls



variable {w : World} {mean : ExcName → Option Value} {mg mb : Str → Option Value} {base : Heap} {A : Around} {l : List Env} {s : Shared}


def oldFiles (ns : List Int) (ps : List (Str × Int × Int)) : Files := ps.map fun p => (p.1, (ns.drop p.2.1.toNat).take (p.2.2 - p.2.1).toNat)
def newFiles (fs : Files) (x : Str) : Option (List Int) → Files
  | none => delF fs x
  | some c => putF fs x c
def IsContent (h : Heap) (x : Str) (cv : Value) : Option (List Int) → Prop
  | none => cv = .none
  | some c => ∃ a cvs ep, cv = .ref a ∧ h.get? a = some (W.listOf cvs.toArray ep) ∧ IntsAre cvs c ∧ FileOk (x, c)

theorem ne_none {h : Heap} {d b : Addr} {o : Obj} (hd : h.get? d = none) (hb : h.get? b = some o) : d ≠ b := by rintro rfl; rw [hd] at hb; cases hb
theorem fr_new {g h : Heap} {L d : Addr} {m : Str → Option Value} (F : Fr g L h m) (hd : h.get? d = none) : d ≠ L ∧ g.get? d = none := by
  obtain ⟨⟨o, es, ep, ho, r⟩, k, a⟩ := F
  refine ⟨ne_none hd ho, ?_⟩
  cases q : g.get? d with
  | none => rfl
  | some o => rw [k _ _ q] at hd; cases hd
theorem News.made {g h h' : Heap} {L d : Addr} {m : Str → Option Value} {o : Obj} {news : List (Addr × Obj)} (F : Fr g L h m) (N : News g L h news) (k : Kp [] h h') (hd : h.get? d = none) (e : h'.get? d = some o) : News g L h' ((d, o) :: news) :=
  News.cons e (fr_new F hd).1 (fr_new F hd).2 (k.news N (by simp))
theorem fr_kp {g h h' : Heap} {L : Addr} {m : Str → Option Value} (F : Fr g L h m) (k : Kp [] h h') : Fr g L h' m := k.fr F (by simp) (by simp)
theorem parse_files_look {ns : List Int} {ps : List (Str × Int × Int)} {k : Nat} {x : Str} {a b : Int} (hn : (ps.map (·.1)).Nodup) (h : ps[k]? = some (x, a, b)) : look ps x = some (a, b) ∧ x ∉ ((oldFiles ns ps).take k).map (·.1) ∧ (oldFiles ns ps).take (k + 1) = (oldFiles ns ps).take k ++ [(x, (ns.drop a.toNat).take (b - a).toNat)] := by
  refine ⟨look_mem hn (List.mem_of_getElem? h), ?_, ?_⟩
  · have e : (oldFiles ns ps).map (·.1) = ps.map (·.1) := by simp [oldFiles]
    rw [List.map_take, e]
    intro q
    obtain ⟨j, hj, hx⟩ := List.mem_take_iff_getElem.mp q
    have hk := (List.getElem?_eq_some_iff.mp h)
    obtain ⟨hk1, hk2⟩ := hk
    have h1 : (ps.map (·.1))[k]'(by rw [List.length_map]; exact hk1) = x := by rw [List.getElem_map, hk2]
    have := (List.getElem_inj (h₀ := by omega) (h₁ := by rw [List.length_map]; exact hk1) hn).mp (hx.trans h1.symm)
    omega
  · rw [List.take_add_one, oldFiles, List.getElem?_map, h]
    rfl

theorem allLt {D : Addr} : ∀ {al : List (Addr × Obj)}, AllLt D al → ∀ p ∈ al, p.1 < D
  | [], _, p, hp => absurd hp List.not_mem_nil
  | q :: r, h, p, hp => by
    rcases List.mem_cons.mp hp with rfl | hp
    · exact h.1
    · exact allLt h.2 p hp

theorem delF_none {x : Str} : ∀ {fs : Files}, look fs x = none → delF fs x = fs
  | [], _ => rfl
  | (y, c) :: r, h => by
    rw [look_cons] at h
    split at h
    · cases h
    · rename_i q
      unfold delF
      rw [List.filter_cons, if_pos (by simpa using q)]
      exact congrArg _ (delF_none h)
theorem putF_ok {x : Str} {c : List Int} {fs : Files} (h : ∀ f ∈ fs, FileOk f) (hc : FileOk (x, c)) : ∀ f ∈ putF fs x c, FileOk f := by
  intro f hf
  unfold putF at hf
  split at hf
  · obtain ⟨g, hg, rfl⟩ := List.mem_map.mp hf
    split
    · rename_i q; rw [q]; exact hc
    · exact h g hg
  · rcases List.mem_append.mp hf with hf | hf
    · exact h f hf
    · rw [List.mem_singleton.mp hf]; exact hc
theorem putF_len (x : Str) (c : List Int) (fs : Files) : (putF fs x c).length ≤ fs.length + 1 := by
  unfold putF
  split
  · rw [List.length_map]; exact Nat.le_succ _
  · rw [List.length_append]; exact Nat.le_refl _

theorem with_call {ld : Addr} {vs : List Value} {ns : List Int} {ps : List (Str × Int × Int)} {x : Str} {tx : Tok} {cv : Value} {cnt : Option (List Int)} {Q E : Value → Shared → Prop} (G : Gr w mean mg mb base) (C : At base A l 12 s.heap)
    (hl : s.heap.IsList ld vs.toArray) (hI : IntsAre vs ns) (hsz : ns.length < 100000) (hby : ∀ n ∈ ns, 0 ≤ n ∧ n ≤ 255) (hps : parse ns = some ps) (hok : ∀ f ∈ oldFiles ns ps, FileOk f) (hn : ps.length ≤ 7) (hx : x.cps.all (· < 128) = true ∧ x.length ≤ 8)
    (hc : IsContent s.heap x cv cnt)
    (ok : ∀ b vs ep h' tk, Kp [] s.heap h' → s.heap.get? b = none → IntsAre vs (enc (sortF (newFiles (oldFiles ns ps) x cnt))) → h'.get? b = some (W.listOf vs.toArray ep) → Q (.ref b) { s with heap := h', toks := tk }) :
    wpAny (model PR w) A (call (.ref 235) [.ref ld, .str x tx, cv]) Q E s := by
  refine wpAny_call ?_
  refine enter (core := []) G C (fun _ hp => absurd hp List.not_mem_nil) (by k_is) (by k_is) (BindsTo.of_eq (binds := [("data", .ref ld), ("name", .str x tx), ("content", cv)]) rfl) (locs rfl) ?_
  intro g h₁ F N B X TT kp rv C'
  have hl' : g.IsList ld vs.toArray := by
    obtain ⟨o, ho, q⟩ := hl
    exact ⟨o, kp _ _ ho (by simp), q⟩
  refine (?_ : wpAny (model PR w) _ _ _ _ _)
  k_fold
  (repeat' (first | (k_unfold; (try dsimp only)) | ((fail_if_success (with_reducible first | refine (?_ : Exists _) | show wpAny _ _ (exec (Stmt.While _ _ _ _) _) _ _ _ | show wpAny _ _ (exec (Stmt.For _ _ _ _ _) _) _ _ _ | show wpAny _ _ (PySem.call (Value.ref _) _ _) _ _ _ | show wpAny _ _ (PySem.call (Value.type "range") _ _) _ _ _ | show wpAny _ _ (pyIter _) _ _ _ | show wpAny _ _ (PySem.call (Value.builtin "list.append") _ _) _ _ _ | show wpAny _ _ (PySem.call (Value.builtin "len") _ _) _ _ _ | show wpAny _ _ (setItem (Value.ref _) (Value.str _ _) _) _ _ _ | show wpAny _ _ (exec (Stmt.Raise _ _ _) _) _ _ _ | show wpAny _ _ (compareOp Cmpop.NotIn _ _) _ _ _ | show wpAny _ _ (compareOp Cmpop.In _ _) _ _ _ | show wpAny _ _ (delItem (Value.ref _) (Value.str _ _)) _ _ _ | show wpAny _ _ (PySem.call (Value.builtin "sorted") _ _) _ _ _ | show wpAny _ _ (subscriptTail _ _ (Value.ref _) (Value.str _ _)) _ _ _)); walk1) | dsimp only | fail "no step"))
  refine amake_call G C'.less (Fr.lst F hl') hI hsz hby ?_ ?_
  case refine_2 => intro e h2 tk2 q; rw [hps] at q; cases q
  intro ar al ps' h2 tk2 q k2 hal hled
  rw [hps] at q
  cases q
  dsimp only at k2 hled
  have hLh : s.heap.objs.size < h₁.objs.size := F.ns.lt
  have hg : ∀ b, h₁.objs.size ≤ b → g.get? b = none := fun b hb => none_of_le (Nat.le_trans (Nat.le_of_lt (Nat.lt_of_le_of_lt F.above hLh)) hb)
  have F2 := k2.fr F (by simp) (by simp)
  have N2' : News g s.heap.objs.size h2 al := fun p hp => ⟨(hled p hp).1, Nat.ne_of_gt (Nat.lt_of_lt_of_le hLh (hled p hp).2), hg _ (hled p hp).2⟩
  have hld : ∀ p ∈ al, p.1 ≠ ld := fun p hp q => by
    obtain ⟨o, ho, _⟩ := hl'
    have := (N2' p hp).2.2
    rw [q, ho] at this; cases this
  obtain ⟨da, lo', pd', t1, t2, t3, har, had, hna⟩ : ∃ da lo pd t1 t2 t3, (ar, instObj 224 da) ∈ al ∧ (da, arDict w t1 t2 t3 ld lo pd) ∈ al ∧ ar ≠ da := by
    obtain ⟨da, lo, pd, t1, t2, t3, lv, ep, o, kvs, tl, rfl, _, _, _, hna, _⟩ := hal
    exact ⟨da, lo, pd, t1, t2, t3, .head _, .tail _ (.head _), hna⟩
  have N2 := News.cons (N2' _ har).1 (N2' _ har).2.1 (N2' _ har).2.2 (News.cons (N2' _ had).1 (N2' _ had).2.1 (N2' _ had).2.2 N2')
  dsimp only at N2
  clear N2'
  clear F N
  (repeat' (first | (k_unfold; (try dsimp only)) | ((fail_if_success (with_reducible first | refine (?_ : Exists _) | show wpAny _ _ (exec (Stmt.While _ _ _ _) _) _ _ _ | show wpAny _ _ (exec (Stmt.For _ _ _ _ _) _) _ _ _ | show wpAny _ _ (PySem.call (Value.ref _) _ _) _ _ _ | show wpAny _ _ (PySem.call (Value.type "range") _ _) _ _ _ | show wpAny _ _ (pyIter _) _ _ _ | show wpAny _ _ (PySem.call (Value.builtin "list.append") _ _) _ _ _ | show wpAny _ _ (PySem.call (Value.builtin "len") _ _) _ _ _ | show wpAny _ _ (setItem (Value.ref _) (Value.str _ _) _) _ _ _ | show wpAny _ _ (exec (Stmt.Raise _ _ _) _) _ _ _ | show wpAny _ _ (compareOp Cmpop.NotIn _ _) _ _ _ | show wpAny _ _ (compareOp Cmpop.In _ _) _ _ _ | show wpAny _ _ (delItem (Value.ref _) (Value.str _ _)) _ _ _ | show wpAny _ _ (PySem.call (Value.builtin "sorted") _ _) _ _ _ | show wpAny _ _ (subscriptTail _ _ (Value.ref _) (Value.str _ _)) _ _ _)); walk1) | dsimp only | fail "no step"))
  rename Fr _ _ _ _ => F3
  rename News _ _ _ _ => N3
  rename Obj.IsDictOf (strKind PR w) _ _ => hod3
  rename (_ == sysModules) = false => hsm
  rename_i D h3 od3 _ _ _ l3 h3b
  refine wpAny_For ?_
  (repeat' (first | (k_unfold; (try dsimp only)) | ((fail_if_success (with_reducible first | refine (?_ : Exists _) | show wpAny _ _ (exec (Stmt.While _ _ _ _) _) _ _ _ | show wpAny _ _ (exec (Stmt.For _ _ _ _ _) _) _ _ _ | show wpAny _ _ (PySem.call (Value.ref _) _ _) _ _ _ | show wpAny _ _ (PySem.call (Value.type "range") _ _) _ _ _ | show wpAny _ _ (pyIter _) _ _ _ | show wpAny _ _ (PySem.call (Value.builtin "list.append") _ _) _ _ _ | show wpAny _ _ (PySem.call (Value.builtin "len") _ _) _ _ _ | show wpAny _ _ (setItem (Value.ref _) (Value.str _ _) _) _ _ _ | show wpAny _ _ (exec (Stmt.Raise _ _ _) _) _ _ _ | show wpAny _ _ (compareOp Cmpop.NotIn _ _) _ _ _ | show wpAny _ _ (compareOp Cmpop.In _ _) _ _ _ | show wpAny _ _ (delItem (Value.ref _) (Value.str _ _)) _ _ _ | show wpAny _ _ (PySem.call (Value.builtin "sorted") _ _) _ _ _ | show wpAny _ _ (subscriptTail _ _ (Value.ref _) (Value.str _ _)) _ _ _)); walk1) | dsimp only | fail "no step"))
  have sub3 : ∀ p ∈ al, p ∈ (D, od3) :: (ar, instObj 224 da) :: (da, arDict w t1 t2 t3 ld lo' pd') :: al := fun p hp => .tail _ (.tail _ (.tail _ hp))
  refine names_call G (C'.now B F3).less hal (Core.mk (C'.now B F3) B (News.sub N3 sub3)) (by omega) ?_
  intro nb lv ep4 h4 tk4 k4 hnb hlv e4
  dsimp only at k4 hnb
  have F4 := fr_kp F3 k4
  have N4 := News.made F3 N3 k4 hnb e4
  have hnD : nb ≠ D := ne_none hnb (N3 _ (.head _)).1
  have hlen : lv.length = ps.length := by rw [hlv.len_eq, List.length_map]
  clear F3 N3
  obtain ⟨hasc, hbd, _, _⟩ := parse_tells hps
  have hnod := asc_nodup hasc
  refine list_iter (News.isList N4 (.head _)) ?_
  intro I h5 k5 hI5 e5
  dsimp only at k5 hI5
  have hIn : h4.get? I = none := none_of_le hI5
  have F5 := fr_kp F4 k5
  have N5 := News.made F4 N4 k5 hIn e5
  have hIne : ∀ p ∈ (nb, W.listOf lv.toArray ep4) :: (D, od3) :: (ar, instObj 224 da) :: (da, arDict w t1 t2 t3 ld lo' pd') :: al, I ≠ p.1 := fun p hp => ne_none hIn (N4 p hp).1
  have hInb := hIne _ (.head _)
  have hID := hIne _ (.tail _ (.head _))
  have hIar := hIne _ (.tail _ (.tail _ (.head _)))
  have hIda := hIne _ (.tail _ (.tail _ (.tail _ (.head _))))
  have hIal : ∀ p ∈ al, p.1 ≠ I := fun p hp => (hIne p (.tail _ (.tail _ (.tail _ (.tail _ hp))))).symm
  obtain ⟨l3a, l3b, l3c⟩ := l3
  have hDar : D ≠ ar := Nat.ne_of_gt l3a
  have hDda : D ≠ da := Nat.ne_of_gt l3b
  have hDal : ∀ p ∈ al, p.1 ≠ D := fun p hp => Nat.ne_of_lt (allLt l3c p hp)
  obtain ⟨hIL, hIg⟩ := fr_new F4 hIn
  clear F4 N4
  refine loop_list (ll := nb) (items := lv) (C'.now B F5).calm (fun (k : Nat) (s' : Shared) => Box (∀ PP : Prop, (∀ (kvs : List (Str × Value)) (od : Obj) (tl : List (Addr × Obj)) (tk'' : Tok) (m : Str → Option Value) (h'' : Heap) (o : Obj), s' = { s with heap := h'', toks := tk'' } → Fr g s.heap.objs.size h'' m → (∀ z ∈ [(Str.ofString "files", Value.ref D), (Str.ofString "old", Value.ref ar), (Str.ofString "data", Value.ref ld), (Str.ofString "name", Value.str x tx), (Str.ofString "content", cv)], m z.1 = some z.2) → News g s.heap.objs.size h'' ((I, o) :: (nb, W.listOf lv.toArray ep4) :: (D, od) :: (ar, instObj 224 da) :: (da, arDict w t1 t2 t3 ld lo' pd') :: tl) → o.cls = .type "list_iterator" → o.data = .fields #[.ref nb, .int k 0] → od.IsDictOf (strKind PR w) kvs → FilesOk tl kvs ((oldFiles ns ps).take k) → (∀ p ∈ al, p ∈ tl) → (∀ p ∈ tl, p.1 ≠ I) → (∀ p ∈ tl, p.1 ≠ D) → PP) → PP)) ?_ ?_ ?_ ?_
  · rintro k s' xx
    refine unbox xx _ fun kvs od tl tk'' m h'' o es F6 hm N6 ho1 ho2 _ _ _ _ _ => ?_
    subst es
    exact ⟨⟨o, (N6 _ (.head _)).1, ho1, ho2⟩, News.isList N6 (.tail _ (.head _))⟩
  · rintro k s' h6 v hv xx ⟨o', ho', hc', hd'⟩ hs6
    refine unbox xx _ fun kvs od tl tk'' m h'' o es F6 hm N6 ho1 ho2 hod hfs hsub htI htD => ?_
    subst es
    obtain ⟨y, ty, hy, rfl⟩ := strs_get hlv hv
    obtain ⟨⟨y', a, b⟩, hp, rfl⟩ : ∃ p, ps[k]? = some p ∧ p.1 = y := by
      rw [List.getElem?_map] at hy
      exact Option.map_eq_some_iff.mp hy
    obtain ⟨hlk, hnew, htake⟩ := parse_files_look (ns := ns) hnod hp
    have hkl : kvs.length ≤ 7 := by
      have : kvs.length = ((oldFiles ns ps).take k).length := by rw [← List.length_map (f := (·.1)), hfs.keys, List.length_map]
      rw [this, List.length_take, oldFiles, List.length_map]; omega
    have K6 := same_kp hs6
    have F7 := Fr.known (K6.fr F6 (by simpa using hIL.symm) (by simpa using hIg)) hm
    have N7 := News.put (by k_upd) N6 K6 ho'
    clear F6 N6 F5 N5
    dsimp only
    refine (?_ : wpAny (model PR w) _ _ _ _ _)
    (repeat' (first | (k_unfold; (try dsimp only)) | ((fail_if_success (with_reducible first | refine (?_ : Exists _) | show wpAny _ _ (exec (Stmt.While _ _ _ _) _) _ _ _ | show wpAny _ _ (exec (Stmt.For _ _ _ _ _) _) _ _ _ | show wpAny _ _ (PySem.call (Value.ref _) _ _) _ _ _ | show wpAny _ _ (PySem.call (Value.type "range") _ _) _ _ _ | show wpAny _ _ (pyIter _) _ _ _ | show wpAny _ _ (PySem.call (Value.builtin "list.append") _ _) _ _ _ | show wpAny _ _ (PySem.call (Value.builtin "len") _ _) _ _ _ | show wpAny _ _ (setItem (Value.ref _) (Value.str _ _) _) _ _ _ | show wpAny _ _ (exec (Stmt.Raise _ _ _) _) _ _ _ | show wpAny _ _ (compareOp Cmpop.NotIn _ _) _ _ _ | show wpAny _ _ (compareOp Cmpop.In _ _) _ _ _ | show wpAny _ _ (delItem (Value.ref _) (Value.str _ _)) _ _ _ | show wpAny _ _ (PySem.call (Value.builtin "sorted") _ _) _ _ _ | show wpAny _ _ (subscriptTail _ _ (Value.ref _) (Value.str _ _)) _ _ _)); walk1) | dsimp only | fail "no step"))
    rename Fr _ _ _ _ => F8
    rename News _ _ _ _ => N8
    refine read_call G (C'.now B F8).less hal (Core.mk (C'.now B F8) B (News.sub N8 fun p hp => .tail _ (.tail _ (.tail _ (.tail _ (.tail _ (hsub p hp))))))) (Fr.lst F8 hl') hld hI hsz (fun a b q => parse_look hps q) (fun q => by rw [hlk] at q; cases q) ?_
    intro a' b' q d dvs dep h9 tk9 k9 hdn hdI e9
    rw [hlk] at q
    cases q
    dsimp only at k9 hdn
    have F9 := fr_kp F8 k9
    have N9 := News.made F8 N8 k9 hdn e9
    have hdne : ∀ p ∈ (I, o') :: (nb, W.listOf lv.toArray ep4) :: (D, od) :: (ar, instObj 224 da) :: (da, arDict w t1 t2 t3 ld lo' pd') :: tl, d ≠ p.1 := fun p hp => ne_none hdn (N8 p hp).1
    have hdI' := hdne _ (.head _)
    have hdnb := hdne _ (.tail _ (.head _))
    have hdD := hdne _ (.tail _ (.tail _ (.head _)))
    have hdar := hdne _ (.tail _ (.tail _ (.tail _ (.head _))))
    have hdda := hdne _ (.tail _ (.tail _ (.tail _ (.tail _ (.head _)))))
    dsimp only at hdI' hdnb hdD hdar hdda
    clear F8 N8
    (repeat' (first | (k_unfold; (try dsimp only)) | ((fail_if_success (with_reducible first | refine (?_ : Exists _) | show wpAny _ _ (exec (Stmt.While _ _ _ _) _) _ _ _ | show wpAny _ _ (exec (Stmt.For _ _ _ _ _) _) _ _ _ | show wpAny _ _ (PySem.call (Value.ref _) _ _) _ _ _ | show wpAny _ _ (PySem.call (Value.type "range") _ _) _ _ _ | show wpAny _ _ (pyIter _) _ _ _ | show wpAny _ _ (PySem.call (Value.builtin "list.append") _ _) _ _ _ | show wpAny _ _ (PySem.call (Value.builtin "len") _ _) _ _ _ | show wpAny _ _ (setItem (Value.ref _) (Value.str _ _) _) _ _ _ | show wpAny _ _ (exec (Stmt.Raise _ _ _) _) _ _ _ | show wpAny _ _ (compareOp Cmpop.NotIn _ _) _ _ _ | show wpAny _ _ (compareOp Cmpop.In _ _) _ _ _ | show wpAny _ _ (delItem (Value.ref _) (Value.str _ _)) _ _ _ | show wpAny _ _ (PySem.call (Value.builtin "sorted") _ _) _ _ _ | show wpAny _ _ (subscriptTail _ _ (Value.ref _) (Value.str _ _)) _ _ _)); walk1) | dsimp only | fail "no step"))
    refine wpAny_setItem_pairs (strKind_is _ _ _ _) (Heap.dictOf_iff.mpr ⟨od, (N9 (D, od) (by k_mem)).1, hod⟩) ?_ (by rw [sizeLine_eq]; omega)
    intro h10 hd10 hs10
    obtain ⟨od2, e10, hod2⟩ := Heap.dictOf_iff.mp hd10
    rw [stored_new (by rw [hfs.keys]; exact hnew)] at hod2
    have F10 := (same_kp hs10).fr F9 (by simpa using (N9 (D, od) (by k_mem)).2.1.symm) (by simpa using (N9 (D, od) (by k_mem)).2.2)
    have N10 := News.put (by k_upd) N9 (same_kp hs10) e10
    have N11 : News g s.heap.objs.size h10 ((I, o') :: (nb, W.listOf lv.toArray ep4) :: (D, od2) :: (ar, instObj 224 da) :: (da, arDict w t1 t2 t3 ld lo' pd') :: (d, W.listOf dvs.toArray dep) :: tl) :=
      News.sub N10 fun p hp => mem_ins (a := [(I, o'), (nb, W.listOf lv.toArray ep4), (D, od2), (ar, instObj 224 da), (da, arDict w t1 t2 t3 ld lo' pd')]) hp
    clear F9 N9 N10
    (repeat' (first | (k_unfold; (try dsimp only)) | ((fail_if_success (with_reducible first | refine (?_ : Exists _) | show wpAny _ _ (exec (Stmt.While _ _ _ _) _) _ _ _ | show wpAny _ _ (exec (Stmt.For _ _ _ _ _) _) _ _ _ | show wpAny _ _ (PySem.call (Value.ref _) _ _) _ _ _ | show wpAny _ _ (PySem.call (Value.type "range") _ _) _ _ _ | show wpAny _ _ (pyIter _) _ _ _ | show wpAny _ _ (PySem.call (Value.builtin "list.append") _ _) _ _ _ | show wpAny _ _ (PySem.call (Value.builtin "len") _ _) _ _ _ | show wpAny _ _ (setItem (Value.ref _) (Value.str _ _) _) _ _ _ | show wpAny _ _ (exec (Stmt.Raise _ _ _) _) _ _ _ | show wpAny _ _ (compareOp Cmpop.NotIn _ _) _ _ _ | show wpAny _ _ (compareOp Cmpop.In _ _) _ _ _ | show wpAny _ _ (delItem (Value.ref _) (Value.str _ _)) _ _ _ | show wpAny _ _ (PySem.call (Value.builtin "sorted") _ _) _ _ _ | show wpAny _ _ (subscriptTail _ _ (Value.ref _) (Value.str _ _)) _ _ _)); walk1) | dsimp only | fail "no step"))
    refine box fun PP kk => kk _ od2 ((d, W.listOf dvs.toArray dep) :: tl) _ _ _ o' rfl F10 (by simp only [List.forall_mem_cons]; exact ⟨rfl, rfl, rfl, rfl, rfl, fun _ hq => absurd hq List.not_mem_nil⟩) N11 hc' hd' hod2 ?_ (fun p hp => .tail _ (hsub p hp)) ?_ ?_
    · rw [htake]
      exact (hfs.mono fun a o h => .tail _ h).append (.cons (.head _) hdI .nil)
    · intro q hq
      rcases List.mem_cons.mp hq with rfl | hq
      · exact hdI'
      · exact htI q hq
    · intro q hq
      rcases List.mem_cons.mp hq with rfl | hq
      · exact hdD
      · exact htD q hq
  · rintro s' h6 xx he6
    refine unbox xx _ fun kvs od tl tk'' m h'' o es F6 hm N6 ho1 ho2 hod hfs hsub htI htD => ?_
    subst es
    have F7 := Fr.known (Fr.ext F6 he6 hIL hIg) hm
    have N7 := News.extA N6 he6 ⟨hInb, hID, hIar, hIda, AllNe.of htI⟩
    clear F6 N6 F5 N5
    have hol : (oldFiles ns ps).length = ps.length := by rw [oldFiles, List.length_map]
    rw [List.take_of_length_le (by omega)] at hfs
    have hkl : kvs.length ≤ 7 := by
      have : kvs.length = (oldFiles ns ps).length := by rw [← List.length_map (f := (·.1)), hfs.keys, List.length_map]
      omega
    cases cnt with
    | none =>
      obtain rfl : cv = .none := hc
      dsimp only
      refine (?_ : wpAny (model PR w) _ _ _ _ _)
      (repeat' (first | (k_unfold; (try dsimp only)) | ((fail_if_success (with_reducible first | refine (?_ : Exists _) | show wpAny _ _ (exec (Stmt.While _ _ _ _) _) _ _ _ | show wpAny _ _ (exec (Stmt.For _ _ _ _ _) _) _ _ _ | show wpAny _ _ (PySem.call (Value.ref _) _ _) _ _ _ | show wpAny _ _ (PySem.call (Value.type "range") _ _) _ _ _ | show wpAny _ _ (pyIter _) _ _ _ | show wpAny _ _ (PySem.call (Value.builtin "list.append") _ _) _ _ _ | show wpAny _ _ (PySem.call (Value.builtin "len") _ _) _ _ _ | show wpAny _ _ (setItem (Value.ref _) (Value.str _ _) _) _ _ _ | show wpAny _ _ (exec (Stmt.Raise _ _ _) _) _ _ _ | show wpAny _ _ (compareOp Cmpop.NotIn _ _) _ _ _ | show wpAny _ _ (compareOp Cmpop.In _ _) _ _ _ | show wpAny _ _ (delItem (Value.ref _) (Value.str _ _)) _ _ _ | show wpAny _ _ (PySem.call (Value.builtin "sorted") _ _) _ _ _ | show wpAny _ _ (subscriptTail _ _ (Value.ref _) (Value.str _ _)) _ _ _)); walk1) | dsimp only | fail "no step"))
      cases hlk : look (oldFiles ns ps) x with
      | none =>
        refine kda_in N7 (by k_mem) hod hsm (strKind_is _ _ _ _) false (by rw [hfs.look_none hlk]; rfl) ?_
        (repeat' (first | (k_unfold; (try dsimp only)) | ((fail_if_success (with_reducible first | refine (?_ : Exists _) | show wpAny _ _ (exec (Stmt.While _ _ _ _) _) _ _ _ | show wpAny _ _ (exec (Stmt.For _ _ _ _ _) _) _ _ _ | show wpAny _ _ (PySem.call (Value.ref _) _ _) _ _ _ | show wpAny _ _ (PySem.call (Value.type "range") _ _) _ _ _ | show wpAny _ _ (pyIter _) _ _ _ | show wpAny _ _ (PySem.call (Value.builtin "list.append") _ _) _ _ _ | show wpAny _ _ (PySem.call (Value.builtin "len") _ _) _ _ _ | show wpAny _ _ (setItem (Value.ref _) (Value.str _ _) _) _ _ _ | show wpAny _ _ (exec (Stmt.Raise _ _ _) _) _ _ _ | show wpAny _ _ (compareOp Cmpop.NotIn _ _) _ _ _ | show wpAny _ _ (compareOp Cmpop.In _ _) _ _ _ | show wpAny _ _ (delItem (Value.ref _) (Value.str _ _)) _ _ _ | show wpAny _ _ (PySem.call (Value.builtin "sorted") _ _) _ _ _ | show wpAny _ _ (subscriptTail _ _ (Value.ref _) (Value.str _ _)) _ _ _)); walk1) | dsimp only | fail "no step"))
        refine pack_call G (C'.now B F7).less (N7 (D, od) (by k_mem)).1 hod hsm (hfs.mono fun a o h => (N7 _ (.tail _ (.tail _ (.tail _ (.tail _ h))))).1) hok (by omega) ?_
        intro b vs8 ep8 h8 tk8 k8 hb8 hI8 e8
        (repeat' (first | (k_unfold; (try dsimp only)) | ((fail_if_success (with_reducible first | refine (?_ : Exists _) | show wpAny _ _ (exec (Stmt.While _ _ _ _) _) _ _ _ | show wpAny _ _ (exec (Stmt.For _ _ _ _ _) _) _ _ _ | show wpAny _ _ (PySem.call (Value.ref _) _ _) _ _ _ | show wpAny _ _ (PySem.call (Value.type "range") _ _) _ _ _ | show wpAny _ _ (pyIter _) _ _ _ | show wpAny _ _ (PySem.call (Value.builtin "list.append") _ _) _ _ _ | show wpAny _ _ (PySem.call (Value.builtin "len") _ _) _ _ _ | show wpAny _ _ (setItem (Value.ref _) (Value.str _ _) _) _ _ _ | show wpAny _ _ (exec (Stmt.Raise _ _ _) _) _ _ _ | show wpAny _ _ (compareOp Cmpop.NotIn _ _) _ _ _ | show wpAny _ _ (compareOp Cmpop.In _ _) _ _ _ | show wpAny _ _ (delItem (Value.ref _) (Value.str _ _)) _ _ _ | show wpAny _ _ (PySem.call (Value.builtin "sorted") _ _) _ _ _ | show wpAny _ _ (subscriptTail _ _ (Value.ref _) (Value.str _ _)) _ _ _)); walk1) | dsimp only | fail "no step"))
        dsimp only at k8 hb8
        refine ok b vs8 ep8 h8 _ ((kp_out (base := base) (l := l) (core := []) (fun _ hp => absurd hp List.not_mem_nil) F7 rfl N7 kp fun _ hp => absurd hp List.not_mem_nil).trans k8) (fresh_of (fr_new F7 hb8).2 kp (by simp)) ?_ e8
        rw [newFiles, delF_none hlk]; exact hI8
      | some c0 =>
        obtain ⟨a0, vs0, ep0, hv0, _⟩ := hfs.look hlk
        refine kda_in N7 (by k_mem) hod hsm (strKind_is _ _ _ _) true (by rw [hv0]; rfl) ?_
        (repeat' (first | (k_unfold; (try dsimp only)) | ((fail_if_success (with_reducible first | refine (?_ : Exists _) | show wpAny _ _ (exec (Stmt.While _ _ _ _) _) _ _ _ | show wpAny _ _ (exec (Stmt.For _ _ _ _ _) _) _ _ _ | show wpAny _ _ (PySem.call (Value.ref _) _ _) _ _ _ | show wpAny _ _ (PySem.call (Value.type "range") _ _) _ _ _ | show wpAny _ _ (pyIter _) _ _ _ | show wpAny _ _ (PySem.call (Value.builtin "list.append") _ _) _ _ _ | show wpAny _ _ (PySem.call (Value.builtin "len") _ _) _ _ _ | show wpAny _ _ (setItem (Value.ref _) (Value.str _ _) _) _ _ _ | show wpAny _ _ (exec (Stmt.Raise _ _ _) _) _ _ _ | show wpAny _ _ (compareOp Cmpop.NotIn _ _) _ _ _ | show wpAny _ _ (compareOp Cmpop.In _ _) _ _ _ | show wpAny _ _ (delItem (Value.ref _) (Value.str _ _)) _ _ _ | show wpAny _ _ (PySem.call (Value.builtin "sorted") _ _) _ _ _ | show wpAny _ _ (subscriptTail _ _ (Value.ref _) (Value.str _ _)) _ _ _)); walk1) | dsimp only | fail "no step"))
        refine kob_del (knd := strKind PR w) F7 N7 (by k_updF) hod (strKind_is _ _ _ _) (by rw [hv0]; rfl) (by rw [sizeLine_eq]; omega) ?_
        intro h8 o8 F8 N8 hod8
        try dsimp only at N8
        (repeat' (first | (k_unfold; (try dsimp only)) | ((fail_if_success (with_reducible first | refine (?_ : Exists _) | show wpAny _ _ (exec (Stmt.While _ _ _ _) _) _ _ _ | show wpAny _ _ (exec (Stmt.For _ _ _ _ _) _) _ _ _ | show wpAny _ _ (PySem.call (Value.ref _) _ _) _ _ _ | show wpAny _ _ (PySem.call (Value.type "range") _ _) _ _ _ | show wpAny _ _ (pyIter _) _ _ _ | show wpAny _ _ (PySem.call (Value.builtin "list.append") _ _) _ _ _ | show wpAny _ _ (PySem.call (Value.builtin "len") _ _) _ _ _ | show wpAny _ _ (setItem (Value.ref _) (Value.str _ _) _) _ _ _ | show wpAny _ _ (exec (Stmt.Raise _ _ _) _) _ _ _ | show wpAny _ _ (compareOp Cmpop.NotIn _ _) _ _ _ | show wpAny _ _ (compareOp Cmpop.In _ _) _ _ _ | show wpAny _ _ (delItem (Value.ref _) (Value.str _ _)) _ _ _ | show wpAny _ _ (PySem.call (Value.builtin "sorted") _ _) _ _ _ | show wpAny _ _ (subscriptTail _ _ (Value.ref _) (Value.str _ _)) _ _ _)); walk1) | dsimp only | fail "no step"))
        refine pack_call G (C'.now B F8).less (N8 (D, o8) (by k_mem)).1 hod8 hsm ((hfs.del (x := x)).mono fun a o h => (N8 _ (.tail _ (.tail _ (.tail _ (.tail _ h))))).1) (fun f hf => hok f (List.mem_filter.mp hf).1) (Nat.le_trans (List.length_filter_le _ _) (by omega)) ?_
        intro b vs9 ep9 h9 tk9 k9 hb9 hI9 e9
        (repeat' (first | (k_unfold; (try dsimp only)) | ((fail_if_success (with_reducible first | refine (?_ : Exists _) | show wpAny _ _ (exec (Stmt.While _ _ _ _) _) _ _ _ | show wpAny _ _ (exec (Stmt.For _ _ _ _ _) _) _ _ _ | show wpAny _ _ (PySem.call (Value.ref _) _ _) _ _ _ | show wpAny _ _ (PySem.call (Value.type "range") _ _) _ _ _ | show wpAny _ _ (pyIter _) _ _ _ | show wpAny _ _ (PySem.call (Value.builtin "list.append") _ _) _ _ _ | show wpAny _ _ (PySem.call (Value.builtin "len") _ _) _ _ _ | show wpAny _ _ (setItem (Value.ref _) (Value.str _ _) _) _ _ _ | show wpAny _ _ (exec (Stmt.Raise _ _ _) _) _ _ _ | show wpAny _ _ (compareOp Cmpop.NotIn _ _) _ _ _ | show wpAny _ _ (compareOp Cmpop.In _ _) _ _ _ | show wpAny _ _ (delItem (Value.ref _) (Value.str _ _)) _ _ _ | show wpAny _ _ (PySem.call (Value.builtin "sorted") _ _) _ _ _ | show wpAny _ _ (subscriptTail _ _ (Value.ref _) (Value.str _ _)) _ _ _)); walk1) | dsimp only | fail "no step"))
        dsimp only at k9 hb9
        exact ok b vs9 ep9 h9 _ ((kp_out (base := base) (l := l) (core := []) (fun _ hp => absurd hp List.not_mem_nil) F8 rfl N8 kp fun _ hp => absurd hp List.not_mem_nil).trans k9) (fresh_of (fr_new F8 hb9).2 kp (by simp)) hI9 e9
    | some c =>
      obtain ⟨ca, cvs, cep, rfl, hca, hcI, hcok⟩ := hc
      have hcl : g.IsList ca cvs.toArray := isList_of (kp _ _ hca (by simp))
      have hcn : cvs.length ≤ 8 := by rw [hcI.length]; exact Nat.le_trans hcok.2.2.1 (by decide)
      dsimp only
      refine (?_ : wpAny (model PR w) _ _ _ _ _)
      (repeat' (first | (k_unfold; (try dsimp only)) | ((fail_if_success (with_reducible first | refine (?_ : Exists _) | show wpAny _ _ (exec (Stmt.While _ _ _ _) _) _ _ _ | show wpAny _ _ (exec (Stmt.For _ _ _ _ _) _) _ _ _ | show wpAny _ _ (PySem.call (Value.ref _) _ _) _ _ _ | show wpAny _ _ (PySem.call (Value.type "range") _ _) _ _ _ | show wpAny _ _ (pyIter _) _ _ _ | show wpAny _ _ (PySem.call (Value.builtin "list.append") _ _) _ _ _ | show wpAny _ _ (PySem.call (Value.builtin "len") _ _) _ _ _ | show wpAny _ _ (setItem (Value.ref _) (Value.str _ _) _) _ _ _ | show wpAny _ _ (exec (Stmt.Raise _ _ _) _) _ _ _ | show wpAny _ _ (compareOp Cmpop.NotIn _ _) _ _ _ | show wpAny _ _ (compareOp Cmpop.In _ _) _ _ _ | show wpAny _ _ (delItem (Value.ref _) (Value.str _ _)) _ _ _ | show wpAny _ _ (PySem.call (Value.builtin "sorted") _ _) _ _ _ | show wpAny _ _ (subscriptTail _ _ (Value.ref _) (Value.str _ _)) _ _ _)); walk1) | dsimp only | fail "no step"))
      rename Fr _ _ _ _ => F8
      rename News _ _ _ _ => N8
      rename_i d dep h8 l8
      obtain ⟨l81, l82, l83, l84, l85⟩ := l8
      refine wpAny_setItem_pairs (strKind_is _ _ _ _) (Heap.dictOf_iff.mpr ⟨od, (N8 (D, od) (by k_mem)).1, hod⟩) ?_ (by rw [sizeLine_eq]; omega)
      intro h10 hd10 hs10
      obtain ⟨od2, e10, hod2⟩ := Heap.dictOf_iff.mp hd10
      have F10 := (same_kp hs10).fr F8 (by simpa using (N8 (D, od) (by k_mem)).2.1.symm) (by simpa using (N8 (D, od) (by k_mem)).2.2)
      have N10 := News.put (by k_upd) N8 (same_kp hs10) e10
      clear F8 N8
      (repeat' (first | (k_unfold; (try dsimp only)) | ((fail_if_success (with_reducible first | refine (?_ : Exists _) | show wpAny _ _ (exec (Stmt.While _ _ _ _) _) _ _ _ | show wpAny _ _ (exec (Stmt.For _ _ _ _ _) _) _ _ _ | show wpAny _ _ (PySem.call (Value.ref _) _ _) _ _ _ | show wpAny _ _ (PySem.call (Value.type "range") _ _) _ _ _ | show wpAny _ _ (pyIter _) _ _ _ | show wpAny _ _ (PySem.call (Value.builtin "list.append") _ _) _ _ _ | show wpAny _ _ (PySem.call (Value.builtin "len") _ _) _ _ _ | show wpAny _ _ (setItem (Value.ref _) (Value.str _ _) _) _ _ _ | show wpAny _ _ (exec (Stmt.Raise _ _ _) _) _ _ _ | show wpAny _ _ (compareOp Cmpop.NotIn _ _) _ _ _ | show wpAny _ _ (compareOp Cmpop.In _ _) _ _ _ | show wpAny _ _ (delItem (Value.ref _) (Value.str _ _)) _ _ _ | show wpAny _ _ (PySem.call (Value.builtin "sorted") _ _) _ _ _ | show wpAny _ _ (subscriptTail _ _ (Value.ref _) (Value.str _ _)) _ _ _)); walk1) | dsimp only | fail "no step"))
      have hfs2 : FilesIn h10 (stored kvs x (.ref d)) (putF (oldFiles ns ps) x c) :=
        (hfs.mono (P' := fun a o => h10.get? a = some o) fun a o h => (N10 _ (.tail _ (.tail _ (.tail _ (.tail _ (.tail _ h)))))).1).put (N10 _ (.head _)).1 hcI
      refine pack_call G (C'.now B F10).less (N10 (D, od2) (by k_mem)).1 hod2 hsm hfs2 (putF_ok hok hcok) (Nat.le_trans (putF_len _ _ _) (by omega)) ?_
      intro b vs9 ep9 h9 tk9 k9 hb9 hI9 e9
      (repeat' (first | (k_unfold; (try dsimp only)) | ((fail_if_success (with_reducible first | refine (?_ : Exists _) | show wpAny _ _ (exec (Stmt.While _ _ _ _) _) _ _ _ | show wpAny _ _ (exec (Stmt.For _ _ _ _ _) _) _ _ _ | show wpAny _ _ (PySem.call (Value.ref _) _ _) _ _ _ | show wpAny _ _ (PySem.call (Value.type "range") _ _) _ _ _ | show wpAny _ _ (pyIter _) _ _ _ | show wpAny _ _ (PySem.call (Value.builtin "list.append") _ _) _ _ _ | show wpAny _ _ (PySem.call (Value.builtin "len") _ _) _ _ _ | show wpAny _ _ (setItem (Value.ref _) (Value.str _ _) _) _ _ _ | show wpAny _ _ (exec (Stmt.Raise _ _ _) _) _ _ _ | show wpAny _ _ (compareOp Cmpop.NotIn _ _) _ _ _ | show wpAny _ _ (compareOp Cmpop.In _ _) _ _ _ | show wpAny _ _ (delItem (Value.ref _) (Value.str _ _)) _ _ _ | show wpAny _ _ (PySem.call (Value.builtin "sorted") _ _) _ _ _ | show wpAny _ _ (subscriptTail _ _ (Value.ref _) (Value.str _ _)) _ _ _)); walk1) | dsimp only | fail "no step"))
      dsimp only at k9 hb9
      exact ok b vs9 ep9 h9 _ ((kp_out (base := base) (l := l) (core := []) (fun _ hp => absurd hp List.not_mem_nil) F10 rfl N10 kp fun _ hp => absurd hp List.not_mem_nil).trans k9) (fresh_of (fr_new F10 hb9).2 kp (by simp)) hI9 e9
  · exact box fun PP kk => kk ([]) od3 al _ _ _ _ rfl F5 (by simp only [List.forall_mem_cons]; exact ⟨rfl, rfl, rfl, rfl, rfl, fun _ hq => absurd hq List.not_mem_nil⟩) N5 rfl rfl hod3 .nil (fun _ hp => hp) hIal hDal
end

section
open PySem PySem.W PyProof.Rows PySem.Calls



variable {w : World} {mean : ExcName → Option Value} {mg mb : Str → Option Value} {base : Heap} {A : Around} {l : List Env} {s : Shared}


/-- the law's pool of draws -/
def Pool (cl : Addr) (o1 o2 : Obj) : Prop := ∃ (cvs : List Value) (cs : List Int) (p1 p2 : Int) (t1 t2 : Tok) (ep1 ep2 : Nat), o1 = W.listOf [Value.ref cl, .int p1 t1, .int p2 t2].toArray ep1 ∧ o2 = W.listOf cvs.toArray ep2 ∧
  IntsAre cvs cs ∧ cs.length ≤ 63 ∧ (p1 = 0 ∨ 2 ≤ p1) ∧ 0 ≤ p2 ∧ p2 < 2147483647

theorem pool_W {pl cl : Addr} {o1 o2 : Obj} {core' : List (Addr × Obj)} : ∀ p ∈ [(pl, o1), (cl, o2)], p.1 ∈ [pl, cl] ∨ p ∈ core' := fun p hp => by
  rcases List.mem_cons.mp hp with rfl | hp
  · exact .inl (.head _)
  · rw [List.mem_singleton.mp hp]; exact .inl (.tail _ (.head _))
theorem draw_call {pl cl : Addr} {o1 o2 : Obj} {k : Int} {tk : Tok} {Q E : Value → Shared → Prop} (G : Gr w mean mg mb base) (C : At base A l 3 s.heap)
    (co : Core base l s.heap [(pl, o1), (cl, o2)]) (hne : pl ≠ cl) (hp : Pool cl o1 o2) (hk : 1 ≤ k) (hk2 : k ≤ 100000)
    (ok : ∀ v o1' o2' h' tk tv, 0 ≤ v → v < k → Kp [pl, cl] s.heap h' → h'.get? pl = some o1' → h'.get? cl = some o2' → Pool cl o1' o2' → Q (.int v tv) { s with heap := h', toks := tk }) :
    wpAny (model PR w) A (call (.ref 242) [.ref pl, .int k tk]) Q E s := by
  obtain ⟨cvs, cs, p1, p2, t1, t2, ep1, ep2, rfl, rfl, hI, hcs, hp1, hp20, hp21⟩ := hp
  refine wpAny_call ?_
  refine enter G C co (by k_is) (by k_is) (BindsTo.of_eq (binds := [("pool", .ref pl), ("limit", .int k tk)]) rfl) (locs rfl) ?_
  intro g h₁ F N B X TT kp rv C'
  have hIl := hI.length
  refine (?_ : wpAny (model PR w) _ _ _ _ _)
  k_fold
  (repeat' (first | (k_unfold; (try dsimp only)) | ((fail_if_success (with_reducible first | refine (?_ : Exists _) | show wpAny _ _ (exec (Stmt.While _ _ _ _) _) _ _ _ | show wpAny _ _ (exec (Stmt.For _ _ _ _ _) _) _ _ _ | show wpAny _ _ (PySem.call (Value.ref _) _ _) _ _ _ | show wpAny _ _ (PySem.call (Value.type "range") _ _) _ _ _ | show wpAny _ _ (pyIter _) _ _ _ | show wpAny _ _ (PySem.call (Value.builtin "list.append") _ _) _ _ _ | show wpAny _ _ (PySem.call (Value.builtin "len") _ _) _ _ _ | show wpAny _ _ (setItem (Value.ref _) (Value.str _ _) _) _ _ _ | show wpAny _ _ (exec (Stmt.Raise _ _ _) _) _ _ _ | show wpAny _ _ (compareOp Cmpop.NotIn _ _) _ _ _ | show wpAny _ _ (compareOp Cmpop.In _ _) _ _ _ | show wpAny _ _ (delItem (Value.ref _) (Value.str _ _)) _ _ _ | show wpAny _ _ (PySem.call (Value.builtin "sorted") _ _) _ _ _ | show wpAny _ _ (PySem.call (Value.builtin "list.pop") _ _) _ _ _ | show wpAny _ _ (compareOp CmpOp.Eq (Value.ref _) (Value.ref _)) _ _ _ | show wpAny _ _ (subscriptTail _ _ (Value.ref _) (Value.str _ _)) _ _ _)); walk1) | dsimp only | fail "no step"))
  · rename Fr _ _ _ _ => F2
    rename News _ _ _ _ => N2
    rename_i l1
    obtain ⟨l11, l12⟩ := l1
    refine eq_intsK (News.isList N2 (by k_mem)) hI (News.isList N2 (.head _)) .nil (by have := C'.units; rw [show cLine = 9900 from rfl]; omega) ?_
    cases hI with
    | nil =>
      rw [decide_eq_true rfl]
      (repeat' (first | (k_unfold; (try dsimp only)) | ((fail_if_success (with_reducible first | refine (?_ : Exists _) | show wpAny _ _ (exec (Stmt.While _ _ _ _) _) _ _ _ | show wpAny _ _ (exec (Stmt.For _ _ _ _ _) _) _ _ _ | show wpAny _ _ (PySem.call (Value.ref _) _ _) _ _ _ | show wpAny _ _ (PySem.call (Value.type "range") _ _) _ _ _ | show wpAny _ _ (pyIter _) _ _ _ | show wpAny _ _ (PySem.call (Value.builtin "list.append") _ _) _ _ _ | show wpAny _ _ (PySem.call (Value.builtin "len") _ _) _ _ _ | show wpAny _ _ (setItem (Value.ref _) (Value.str _ _) _) _ _ _ | show wpAny _ _ (exec (Stmt.Raise _ _ _) _) _ _ _ | show wpAny _ _ (compareOp Cmpop.NotIn _ _) _ _ _ | show wpAny _ _ (compareOp Cmpop.In _ _) _ _ _ | show wpAny _ _ (delItem (Value.ref _) (Value.str _ _)) _ _ _ | show wpAny _ _ (PySem.call (Value.builtin "sorted") _ _) _ _ _ | show wpAny _ _ (PySem.call (Value.builtin "list.pop") _ _) _ _ _ | show wpAny _ _ (compareOp CmpOp.Eq (Value.ref _) (Value.ref _)) _ _ _ | show wpAny _ _ (subscriptTail _ _ (Value.ref _) (Value.str _ _)) _ _ _)); walk1) | dsimp only | fail "no step"))
      rename Fr _ _ _ _ => F9
      rename News _ _ _ _ => N9
      refine ok _ _ _ _ _ _ (Int.fmod_nonneg_of_pos _ (by omega)) (Int.fmod_lt_of_pos _ (by omega)) (kp_out co F9 rfl N9 kp pool_W) (N9 (pl, _) (by k_mem)).1 (N9 (cl, _) (by k_mem)).1 ⟨_, [], _, _, _, _, _, _, rfl, rfl, .nil, by first | omega | (simp only [List.length_cons, List.length_nil] at hcs ⊢; omega), hp1, Int.fmod_nonneg_of_pos _ (by decide), Int.fmod_lt_of_pos _ (by decide)⟩
    | @cons y t vs cs hI =>
      rw [decide_eq_false (by simp)]
      (repeat' (first | (k_unfold; (try dsimp only)) | ((fail_if_success (with_reducible first | refine (?_ : Exists _) | show wpAny _ _ (exec (Stmt.While _ _ _ _) _) _ _ _ | show wpAny _ _ (exec (Stmt.For _ _ _ _ _) _) _ _ _ | show wpAny _ _ (PySem.call (Value.ref _) _ _) _ _ _ | show wpAny _ _ (PySem.call (Value.type "range") _ _) _ _ _ | show wpAny _ _ (pyIter _) _ _ _ | show wpAny _ _ (PySem.call (Value.builtin "list.append") _ _) _ _ _ | show wpAny _ _ (PySem.call (Value.builtin "len") _ _) _ _ _ | show wpAny _ _ (setItem (Value.ref _) (Value.str _ _) _) _ _ _ | show wpAny _ _ (exec (Stmt.Raise _ _ _) _) _ _ _ | show wpAny _ _ (compareOp Cmpop.NotIn _ _) _ _ _ | show wpAny _ _ (compareOp Cmpop.In _ _) _ _ _ | show wpAny _ _ (delItem (Value.ref _) (Value.str _ _)) _ _ _ | show wpAny _ _ (PySem.call (Value.builtin "sorted") _ _) _ _ _ | show wpAny _ _ (PySem.call (Value.builtin "list.pop") _ _) _ _ _ | show wpAny _ _ (compareOp CmpOp.Eq (Value.ref _) (Value.ref _)) _ _ _ | show wpAny _ _ (subscriptTail _ _ (Value.ref _) (Value.str _ _)) _ _ _)); walk1) | dsimp only | fail "no step"))
      rename Fr _ _ _ _ => F3
      rename News _ _ _ _ => N3
      refine kl_popAt (its := (Value.int y t :: vs).toArray) (k := 0) (p := []) (y := .int y t) (q := vs) F3 N3 rfl (by simp [seqIndex?]; try omega) (by rfl) (by k_upd) (by simp only [List.length_cons] at hcs hIl ⊢; rw [sizeLine_eq]; simp; omega) ?_
      intro h4 F4 N4
      have hab : 0 ≤ (if y < 0 then -y else y) := by split <;> omega
      (repeat' (first | (k_unfold; (try dsimp only)) | ((fail_if_success (with_reducible first | refine (?_ : Exists _) | show wpAny _ _ (exec (Stmt.While _ _ _ _) _) _ _ _ | show wpAny _ _ (exec (Stmt.For _ _ _ _ _) _) _ _ _ | show wpAny _ _ (PySem.call (Value.ref _) _ _) _ _ _ | show wpAny _ _ (PySem.call (Value.type "range") _ _) _ _ _ | show wpAny _ _ (pyIter _) _ _ _ | show wpAny _ _ (PySem.call (Value.builtin "list.append") _ _) _ _ _ | show wpAny _ _ (PySem.call (Value.builtin "len") _ _) _ _ _ | show wpAny _ _ (setItem (Value.ref _) (Value.str _ _) _) _ _ _ | show wpAny _ _ (exec (Stmt.Raise _ _ _) _) _ _ _ | show wpAny _ _ (compareOp Cmpop.NotIn _ _) _ _ _ | show wpAny _ _ (compareOp Cmpop.In _ _) _ _ _ | show wpAny _ _ (delItem (Value.ref _) (Value.str _ _)) _ _ _ | show wpAny _ _ (PySem.call (Value.builtin "sorted") _ _) _ _ _ | show wpAny _ _ (PySem.call (Value.builtin "list.pop") _ _) _ _ _ | show wpAny _ _ (compareOp CmpOp.Eq (Value.ref _) (Value.ref _)) _ _ _ | show wpAny _ _ (subscriptTail _ _ (Value.ref _) (Value.str _ _)) _ _ _)); walk1) | dsimp only | fail "no step"))
      · rename Fr _ _ _ _ => F9
        rename News _ _ _ _ => N9
        refine ok _ _ _ _ _ _ (Int.fmod_nonneg_of_pos _ (by omega)) (Int.fmod_lt_of_pos _ (by omega)) (kp_out co F9 rfl N9 kp pool_W) (N9 (pl, _) (by k_mem)).1 (N9 (cl, _) (by k_mem)).1 ⟨_, cs, _, _, _, _, _, _, rfl, rfl, hI, by first | omega | (simp only [List.length_cons, List.length_nil] at hcs ⊢; omega), .inr (by have := Int.fdiv_nonneg (a := (if y < 0 then -y else y) + 2 - 2) (b := k) (by omega) (by omega); omega), hp20, hp21⟩
      · rename Fr _ _ _ _ => F9
        rename News _ _ _ _ => N9
        refine ok _ _ _ _ _ _ (Int.fmod_nonneg_of_pos _ (by omega)) (Int.fmod_lt_of_pos _ (by omega)) (kp_out co F9 rfl N9 kp pool_W) (N9 (pl, _) (by k_mem)).1 (N9 (cl, _) (by k_mem)).1 ⟨_, cs, _, _, _, _, _, _, rfl, rfl, hI, by first | omega | (simp only [List.length_cons, List.length_nil] at hcs ⊢; omega), .inl rfl, hp20, hp21⟩
  · rename Fr _ _ _ _ => F9
    rename News _ _ _ _ => N9
    refine ok _ _ _ _ _ _ (Int.fmod_nonneg_of_pos _ (by omega)) (Int.fmod_lt_of_pos _ (by omega)) (kp_out co F9 rfl N9 kp pool_W) (N9 (pl, _) (by k_mem)).1 (N9 (cl, _) (by k_mem)).1 ⟨_, cs, _, _, _, _, _, _, rfl, rfl, hI, by first | omega | (simp only [List.length_cons, List.length_nil] at hcs ⊢; omega), .inr (by have := Int.fdiv_nonneg (a := p1 - 2) (b := k) (by omega) (by omega); omega), hp20, hp21⟩
  · rename Fr _ _ _ _ => F9
    rename News _ _ _ _ => N9
    refine ok _ _ _ _ _ _ (Int.fmod_nonneg_of_pos _ (by omega)) (Int.fmod_lt_of_pos _ (by omega)) (kp_out co F9 rfl N9 kp pool_W) (N9 (pl, _) (by k_mem)).1 (N9 (cl, _) (by k_mem)).1 ⟨_, cs, _, _, _, _, _, _, rfl, rfl, hI, by first | omega | (simp only [List.length_cons, List.length_nil] at hcs ⊢; omega), .inl rfl, hp20, hp21⟩
end

section
open PySem PySem.W PyProof.Rows PySem.Calls



variable {w : World} {mean : ExcName → Option Value} {mg mb : Str → Option Value} {base : Heap} {A : Around} {l : List Env} {s : Shared}


theorem pool_call {sc : Addr} {vs : List Value} {ns : List Int} {Q E : Value → Shared → Prop} (G : Gr w mean mg mb base) (C : At base A l 3 s.heap)
    (hl : s.heap.IsList sc vs.toArray) (hI : IntsAre vs ns) (hsz : ns.length ≤ 63)
    (ok : ∀ pl cl o1 o2 h' tk, Kp [] s.heap h' → s.heap.get? pl = none → s.heap.get? cl = none → pl ≠ cl → h'.get? pl = some o1 → h'.get? cl = some o2 → Pool cl o1 o2 → Q (.ref pl) { s with heap := h', toks := tk }) :
    wpAny (model PR w) A (call (.ref 247) [.ref sc]) Q E s := by
  refine wpAny_call ?_
  refine enter (core := []) G C (fun _ hp => absurd hp List.not_mem_nil) (by k_is) (by k_is) (BindsTo.of_eq (binds := [("script", .ref sc)]) rfl) (locs rfl) ?_
  intro g h₁ F N B X TT kp rv C'
  have hl' : g.IsList sc vs.toArray := by
    obtain ⟨o, ho, q⟩ := hl
    exact ⟨o, kp _ _ ho (by simp), q⟩
  have hIl := hI.length
  refine (?_ : wpAny (model PR w) _ _ _ _ _)
  k_fold
  (repeat' (first | (k_unfold; (try dsimp only)) | ((fail_if_success (with_reducible first | refine (?_ : Exists _) | show wpAny _ _ (exec (Stmt.While _ _ _ _) _) _ _ _ | show wpAny _ _ (exec (Stmt.For _ _ _ _ _) _) _ _ _ | show wpAny _ _ (PySem.call (Value.ref _) _ _) _ _ _ | show wpAny _ _ (PySem.call (Value.type "range") _ _) _ _ _ | show wpAny _ _ (PySem.call (Value.builtin "list.append") _ _) _ _ _ | show wpAny _ _ (PySem.call (Value.builtin "len") _ _) _ _ _ | show wpAny _ _ (setItem (Value.ref _) (Value.str _ _) _) _ _ _ | show wpAny _ _ (exec (Stmt.Raise _ _ _) _) _ _ _ | show wpAny _ _ (compareOp Cmpop.NotIn _ _) _ _ _ | show wpAny _ _ (exec (Stmt.Assign _ (PySem.Expr.ListComp _ _ _ _) _) _) _ _ _ | refine (?_ : LCg.CompSrc _ _ _ _ _ _ _ _ _ _ _ _ _ _) | show wpAny _ _ (eval (PySem.Expr.ListComp _ _ _) _) _ _ _ | show wpAny _ _ (compareOp Cmpop.In _ _) _ _ _ | show wpAny _ _ (delItem (Value.ref _) (Value.str _ _)) _ _ _ | show wpAny _ _ (PySem.call (Value.builtin "sorted") _ _) _ _ _ | show wpAny _ _ (PySem.call (Value.builtin "list.pop") _ _) _ _ _ | show wpAny _ _ (compareOp CmpOp.Eq (Value.ref _) (Value.ref _)) _ _ _ | show wpAny _ _ (subscriptTail _ _ (Value.ref _) (Value.str _ _)) _ _ _)); walk1) | dsimp only | fail "no step"))
  refine LCg.Assign_ListComp_U (F₀ := F) (by rfl) (by with_unfolding_all rfl) (by rfl) (by decide) (by rfl) (by decide) (by rfl) (by rfl) (by rfl) ?_
  (repeat' (first | (k_unfold; (try dsimp only)) | ((fail_if_success (with_reducible first | refine (?_ : Exists _) | show wpAny _ _ (exec (Stmt.While _ _ _ _) _) _ _ _ | show wpAny _ _ (exec (Stmt.For _ _ _ _ _) _) _ _ _ | show wpAny _ _ (PySem.call (Value.ref _) _ _) _ _ _ | show wpAny _ _ (PySem.call (Value.type "range") _ _) _ _ _ | show wpAny _ _ (PySem.call (Value.builtin "list.append") _ _) _ _ _ | show wpAny _ _ (PySem.call (Value.builtin "len") _ _) _ _ _ | show wpAny _ _ (setItem (Value.ref _) (Value.str _ _) _) _ _ _ | show wpAny _ _ (exec (Stmt.Raise _ _ _) _) _ _ _ | show wpAny _ _ (compareOp Cmpop.NotIn _ _) _ _ _ | show wpAny _ _ (exec (Stmt.Assign _ (PySem.Expr.ListComp _ _ _ _) _) _) _ _ _ | refine (?_ : LCg.CompSrc _ _ _ _ _ _ _ _ _ _ _ _ _ _) | show wpAny _ _ (eval (PySem.Expr.ListComp _ _ _) _) _ _ _ | show wpAny _ _ (compareOp Cmpop.In _ _) _ _ _ | show wpAny _ _ (delItem (Value.ref _) (Value.str _ _)) _ _ _ | show wpAny _ _ (PySem.call (Value.builtin "sorted") _ _) _ _ _ | show wpAny _ _ (PySem.call (Value.builtin "list.pop") _ _) _ _ _ | show wpAny _ _ (compareOp CmpOp.Eq (Value.ref _) (Value.ref _)) _ _ _ | show wpAny _ _ (subscriptTail _ _ (Value.ref _) (Value.str _ _)) _ _ _)); walk1) | dsimp only | fail "no step"))
  rename Fr _ _ _ _ => F2
  rename News _ _ _ _ => N2
  rename_i D ws h2 hIw hlw _ l2
  have hws : ws.length ≤ 63 := by rw [hIw.length, hlw]; omega
  refine LCg.CompSrc.ledger C'.calm F2 N2 (.head _) (by rw [List.size_toArray, sizeLine_eq]; omega) ?_
  intro g'
  refine kcf_list (fun x => x) hIw ?_ ?_
  · intro k t I oI CC oC DD m₂ ys h3 tk3 E' hk hC hx F3 N3 off ne mk
    (repeat' (first | (k_unfold; (try dsimp only)) | ((fail_if_success (with_reducible first | refine (?_ : Exists _) | show wpAny _ _ (exec (Stmt.While _ _ _ _) _) _ _ _ | show wpAny _ _ (exec (Stmt.For _ _ _ _ _) _) _ _ _ | show wpAny _ _ (PySem.call (Value.ref _) _ _) _ _ _ | show wpAny _ _ (PySem.call (Value.type "range") _ _) _ _ _ | show wpAny _ _ (PySem.call (Value.builtin "list.append") _ _) _ _ _ | show wpAny _ _ (PySem.call (Value.builtin "len") _ _) _ _ _ | show wpAny _ _ (setItem (Value.ref _) (Value.str _ _) _) _ _ _ | show wpAny _ _ (exec (Stmt.Raise _ _ _) _) _ _ _ | show wpAny _ _ (compareOp Cmpop.NotIn _ _) _ _ _ | show wpAny _ _ (exec (Stmt.Assign _ (PySem.Expr.ListComp _ _ _ _) _) _) _ _ _ | refine (?_ : LCg.CompSrc _ _ _ _ _ _ _ _ _ _ _ _ _ _) | show wpAny _ _ (eval (PySem.Expr.ListComp _ _ _) _) _ _ _ | show wpAny _ _ (compareOp Cmpop.In _ _) _ _ _ | show wpAny _ _ (delItem (Value.ref _) (Value.str _ _)) _ _ _ | show wpAny _ _ (PySem.call (Value.builtin "sorted") _ _) _ _ _ | show wpAny _ _ (PySem.call (Value.builtin "list.pop") _ _) _ _ _ | show wpAny _ _ (compareOp CmpOp.Eq (Value.ref _) (Value.ref _)) _ _ _ | show wpAny _ _ (subscriptTail _ _ (Value.ref _) (Value.str _ _)) _ _ _)); walk1) | dsimp only | fail "no step"))
  · unfold KPfDone
    intro ys hys D2 h4 tk4 F4 N4 off4
    dsimp only
    (repeat' (first | (k_unfold; (try dsimp only)) | ((fail_if_success (with_reducible first | refine (?_ : Exists _) | show wpAny _ _ (exec (Stmt.While _ _ _ _) _) _ _ _ | show wpAny _ _ (exec (Stmt.For _ _ _ _ _) _) _ _ _ | show wpAny _ _ (PySem.call (Value.ref _) _ _) _ _ _ | show wpAny _ _ (PySem.call (Value.type "range") _ _) _ _ _ | show wpAny _ _ (PySem.call (Value.builtin "list.append") _ _) _ _ _ | show wpAny _ _ (PySem.call (Value.builtin "len") _ _) _ _ _ | show wpAny _ _ (setItem (Value.ref _) (Value.str _ _) _) _ _ _ | show wpAny _ _ (exec (Stmt.Raise _ _ _) _) _ _ _ | show wpAny _ _ (compareOp Cmpop.NotIn _ _) _ _ _ | show wpAny _ _ (exec (Stmt.Assign _ (PySem.Expr.ListComp _ _ _ _) _) _) _ _ _ | refine (?_ : LCg.CompSrc _ _ _ _ _ _ _ _ _ _ _ _ _ _) | show wpAny _ _ (eval (PySem.Expr.ListComp _ _ _) _) _ _ _ | show wpAny _ _ (compareOp Cmpop.In _ _) _ _ _ | show wpAny _ _ (delItem (Value.ref _) (Value.str _ _)) _ _ _ | show wpAny _ _ (PySem.call (Value.builtin "sorted") _ _) _ _ _ | show wpAny _ _ (PySem.call (Value.builtin "list.pop") _ _) _ _ _ | show wpAny _ _ (compareOp CmpOp.Eq (Value.ref _) (Value.ref _)) _ _ _ | show wpAny _ _ (subscriptTail _ _ (Value.ref _) (Value.str _ _)) _ _ _)); walk1) | dsimp only | fail "no step"))
    refine sumK C'.calm F4 N4 (News.isList N4 (.head _)) hys ?_
    intro h5 tk5 t5 F5 N5
    (repeat' (first | (k_unfold; (try dsimp only)) | ((fail_if_success (with_reducible first | refine (?_ : Exists _) | show wpAny _ _ (exec (Stmt.While _ _ _ _) _) _ _ _ | show wpAny _ _ (exec (Stmt.For _ _ _ _ _) _) _ _ _ | show wpAny _ _ (PySem.call (Value.ref _) _ _) _ _ _ | show wpAny _ _ (PySem.call (Value.type "range") _ _) _ _ _ | show wpAny _ _ (PySem.call (Value.builtin "list.append") _ _) _ _ _ | show wpAny _ _ (PySem.call (Value.builtin "len") _ _) _ _ _ | show wpAny _ _ (setItem (Value.ref _) (Value.str _ _) _) _ _ _ | show wpAny _ _ (exec (Stmt.Raise _ _ _) _) _ _ _ | show wpAny _ _ (compareOp Cmpop.NotIn _ _) _ _ _ | show wpAny _ _ (exec (Stmt.Assign _ (PySem.Expr.ListComp _ _ _ _) _) _) _ _ _ | refine (?_ : LCg.CompSrc _ _ _ _ _ _ _ _ _ _ _ _ _ _) | show wpAny _ _ (eval (PySem.Expr.ListComp _ _ _) _) _ _ _ | show wpAny _ _ (compareOp Cmpop.In _ _) _ _ _ | show wpAny _ _ (delItem (Value.ref _) (Value.str _ _)) _ _ _ | show wpAny _ _ (PySem.call (Value.builtin "sorted") _ _) _ _ _ | show wpAny _ _ (PySem.call (Value.builtin "list.pop") _ _) _ _ _ | show wpAny _ _ (compareOp CmpOp.Eq (Value.ref _) (Value.ref _)) _ _ _ | show wpAny _ _ (subscriptTail _ _ (Value.ref _) (Value.str _ _)) _ _ _)); walk1) | dsimp only | fail "no step"))
    rename Fr _ _ _ _ => F6
    rename News _ _ _ _ => N6
    rename_i pl h6 l6
    have e1 := Int.fmod_nonneg_of_pos ((ys.length : Int)) (b := 99991) (by decide)
    refine ok pl D2 _ _ _ _ (kp_out (base := base) (l := l) (core := []) (fun _ hp => absurd hp List.not_mem_nil) F6 rfl N6 kp fun _ hp => absurd hp List.not_mem_nil) (fresh_of (N6 (pl, _) (.head _)).2.2 kp (by simp)) (fresh_of (N6 (D2, _) (.tail _ (.head _))).2.2 kp (by simp)) (Nat.ne_of_gt l6.1) (N6 (pl, _) (.head _)).1 (N6 (D2, _) (.tail _ (.head _))).1
      ⟨ys, _, 0, _, _, _, _, ys.length, rfl, rfl, hys, by rw [List.length_map, List.length_take]; omega, .inl rfl, ?_, ?_⟩
    · have := Int.fmod_nonneg_of_pos ((List.map (fun x => x) (List.take 63 ns)).sum) (b := 99991) (by decide)
      omega
    · have := Int.fmod_lt_of_pos ((List.map (fun x => x) (List.take 63 ns)).sum) (b := 99991) (by decide)
      omega
end

section
open PySem PySem.W PyProof.Rows PySem.Calls



variable {w : World} {mean : ExcName → Option Value} {mg mb : Str → Option Value} {base : Heap} {A : Around} {l : List Env} {s : Shared}


theorem enterC {w : World} {mean : ExcName → Option Value} {mg mb : Str → Option Value} {base : Heap} {A : Around} {l : List Env} {n : Nat} {s : Shared} {core : List (Addr × Obj)}
    {R : Result → Shared → Prop} {name qual : Str} {params : Arguments} {body : List Stmt} {scope : Scope} {dV kV doc pm cdv ct oc : Value} {an od : Option Addr} {osl : Array (Option Value)} {f : Addr} {args : Args} {binds : List (Str × Value)}
    (G : Gr w mean mg mb base) (C : At base A l (n + 1) s.heap) (co : Core base l s.heap core)
    (ho : (hd.heap_1 w.params).lookup f = some ⟨oc, od, .func (fnOf name qual params body scope dV kV doc pm an cdv ct), osl⟩) (hcd : codeIn (hd.heap_1 w.params) cdv qual = true)
    (hbind : BindsTo s (fnOf name qual params body scope dV kV doc pm an cdv ct) args binds)
    (hkind : ∀ n, ∀ x ∈ binds, scope.names.lookup x.1 = some .local ∨ (scope.names.lookup x.1 = some .cell ∧ ((cellsFrom n scope.names []).lookup x.1).isSome = true))
    (hnd : ((cellsFrom 0 scope.names []).map (·.1)).Nodup)
    (h : ∀ g h₁ tk cells, Fr g s.heap.objs.size h₁ (bindL (envOfC qual scope s.heap.objs.size f cdv).kindOf binds fun _ => none) → News g s.heap.objs.size h₁ (cells ++ core) →
      CellsAre (bindC (envOfC qual scope s.heap.objs.size f cdv).kindOf binds fun _ => none) (cellsFrom (s.heap.objs.size + 1) scope.names []) cells → (∀ p ∈ cells, s.heap.get? p.1 = none) →
      Below A base l g → (hd.heap_1 w.params).In g → Top hd.view_1 (looseW hd.view_1 []) mean mg mb g →
      (∀ b o, s.heap.get? b = some o → b ∉ core.map (·.1) → g.get? b = some o) →
      At base (A.deeper (envOfC qual scope s.heap.objs.size f cdv)) (envOfC qual scope s.heap.objs.size f cdv :: l) n h₁ →
      wpAny (model PR w) (A.deeper (envOfC qual scope s.heap.objs.size f cdv)) (execs body (envOfC qual scope s.heap.objs.size f cdv))
        (fun fl s' => R (.ok (.ret (match fl with | .ret v => v | _ => .none))) s')
        (fun e s' => wpAny (model PR w) (A.deeper (envOfC qual scope s.heap.objs.size f cdv)) (leaving (envOfC qual scope s.heap.objs.size f cdv) e) (fun _ s'' => R (.error e) s'') (fun e' s'' => R (.error e') s'') s')
        { s with heap := h₁, toks := tk })
    (hco : scope.isCoroutine = false := by rfl) (hgen : scope.isGenerator = false := by rfl) (hk : scope.kind = .function := by rfl) : codeAny (model PR w) A (.call (.ref f) args) R s := by
  have X : (hd.heap_1 w.params).In s.heap := G.K.keeps C.stays
  have hbase : ∀ b o, base.get? b = some o → b ∉ core.map (·.1) := fun b o e q => by
    obtain ⟨p, hp, rfl⟩ := List.mem_map.mp q
    rw [(co p hp).2.1] at e; cases e
  have st : base.StaysIn (hideAll s.heap (core.map (·.1))) := fun b o e => hideAll_get _ (C.stays b o e) (hbase b o e)
  have FF : (hideAll s.heap (core.map (·.1))).FunFrames base l := funFrames_hideAll C.frames fun env he b hb hf => by
    obtain ⟨p, hp, rfl⟩ := List.mem_map.mp hb
    exact (co p hp).2.2 (List.mem_filterMap.mpr ⟨env, he, hf⟩)
  have B' : Below A base l (hideAll s.heap (core.map (·.1))) := ⟨C.stack, st, FF⟩
  refine codeAny_call_function (by have := C.room; simp only [recursionLimit]; omega) (X _ _ ho) rfl hco hgen rfl (codeRec_of X hcd) (hbind _ _ _ _ ?_)
  refine wpAny_newFunctionEnv_cells hk (hkind _) fun env' he s' x => ?_
  subst he
  refine ⟨(G.T.nolimit.keeps C.stays).keeps x.toInCall.keep, codeAny_func ?_⟩
  obtain ⟨h₁, tk, rfl, _⟩ := x.done
  have hk₁ := x.toInCall.keep
  obtain ⟨cells, NC, Y⟩ := Cl.news (h₀ := s.heap) (Nat.le_refl _) fun n c hm => ⟨x.cell n c (lookup_of_mem_nodup (cellsFrom_names scope.names 0 (s.heap.objs.size + 1) [] [] rfl ▸ hnd) hm), x.above n c hm⟩
  have F' : Fr (hideAll s.heap (core.map (·.1))) s.heap.objs.size h₁ _ := ⟨x.toInCall.ns, fun b o e => hk₁ b o (of_hideAll _ e), Nat.le_of_eq (hideAll_size _ _)⟩
  have P := pushX (env := envOfC qual scope s.heap.objs.size f cdv) B' F' rfl hk
  refine h _ h₁ tk cells F' (fun p hp => ?_) Y (fun p hp => ?_) B' (G.K.keeps st) (G.T.keeps st) (fun b o e nb => hideAll_get _ e nb) ⟨P.stack, C.calm, ?_, ?_, P.stays, P.frames⟩
  · rcases List.mem_append.mp hp with hp | hp
    · refine ⟨(NC p hp).1, (NC p hp).2.1, ?_⟩
      cases q : (hideAll s.heap (core.map (·.1))).get? p.1 with
      | none => rfl
      | some o => have := of_hideAll _ q; rw [(NC p hp).2.2] at this; cases this
    · exact ⟨hk₁ _ _ (co p hp).1, Nat.ne_of_lt (Heap.lt_size (co p hp).1), hideAll_none _ (List.mem_map_of_mem hp)⟩
  · exact (NC p hp).2.2
  · have := C.room; simp only [Around.deeper]; omega
  · have := C.units; simp only [Around.deeper]; omega
end

section
open PySem PySem.W PyProof.Rows PySem.Calls



variable {w : World} {mean : ExcName → Option Value} {mg mb : Str → Option Value} {base : Heap} {A : Around} {l : List Env} {s : Shared}


theorem rest_inv {prog : Program} {w : World} {h₀ : Heap} {L : Addr} {m : Str → Option Value} {env : Env} {elt : PySem.Expr} {x : Str} {scope : Scope} {cl : List (Str × Addr)} {S : List (Addr × Obj) → Prop} {P : Nat → Value → Prop} {Fin : List Value → List (Addr × Obj) → Prop} {n : Nat} {news : List (Addr × Obj)}
    (Inv : Nat → List Value → List (Addr × Obj) → Prop) (h0 : Inv 0 [] news)
    (turn : ∀ i ys news, i < n → Inv i ys news → ∀ v I oI C oC D m₂ h tk (E' : Value → Shared → Prop), P i v → LCg.NsObj oC m₂ → m₂ x = some v → Fr h₀ L h m → News h₀ L h ((I, oI) :: (C, oC) :: (D, LCg.lst ys) :: news) → LCg.Off3 I C D news → ((@Ne Nat I C) ∧ (@Ne Nat I D) ∧ (@Ne Nat C D)) →
      wpAny (model prog w) A (eval elt (compEnvC scope cl C env)) (LCg.CompEnd h₀ L m { s with heap := h, toks := tk } I oI C oC D (LCg.lst ys) S (fun y news' => Inv (i + 1) (ys ++ [y]) news')) E' { s with heap := h, toks := tk })
    (fin : ∀ ys news, Inv n ys news → Fin ys news) : LCg.CompRest prog w A h₀ L m env elt x scope cl s S P Fin n 0 [] news := by
  have key : ∀ (j i : Nat) (ys : List Value) (news : List (Addr × Obj)), i + j = n → Inv i ys news → LCg.CompRest prog w A h₀ L m env elt x scope cl s S P Fin j i ys news := by
    intro j
    induction j with
    | zero =>
      intro i ys news hi hv
      rw [Nat.add_zero] at hi
      subst hi
      exact LCg.CompRest.zero (fin _ _ hv)
    | succ j ih =>
      intro i ys news hi hv
      refine LCg.CompRest.succ ?_
      intro v I oI C oC D m₂ h tk E' p1 p2 p3 F N off ne
      refine wpAny_mono (turn i ys news (by omega) hv v I oI C oC D m₂ h tk E' p1 p2 p3 F N off ne) (fun y s₂ hq => ?_) fun _ _ e => e
      obtain ⟨h', tk', nw, e, F', N', off', hS, hy⟩ := hq
      exact ⟨h', tk', nw, e, F', N', off', hS, ih _ _ _ (by omega) hy⟩
  exact key n 0 [] news (Nat.zero_add n) h0
theorem at_nowX {env : Env} {L n : Nat} {h₁ g h' : Heap} {m : Str → Option Value} (C' : At base (A.deeper env) (env :: l) n h₁) (B : Below A base l g) (F : Fr g L h' m) (hf : env.frame = some L := by rfl) (hk : env.scope.kind = .function := by rfl) :
    At base (A.deeper env) (env :: l) n h' :=
  let P := pushX B F hf hk
  ⟨C'.stack, C'.calm, C'.room, C'.units, P.stays, P.frames⟩
theorem news_two {g h h' : Heap} {L a b : Addr} {oa ob oa' ob' : Obj} {news : List (Addr × Obj)} (N : News g L h (news ++ [(a, oa), (b, ob)])) (k : Kp [a, b] h h') (ea : h'.get? a = some oa') (eb : h'.get? b = some ob') (hn : ∀ p ∈ news, p.1 ≠ a ∧ p.1 ≠ b) :
    News g L h' (news ++ [(a, oa'), (b, ob')]) := fun p hp => by
  rcases List.mem_append.mp hp with hp | hp
  · have := hn p hp
    have z := N p (List.mem_append_left _ hp)
    exact ⟨k.2 _ _ z.1 (by simp [this.1, this.2]), z.2⟩
  · rcases List.mem_cons.mp hp with rfl | hp
    · exact ⟨ea, (N (a, oa) (List.mem_append_right _ (.head _))).2⟩
    · rw [List.mem_singleton.mp hp]; exact ⟨eb, (N (b, ob) (List.mem_append_right _ (.tail _ (.head _)))).2⟩
theorem content_call {pl cl : Addr} {o1 o2 : Obj} {Q E : Value → Shared → Prop} (G : Gr w mean mg mb base) (C : At base A l 4 s.heap)
    (co : Core base l s.heap [(pl, o1), (cl, o2)]) (hne : pl ≠ cl) (hp : Pool cl o1 o2)
    (ok : ∀ b vs ep ns o1' o2' h' tk, ns.length ≤ 6 → (∀ n ∈ ns, 0 ≤ n ∧ n ≤ 255) → IntsAre vs ns → Kp [pl, cl] s.heap h' → s.heap.get? b = none → h'.get? b = some (W.listOf vs.toArray ep) → h'.get? pl = some o1' → h'.get? cl = some o2' → Pool cl o1' o2' → Q (.ref b) { s with heap := h', toks := tk }) :
    wpAny (model PR w) A (call (.ref 252) [.ref pl]) Q E s := by
  refine wpAny_call ?_
  refine enterC G C co (by k_is) (by k_is) (BindsTo.of_eq (binds := [("pool", .ref pl)]) rfl) ?_ (by decide) ?_
  · intro n x hx
    rw [List.mem_singleton.mp hx]
    exact .inr ⟨rfl, rfl⟩
  intro g h₁ tk0 cells F N Y hcl B X TT kp C'
  obtain ⟨oc, rfl, hoc⟩ := CellsAre.one (n := "pool") (c := s.heap.objs.size + 1) Y
  replace hoc : oc.data = .cell (some (.ref pl)) := hoc
  replace F : Fr g s.heap.objs.size h₁ (fun _ => none) := F
  clear Y
  rw [List.cons_append, List.nil_append] at N
  refine (?_ : wpAny (model PR w) _ _ _ _ _)
  k_fold
  (repeat' (first | (k_unfold; (try dsimp only)) | ((fail_if_success (with_reducible first | refine (?_ : Exists _) | show wpAny _ _ (exec (Stmt.While _ _ _ _) _) _ _ _ | show wpAny _ _ (exec (Stmt.For _ _ _ _ _) _) _ _ _ | show wpAny _ _ (PySem.call (Value.ref _) _ _) _ _ _ | show wpAny _ _ (PySem.call (Value.type "range") _ _) _ _ _ | show wpAny _ _ (PySem.call (Value.builtin "list.append") _ _) _ _ _ | show wpAny _ _ (PySem.call (Value.builtin "len") _ _) _ _ _ | show wpAny _ _ (setItem (Value.ref _) (Value.str _ _) _) _ _ _ | show wpAny _ _ (exec (Stmt.Raise _ _ _) _) _ _ _ | show wpAny _ _ (compareOp Cmpop.NotIn _ _) _ _ _ | refine (?_ : LCg.CompSrc _ _ _ _ _ _ _ _ _ _ _ _ _ _) | show wpAny _ _ (eval (PySem.Expr.ListComp _ _ _) _) _ _ _ | show wpAny _ _ (compareOp Cmpop.In _ _) _ _ _ | show wpAny _ _ (delItem (Value.ref _) (Value.str _ _)) _ _ _ | show wpAny _ _ (PySem.call (Value.builtin "sorted") _ _) _ _ _ | show wpAny _ _ (PySem.call (Value.builtin "list.pop") _ _) _ _ _ | show wpAny _ _ (compareOp CmpOp.Eq (Value.ref _) (Value.ref _)) _ _ _ | show wpAny _ _ (subscriptTail _ _ (Value.ref _) (Value.str _ _)) _ _ _)); walk1) | dsimp only | fail "no step"))
  have hgc : g.get? (s.heap.objs.size + 1) = none := (N _ (.head _)).2.2
  refine draw_call G (C'.less) (Core.mk C' B (News.tail N)) hne hp (by decide) (by decide) ?_
  intro v o1' o2' h2 tk2 tv hv0 hv1 k2 e21 e22 hp2
  have F2 := k2.fr F (by have z1 := (N _ (.tail _ (.head _))).2.1; have z2 := (N _ (.tail _ (.tail _ (.head _)))).2.1; simp [z1.symm, z2.symm]) (by
    intro a ha
    rcases List.mem_cons.mp ha with rfl | ha
    · exact (N _ (.tail _ (.head _))).2.2
    · rw [List.mem_singleton.mp ha]; exact (N _ (.tail _ (.tail _ (.head _)))).2.2)
  have hcp : s.heap.objs.size + 1 ≠ pl := ne_none (hcl _ (.head _)) (co _ (.head _)).1
  have hcc : s.heap.objs.size + 1 ≠ cl := ne_none (hcl _ (.head _)) (co _ (.tail _ (.head _))).1
  have N2 : News g s.heap.objs.size h2 [(s.heap.objs.size + 1, oc), (pl, o1'), (cl, o2')] := News.cons (k2.2 _ _ (N _ (.head _)).1 (by simp [hcp, hcc])) (N _ (.head _)).2.1 (N _ (.head _)).2.2
    (News.cons e21 (N _ (.tail _ (.head _))).2.1 (N _ (.tail _ (.head _))).2.2 (News.cons e22 (N _ (.tail _ (.tail _ (.head _)))).2.1 (N _ (.tail _ (.tail _ (.head _)))).2.2 News.nil))
  clear F N
  (repeat' (first | (k_unfold; (try dsimp only)) | ((fail_if_success (with_reducible first | refine (?_ : Exists _) | show wpAny _ _ (exec (Stmt.While _ _ _ _) _) _ _ _ | show wpAny _ _ (exec (Stmt.For _ _ _ _ _) _) _ _ _ | show wpAny _ _ (PySem.call (Value.ref _) _ _) _ _ _ | show wpAny _ _ (PySem.call (Value.type "range") _ _) _ _ _ | show wpAny _ _ (PySem.call (Value.builtin "list.append") _ _) _ _ _ | show wpAny _ _ (PySem.call (Value.builtin "len") _ _) _ _ _ | show wpAny _ _ (setItem (Value.ref _) (Value.str _ _) _) _ _ _ | show wpAny _ _ (exec (Stmt.Raise _ _ _) _) _ _ _ | show wpAny _ _ (compareOp Cmpop.NotIn _ _) _ _ _ | refine (?_ : LCg.CompSrc _ _ _ _ _ _ _ _ _ _ _ _ _ _) | show wpAny _ _ (eval (PySem.Expr.ListComp _ _ _) _) _ _ _ | show wpAny _ _ (compareOp Cmpop.In _ _) _ _ _ | show wpAny _ _ (delItem (Value.ref _) (Value.str _ _)) _ _ _ | show wpAny _ _ (PySem.call (Value.builtin "sorted") _ _) _ _ _ | show wpAny _ _ (PySem.call (Value.builtin "list.pop") _ _) _ _ _ | show wpAny _ _ (compareOp CmpOp.Eq (Value.ref _) (Value.ref _)) _ _ _ | show wpAny _ _ (subscriptTail _ _ (Value.ref _) (Value.str _ _)) _ _ _)); walk1) | dsimp only | fail "no step"))
  refine call_range_1 ?_
  have e : Builtin.Range.rangeSize 0 v 1 = ((v.toNat : Nat) : Int) := by rw [rangeSize_one]; split <;> omega
  refine LCg.CompSrc.range C'.calm (F2.push _) (N2.grown fun _ _ e => Heap.get?_push_of_some _ e) (IsRange.new _ _ _ _ _ _ _) (small_one (by decide) (by decide) (by omega) (by omega)) e (by rw [sizeLine_eq]; omega) ?_
  intro g'
  refine rest_inv (fun i ys nw => ∃ o1 o2 ns, nw = [(s.heap.objs.size + 1, oc), (pl, o1), (cl, o2)] ∧ Pool cl o1 o2 ∧ ns.length = i ∧ IntsAre ys ns ∧ ∀ n ∈ ns, 0 ≤ n ∧ n ≤ 255) ⟨o1', o2', [], rfl, hp2, rfl, .nil, fun _ hq => absurd hq List.not_mem_nil⟩ ?_ ?_
  · rintro i ys _ hi ⟨o3, o4, ns, rfl, hp3, hns, hys, hby⟩ v I oI CC oC D m₂ h3 tk3 E' hP hC hx F3 N3 off ne
    (repeat' (first | (k_unfold; (try dsimp only)) | ((fail_if_success (with_reducible first | refine (?_ : Exists _) | show wpAny _ _ (exec (Stmt.While _ _ _ _) _) _ _ _ | show wpAny _ _ (exec (Stmt.For _ _ _ _ _) _) _ _ _ | show wpAny _ _ (PySem.call (Value.ref _) _ _) _ _ _ | show wpAny _ _ (PySem.call (Value.type "range") _ _) _ _ _ | show wpAny _ _ (PySem.call (Value.builtin "list.append") _ _) _ _ _ | show wpAny _ _ (PySem.call (Value.builtin "len") _ _) _ _ _ | show wpAny _ _ (setItem (Value.ref _) (Value.str _ _) _) _ _ _ | show wpAny _ _ (exec (Stmt.Raise _ _ _) _) _ _ _ | show wpAny _ _ (compareOp Cmpop.NotIn _ _) _ _ _ | refine (?_ : LCg.CompSrc _ _ _ _ _ _ _ _ _ _ _ _ _ _) | show wpAny _ _ (eval (PySem.Expr.ListComp _ _ _) _) _ _ _ | show wpAny _ _ (compareOp Cmpop.In _ _) _ _ _ | show wpAny _ _ (delItem (Value.ref _) (Value.str _ _)) _ _ _ | show wpAny _ _ (PySem.call (Value.builtin "sorted") _ _) _ _ _ | show wpAny _ _ (PySem.call (Value.builtin "list.pop") _ _) _ _ _ | show wpAny _ _ (compareOp CmpOp.Eq (Value.ref _) (Value.ref _)) _ _ _ | show wpAny _ _ (subscriptTail _ _ (Value.ref _) (Value.str _ _)) _ _ _)); walk1) | dsimp only | fail "no step"))
    rename Fr _ _ _ _ => F4
    rename News _ _ _ _ => N4
    rename_i T h4 l4 _
    obtain ⟨l41, l42, l43, l44, l45, l46⟩ := l4
    have off' := off.mem
    have q1 := off' (pl, o3) (.tail _ (.head _))
    have q2 := off' (cl, o4) (.tail _ (.tail _ (.head _)))
    have q3 := off' (s.heap.objs.size + 1, oc) (.head _)
    refine draw_call G (at_nowX C' B F4).less (Core.mk (at_nowX C' B F4) B (News.sub N4 (pick2 (a := (pl, o3)) (b := (cl, o4)) (by k_mem) (by k_mem)))) hne hp3 (by decide) (by decide) ?_
    intro u o5 o6 h5 tk5 tu hu0 hu1 k5 e51 e52 hp5
    have zp := (N4 (pl, o3) (by k_mem)).2
    have zc := (N4 (cl, o4) (by k_mem)).2
    have F5 := k5.fr F4 (by simp [zp.1.symm, zc.1.symm]) (by
      intro a ha
      rcases List.mem_cons.mp ha with rfl | ha
      · exact zp.2
      · rw [List.mem_singleton.mp ha]; exact zc.2)
    have N5 := news_two (news := [_, _, _, _, _]) N4 k5 e51 e52 (by
      simp only [List.forall_mem_cons]
      exact ⟨⟨Nat.ne_of_gt l45, Nat.ne_of_gt l46⟩, ⟨q1.1.symm, q2.1.symm⟩, ⟨q1.2.1.symm, q2.2.1.symm⟩, ⟨q1.2.2.symm, q2.2.2.symm⟩, ⟨hcp, hcc⟩, fun _ hq => absurd hq List.not_mem_nil⟩)
    rw [List.cons_append, List.cons_append, List.cons_append, List.cons_append, List.cons_append, List.nil_append] at N5
    clear F4 N4
    (repeat' (first | (k_unfold; (try dsimp only)) | ((fail_if_success (with_reducible first | refine (?_ : Exists _) | show wpAny _ _ (exec (Stmt.While _ _ _ _) _) _ _ _ | show wpAny _ _ (exec (Stmt.For _ _ _ _ _) _) _ _ _ | show wpAny _ _ (PySem.call (Value.ref _) _ _) _ _ _ | show wpAny _ _ (PySem.call (Value.type "range") _ _) _ _ _ | show wpAny _ _ (PySem.call (Value.builtin "list.append") _ _) _ _ _ | show wpAny _ _ (PySem.call (Value.builtin "len") _ _) _ _ _ | show wpAny _ _ (setItem (Value.ref _) (Value.str _ _) _) _ _ _ | show wpAny _ _ (exec (Stmt.Raise _ _ _) _) _ _ _ | show wpAny _ _ (compareOp Cmpop.NotIn _ _) _ _ _ | refine (?_ : LCg.CompSrc _ _ _ _ _ _ _ _ _ _ _ _ _ _) | show wpAny _ _ (eval (PySem.Expr.ListComp _ _ _) _) _ _ _ | show wpAny _ _ (compareOp Cmpop.In _ _) _ _ _ | show wpAny _ _ (delItem (Value.ref _) (Value.str _ _)) _ _ _ | show wpAny _ _ (PySem.call (Value.builtin "sorted") _ _) _ _ _ | show wpAny _ _ (PySem.call (Value.builtin "list.pop") _ _) _ _ _ | show wpAny _ _ (compareOp CmpOp.Eq (Value.ref _) (Value.ref _)) _ _ _ | show wpAny _ _ (subscriptTail _ _ (Value.ref _) (Value.str _ _)) _ _ _)); walk1) | dsimp only | fail "no step"))
    have hb := kmn_any (l := [0, 1, 127, 128, 255, 65]) (i := u.toNat) (d := 0) (lo := 0) (hi := 255) (by decide)
    refine LCg.CompEnd.intro F5 N5 [(s.heap.objs.size + 1, oc), (pl, o5), (cl, o6)] (fun p hp => .tail _ hp) (LCg.Off3.of ?_) trivial ⟨o5, o6, ns ++ [_], rfl, hp5, by rw [List.length_append, hns]; rfl, IntsAre.append hys (.cons _ _ .nil), ?_⟩
    · simp only [List.forall_mem_cons]
      exact ⟨q3, q1, q2, fun _ hq => absurd hq List.not_mem_nil⟩
    · intro n hn
      rcases List.mem_append.mp hn with hn | hn
      · exact hby n hn
      · rw [List.mem_singleton.mp hn]; exact hb
  · rintro ys _ ⟨o3, o4, ns, rfl, hp3, hns, hys, hby⟩
    intro D h3 tk3 F3 N3 off
    (repeat' (first | (k_unfold; (try dsimp only)) | ((fail_if_success (with_reducible first | refine (?_ : Exists _) | show wpAny _ _ (exec (Stmt.While _ _ _ _) _) _ _ _ | show wpAny _ _ (exec (Stmt.For _ _ _ _ _) _) _ _ _ | show wpAny _ _ (PySem.call (Value.ref _) _ _) _ _ _ | show wpAny _ _ (PySem.call (Value.type "range") _ _) _ _ _ | show wpAny _ _ (PySem.call (Value.builtin "list.append") _ _) _ _ _ | show wpAny _ _ (PySem.call (Value.builtin "len") _ _) _ _ _ | show wpAny _ _ (setItem (Value.ref _) (Value.str _ _) _) _ _ _ | show wpAny _ _ (exec (Stmt.Raise _ _ _) _) _ _ _ | show wpAny _ _ (compareOp Cmpop.NotIn _ _) _ _ _ | refine (?_ : LCg.CompSrc _ _ _ _ _ _ _ _ _ _ _ _ _ _) | show wpAny _ _ (eval (PySem.Expr.ListComp _ _ _) _) _ _ _ | show wpAny _ _ (compareOp Cmpop.In _ _) _ _ _ | show wpAny _ _ (delItem (Value.ref _) (Value.str _ _)) _ _ _ | show wpAny _ _ (PySem.call (Value.builtin "sorted") _ _) _ _ _ | show wpAny _ _ (PySem.call (Value.builtin "list.pop") _ _) _ _ _ | show wpAny _ _ (compareOp CmpOp.Eq (Value.ref _) (Value.ref _)) _ _ _ | show wpAny _ _ (subscriptTail _ _ (Value.ref _) (Value.str _ _)) _ _ _)); walk1) | dsimp only | fail "no step"))
    obtain ⟨z0, z1, z2, _⟩ := off
    refine ok D ys ys.length ns o3 o4 h3 _ (by rw [hns]; omega) hby hys (kp_out co F3 rfl N3 kp pool_W) (fresh_of (N3 (D, _) (.head _)).2.2 kp (by simp [Ne.symm z1, Ne.symm z2])) (N3 (D, _) (.head _)).1 (N3 (pl, o3) (by k_mem)).1 (N3 (cl, o4) (by k_mem)).1 hp3
end

section
open PySem PySem.W PyProof.Rows PySem.Calls


/-! what pack writes is read back -/
theorem rawNum_enc (r : List Int) (t : Nat) : ∀ b : Bool, (b = true ∨ 0 < t) → rawNum b (encNat t ++ r) = some ((t : Int), r) := by
  induction t using Nat.strongRecOn with
  | ind t ih =>
    intro b hb
    rw [encNat]
    split
    · rename_i h
      rw [List.cons_append, rawNum, if_pos (by omega), ih (t / 128) (by omega) false (.inr (by omega)), Option.map_some]
      congr 2
      have := Nat.div_add_mod t 128
      omega
    · rename_i h
      rw [List.cons_append, List.nil_append, rawNum, if_neg (by omega), if_neg]
      rintro ⟨q1, q2⟩
      rcases hb with q | q
      · rw [q] at q2; cases q2
      · omega
theorem unz_two (n : Nat) : unz ((2 * n : Nat) : Int) = n := by
  unfold unz
  rw [Int.fmod_eq_emod_of_nonneg _ (by decide), if_neg (by omega), Int.fdiv_eq_ediv_of_nonneg _ (by decide)]
  omega
theorem pNum_enc (n : Nat) (r : List Int) : pNum (encNat (2 * n) ++ r) = some ((n : Int), r) := by
  unfold pNum
  rw [rawNum_enc r _ true (.inl rfl), Option.map_some, unz_two]
theorem pCount_enc {n : Nat} {r : List Int} (h : n ≤ r.length) : pCount (encNat (2 * n) ++ r) = some ((n : Int), r) := by
  unfold pCount
  rw [pNum_enc]
  dsimp only
  rw [if_neg (by omega)]
theorem encNat_pos (t : Nat) : 1 ≤ (encNat t).length := by
  rw [encNat]
  split <;> simp
theorem pCodes_enc (r : List Int) : ∀ cs : List Nat, (∀ c ∈ cs, c ≤ 1114111) → pCodes cs.length ((cs.flatMap fun c => encNat (2 * c)) ++ r) = some (cs, r)
  | [], _ => rfl
  | c :: cs, h => by
    rw [List.length_cons, List.flatMap_cons, List.append_assoc, pCodes, pNum_enc]
    dsimp only
    have := h c (.head _)
    rw [if_neg (by omega), pCodes_enc r cs fun d hd => h d (.tail _ hd), Option.map_some, Int.toNat_natCast]
theorem codes_len : ∀ cs : List Nat, cs.length ≤ (cs.flatMap fun c => encNat (2 * c)).length
  | [] => Nat.le_refl _
  | c :: cs => by
    have := encNat_pos (2 * c)
    have := codes_len cs
    rw [List.length_cons, List.flatMap_cons, List.length_append]
    omega
theorem pText_enc {x : Str} (h : x.cps.all (· < 128) = true) (r : List Int) : pText (encText x ++ r) = some (x, r) := by
  have hx : x.length = x.cps.toList.length := Array.length_toList.symm
  unfold pText encText
  rw [List.append_assoc, pCount_enc (by have := codes_len x.cps.toList; rw [List.length_append]; omega)]
  dsimp only
  rw [Int.toNat_natCast, hx, pCodes_enc r x.cps.toList (fun c hc => by
    have := Array.all_eq_true_iff_forall_mem.mp h c (by simpa using hc)
    simp at this; omega), Option.map_some]
theorem pDir_enc (r : List Int) : ∀ (fs : Files) (last : Option Str), (∀ f ∈ fs, FileOk f) → asc (fs.map (·.1)) → (∀ y ∈ last, ∀ f ∈ fs, y.cps.toList < f.1.cps.toList) →
    pDir fs.length last (fs.flatMap encHead ++ r) = some (fs.map fun f => (f.1, (f.2.length : Int)), r)
  | [], _, _, _, _ => rfl
  | f :: fs, last, hok, ha, hl => by
    obtain ⟨a1, a2⟩ := List.pairwise_cons.mp ha
    rw [List.length_cons, List.flatMap_cons, List.append_assoc, pDir, encHead, List.append_assoc, pText_enc (hok f (.head _)).1]
    dsimp only
    rw [if_neg, pNum_enc]
    · dsimp only
      rw [pDir_enc r fs (some f.1) (fun g hg => hok g (.tail _ hg)) a2 (fun y hy g hg => by cases hy; exact a1 _ (List.mem_map_of_mem hg)), Option.map_some]
      rfl
    · cases last with
      | none => simp
      | some y =>
        have := hl y rfl f (.head _)
        rw [Option.any_some, decide_eq_true this]
        exact Bool.false_ne_true
def partsOf : Int → Files → List (Str × Int × Int)
  | _, [] => []
  | a, (x, c) :: r => (x, a, a + c.length) :: partsOf (a + c.length) r
theorem pParts_enc : ∀ (fs : Files) (a tot : Int), a + ((fs.flatMap (·.2)).length : Int) = tot → pParts a tot (fs.map fun f => (f.1, (f.2.length : Int))) = some (partsOf a fs)
  | [], a, tot, h => by
    simp at h
    rw [List.map_nil, pParts, if_neg (by omega)]; rfl
  | (x, c) :: r, a, tot, h => by
    rw [List.flatMap_cons, List.length_append] at h
    dsimp only at h
    rw [List.map_cons, pParts]
    dsimp only
    rw [if_neg (by omega), pParts_enc r _ tot (by omega), Option.map_some]
    rfl
theorem parts_slice : ∀ (fs : Files) (pre : List Int), oldFiles (pre ++ fs.flatMap (·.2)) (partsOf pre.length fs) = fs
  | [], _ => rfl
  | (x, c) :: r, pre => by
    have ih := parts_slice r (pre ++ c)
    rw [List.length_append, List.append_assoc] at ih
    rw [partsOf, List.flatMap_cons]
    unfold oldFiles at ih ⊢
    rw [List.map_cons]
    refine List.cons_eq_cons.mpr ⟨?_, ?_⟩
    · dsimp only
      congr 1
      rw [show (((pre.length : Int) + c.length) - pre.length).toNat = c.length by omega, Int.toNat_natCast, List.drop_left, List.take_left]
    · rw [Int.natCast_add] at ih
      exact ih
theorem parse_enc {fs : Files} (hok : ∀ f ∈ fs, FileOk f) (ha : asc (fs.map (·.1))) : ∃ ps, parse (enc fs) = some ps ∧ oldFiles (enc fs) ps = fs := by
  refine ⟨partsOf ((encNat (2 * fs.length) ++ fs.flatMap encHead).length : Int) fs, ?_, ?_⟩
  · unfold parse enc
    have hl : fs.length ≤ (fs.flatMap encHead ++ fs.flatMap (·.2)).length := by
      have : ∀ fs : Files, fs.length ≤ (fs.flatMap encHead).length := by
        intro fs
        induction fs with
        | nil => exact Nat.le_refl _
        | cons f r ih =>
          have := encNat_pos (2 * f.1.length)
          rw [List.length_cons, List.flatMap_cons, List.length_append, encHead, encText, List.length_append, List.length_append]
          omega
      rw [List.length_append]
      have := this fs
      omega
    rw [List.append_assoc, pCount_enc hl]
    dsimp only
    rw [Int.toNat_natCast, pDir_enc _ fs none hok ha (fun y hy => by cases hy)]
    dsimp only
    rw [← pParts_enc fs _ _ rfl]
    congr 1
    · simp only [List.length_append]; omega
    · simp only [List.length_append]; omega
  · exact parts_slice fs _
theorem encNat_byte (t : Nat) : ∀ n ∈ encNat t, 0 ≤ n ∧ n ≤ 255 := by
  induction t using Nat.strongRecOn with
  | ind t ih =>
    intro n hn
    rw [encNat] at hn
    split at hn
    · rcases List.mem_cons.mp hn with rfl | hn
      · omega
      · exact ih _ (by omega) n hn
    · rw [List.mem_singleton.mp hn]; omega
theorem enc_bytes {fs : Files} (hok : ∀ f ∈ fs, FileOk f) : ∀ n ∈ enc fs, 0 ≤ n ∧ n ≤ 255 := by
  intro n hn
  unfold enc at hn
  rcases List.mem_append.mp hn with hn | hn
  · rcases List.mem_append.mp hn with hn | hn
    · exact encNat_byte _ n hn
    · obtain ⟨f, hf, hn⟩ := List.mem_flatMap.mp hn
      unfold encHead encText at hn
      rcases List.mem_append.mp hn with hn | hn
      · rcases List.mem_append.mp hn with hn | hn
        · exact encNat_byte _ n hn
        · obtain ⟨c, _, hn⟩ := List.mem_flatMap.mp hn
          exact encNat_byte _ n hn
      · exact encNat_byte _ n hn
  · obtain ⟨f, hf, hn⟩ := List.mem_flatMap.mp hn
    exact (hok f hf).2.2.2 n hn
theorem enc_small {fs : Files} (hok : ∀ f ∈ fs, FileOk f) (hn : fs.length ≤ 5) : (enc fs).length ≤ 121 := by
  have h1 := encHeads_len hok
  have h2 := bodies_len hok
  have h3 := encNat_len (2 * fs.length)
  unfold enc
  simp only [List.length_append]
  omega
theorem enc_len {fs : Files} (hok : ∀ f ∈ fs, FileOk f) (hn : fs.length ≤ 8) : (enc fs).length ≤ 1000 ∧ 1 ≤ (enc fs).length := by
  have h1 := encHeads_len hok
  have h2 := bodies_len hok
  have h3 := encNat_len (2 * fs.length)
  have h4 := encNat_pos (2 * fs.length)
  unfold enc
  simp only [List.length_append]
  omega
end

section
open PySem PySem.W PyProof.Rows PySem.Calls PySem.SeqAt



variable {w : World} {mean : ExcName → Option Value} {mg mb : Str → Option Value} {base : Heap} {A : Around} {l : List Env} {s : Shared}


theorem canLayAll0_strs : ∀ {ss : List Str}, (∀ x ∈ ss, PyData.strOk x = true) → PyData.canLayAll0 (ss.map PyData.str) = true
  | [], _ => by simp [PyData.canLayAll0]
  | x :: r, h => by
    rw [List.map_cons]
    simp only [PyData.canLayAll0, PyData.canLay0]
    rw [h x (.head _), canLayAll0_strs fun y hy => h y (.tail _ hy)]; rfl
theorem depthAll_strs : ∀ ss : List Str, PyData.depthAll (ss.map PyData.str) ≤ 1
  | [] => by simp [PyData.depthAll]
  | x :: r => by
    have := depthAll_strs r
    simp only [List.map_cons, PyData.depthAll, PyData.depth]
    omega
theorem shaped_strs {ss : List Str} (h : ∀ x ∈ ss, PyData.strOk x = true) : shaped (.list (ss.map PyData.str)) = true := by
  have h1 := depthAll_strs ss
  have h2 : PyData.depth (.list (ss.map PyData.str)) ≤ 64 := by simp only [PyData.depth]; omega
  show (PyData.canLay0 (.list (ss.map PyData.str)) && decide (PyData.depth (.list (ss.map PyData.str)) ≤ 64)) = true
  rw [Bool.and_eq_true]
  exact ⟨by simp only [PyData.canLay0]; exact canLayAll0_strs h, decide_eq_true h2⟩
theorem noMix_strs : ∀ ss rs : List Str, noMixAll (ss.map PyData.str) (rs.map PyData.str) = true
  | [], [] => by simp [noMixAll]
  | [], _ :: _ => by simp [noMixAll]
  | _ :: _, [] => by simp [noMixAll]
  | _ :: r, _ :: q => by simp [noMixAll, noMix, noMix_strs r q]
theorem same_strs : ∀ ss rs : List Str, PySem.Spec.sameAll (ss.map PyData.str) (rs.map PyData.str) = decide (ss = rs)
  | [], [] => by simp [PySem.Spec.sameAll]
  | [], _ :: _ => by simp [PySem.Spec.sameAll]
  | _ :: _, [] => by simp [PySem.Spec.sameAll]
  | n :: r, k :: q => by
    simp only [List.map_cons, PySem.Spec.sameAll, PySem.Spec.same, same_strs r q]
    by_cases h : n = k <;> simp [h]
theorem reads_strs {h : Heap} {a : Addr} {vs : List Value} {ss : List Str} (hl : h.IsList a vs.toArray) (hi : StrsAre vs ss) : Reads h (.ref a) (.list (ss.map PyData.str)) [a] := by
  obtain ⟨o, ho, hc, n, hd⟩ := hl
  exact Reads.list ho hc hd (by simpa using hi.reads h)
theorem ne_strs {prog : Program} {w : World} {E : Value → Shared → Prop} {a b : Addr} {vs us : List Value} {ss rs : List Str} {Q : Value → Shared → Prop} (hl : s.heap.IsList a vs.toArray) (hi : StrsAre vs ss) (hl' : s.heap.IsList b us.toArray) (hi' : StrsAre us rs)
    (h1 : ∀ x ∈ ss, PyData.strOk x = true) (h2 : ∀ x ∈ rs, PyData.strOk x = true) (hu : A.units + 64 < cLine) (h : Q (.bool (!decide (ss = rs))) s) : wpAny (model prog w) A (compareOp .NotEq (.ref a) (.ref b)) Q E s :=
  ne_dataH_same (reads_strs hl hi) (reads_strs hl' hi') (shaped_strs h1) (shaped_strs h2) hu (by simp only [noMix]; exact noMix_strs ss rs) (by simp only [PySem.Spec.same]; rw [same_strs]; exact h)
theorem eq_strs {prog : Program} {w : World} {E : Value → Shared → Prop} {a b : Addr} {vs us : List Value} {ss rs : List Str} {Q : Value → Shared → Prop} (hl : s.heap.IsList a vs.toArray) (hi : StrsAre vs ss) (hl' : s.heap.IsList b us.toArray) (hi' : StrsAre us rs)
    (h1 : ∀ x ∈ ss, PyData.strOk x = true) (h2 : ∀ x ∈ rs, PyData.strOk x = true) (hu : A.units + 64 < cLine) (h : Q (.bool (decide (ss = rs))) s) : wpAny (model prog w) A (compareOp .Eq (.ref a) (.ref b)) Q E s :=
  eq_dataH_same (reads_strs hl hi) (reads_strs hl' hi') (shaped_strs h1) (shaped_strs h2) hu (by simp only [noMix]; exact noMix_strs ss rs) (by simp only [PySem.Spec.same]; rw [same_strs]; exact h)
end

section
open PySem PySem.W PyProof.Rows PySem.Calls



variable {w : World} {mean : ExcName → Option Value} {mg mb : Str → Option Value} {base : Heap} {A : Around} {l : List Env} {s : Shared}


def NameOk (x : Str) : Prop := x.cps.all (· < 128) = true ∧ x.length ≤ 8
/-- where the law stands when data and told are made -/
structure LawSt (w : World) (fs : Files) (fd dd ar ld : Addr) (tl : List (Addr × Obj)) (ps : List (Str × Int × Int)) (al : List (Addr × Obj)) (od : Obj) (kvs : List (Str × Value)) (dvs lvs : List Value) (dep lep : Nat) : Prop where
  dict : od.IsDictOf (strKind PR w) kvs
  fdm : (fd, od) ∈ tl
  files : FilesOk tl kvs fs
  ok : ∀ f ∈ fs, FileOk f
  few : fs.length ≤ 5
  sm : (fd == sysModules) = false
  ddm : (dd, W.listOf dvs.toArray dep) ∈ tl
  dints : IntsAre dvs (enc (sortF fs))
  ldm : (ld, W.listOf lvs.toArray lep) ∈ tl
  lints : IntsAre lvs (enc (sortF fs))
  led : ArLed w ar ld ps al
  sub : ∀ p ∈ al, p ∈ tl
  apart : ∀ p ∈ al, p.1 ≠ ld
  par : parse (enc (sortF fs)) = some ps
  old : oldFiles (enc (sortF fs)) ps = sortF fs

theorem same_obj {K : Frag} {f : Addr} {o1 o2 : Obj} (a : K.lookup f = some o1) (b : K.lookup f = some o2) : o1 = o2 := Option.some.inj (a.symm.trans b)
theorem fn_inj {oc oc' : Value} {od od' : Option Addr} {osl osl' : Array (Option Value)} {name name' qual qual' : Str} {params params' : Arguments} {body body' : List Stmt} {scope scope' : Scope} {dV dV' kV kV' doc doc' pm pm' cdv cdv' ct ct' : Value} {an an' : Option Addr}
    (h : (⟨oc, od, .func (fnOf name qual params body scope dV kV doc pm an cdv ct), osl⟩ : Obj) = ⟨oc', od', .func (fnOf name' qual' params' body' scope' dV' kV' doc' pm' an' cdv' ct'), osl'⟩) : qual = qual' ∧ body = body' ∧ scope = scope' := by
  cases h
  exact ⟨rfl, rfl, rfl⟩

theorem news_pool {g h h' : Heap} {L a b : Addr} {oa ob oa' ob' : Obj} {pre tl : List (Addr × Obj)} (N : News g L h (pre ++ (a, oa) :: (b, ob) :: tl)) (k : Kp [a, b] h h') (ea : h'.get? a = some oa') (eb : h'.get? b = some ob')
    (hp : ∀ p ∈ pre, p.1 ≠ a ∧ p.1 ≠ b) (ht : ∀ p ∈ tl, p.1 ≠ a ∧ p.1 ≠ b) : News g L h' (pre ++ (a, oa') :: (b, ob') :: tl) := fun p hp' => by
  rcases List.mem_append.mp hp' with hp' | hp'
  · have := hp p hp'
    have z := N p (List.mem_append_left _ hp')
    exact ⟨k.2 _ _ z.1 (by simp [this.1, this.2]), z.2⟩
  · rcases List.mem_cons.mp hp' with rfl | hp'
    · exact ⟨ea, (N (a, oa) (List.mem_append_right _ (.head _))).2⟩
    · rcases List.mem_cons.mp hp' with rfl | hp'
      · exact ⟨eb, (N (b, ob) (List.mem_append_right _ (.tail _ (.head _)))).2⟩
      · have := ht p hp'
        have z := N p (List.mem_append_right _ (.tail _ (.tail _ hp')))
        exact ⟨k.2 _ _ z.1 (by simp [this.1, this.2]), z.2⟩
theorem fr_two {g h h' : Heap} {L a b : Addr} {oa ob : Obj} {m : Str → Option Value} {news : List (Addr × Obj)} (F : Fr g L h m) (N : News g L h news) (k : Kp [a, b] h h') (ha : (a, oa) ∈ news) (hb : (b, ob) ∈ news) : Fr g L h' m := by
  have z1 := (N _ ha).2
  have z2 := (N _ hb).2
  refine k.fr F (by simp [z1.1.symm, z2.1.symm]) fun c hc => ?_
  rcases List.mem_cons.mp hc with rfl | hc
  · exact z1.2
  · rw [List.mem_singleton.mp hc]; exact z2.2
theorem list_item {prog : Program} {w : World} {E : Value → Shared → Prop} {value slice : PySem.Expr} {T : Addr} {vs : List Value} {u : Int} {tu : Tok} {v : Value} {Q : Value → Shared → Prop} (hl : s.heap.IsList T vs.toArray) (h0 : 0 ≤ u) (h1 : u < 1000000) (hx : vs[u.toNat]? = some v) (h : Q v s)
    (hs : subscripted slice false (.ref T) (.int u tu) = operate [.ref T, .int u tu] (getItem (.ref T) (.int u tu)) := by with_unfolding_all rfl) : wpAny (model prog w) A (subscriptTail value slice (.ref T) (.int u tu)) Q E s :=
  tail_any hl.typeIs slot_list_getitem.lookup (wpAny_getItem_list hl h0 (by omega) (by simpa using hx) h) hs
theorem name_item {vs : List Value} {ss : List Str} {u : Int} (hS : StrsAre vs ss) (hok : ∀ x ∈ ss, NameOk x) (h0 : 0 ≤ u) (h1 : u < ss.length) : ∃ x t, vs[u.toNat]? = some (.str x t) ∧ x ∈ ss ∧ NameOk x := by
  have hl : vs.length = ss.length := hS.len_eq
  have hlt : u.toNat < vs.length := by omega
  obtain ⟨x, t, hx, hv⟩ := strs_get hS (List.getElem?_eq_getElem hlt)
  have hm := List.mem_of_getElem? hx
  exact ⟨x, t, by rw [List.getElem?_eq_getElem hlt, hv], hm, hok x hm⟩

abbrev six : List Str := ["b", "a", "ab", "", "Z", "q.smb"]
theorem six_ok : ∀ x ∈ six, NameOk x := by
  unfold NameOk
  decide +kernel

theorem news_al {g h h' : Heap} {L : Addr} {m : Str → Option Value} {al news : List (Addr × Obj)} (F : Fr g L h m) (N : News g L h news) (k : Kp [] h h') (hal : ∀ p ∈ al, h'.get? p.1 = some p.2 ∧ h.objs.size ≤ p.1) : News g L h' (al ++ news) := fun p hp => by
  rcases List.mem_append.mp hp with hp | hp
  · obtain ⟨e, hle⟩ := hal p hp
    have := fr_new F (none_of_le hle)
    exact ⟨e, this.1, this.2⟩
  · exact k.news N (by simp) p hp
theorem arled_two {ar ld : Addr} {ps : List (Str × Int × Int)} {al : List (Addr × Obj)} (h : ArLed w ar ld ps al) : ∃ da lo pd t1 t2 t3, (ar, instObj 224 da) ∈ al ∧ (da, arDict w t1 t2 t3 ld lo pd) ∈ al ∧ ar ≠ da := by
  obtain ⟨da, lo, pd, t1, t2, t3, lv, ep, o, kvs, tl, rfl, _, _, _, hna, _⟩ := h
  exact ⟨da, lo, pd, t1, t2, t3, .head _, .tail _ (.head _), hna⟩
theorem oldFiles_keys (ns : List Int) (ps : List (Str × Int × Int)) : (oldFiles ns ps).map (·.1) = ps.map (·.1) := by simp [oldFiles]
theorem nameOk_str {x : Str} (h : x.cps.all (· < 128) = true) : PyData.strOk x = true := by
  unfold PyData.strOk
  rw [Array.all_eq_true_iff_forall_mem] at h ⊢
  intro c hc
  have := h c hc
  simp at this ⊢
  omega

theorem law1 {n : Nat} {L a sc : Addr} {g : Heap} {name qual : Str} {params : Arguments} {body : List Stmt} {scope : Scope} {dV kV doc pm cdv cdv' ct oc : Value} {an od : Option Addr} {osl : Array (Option Value)} {vs : List Value} {ns : List Int} {Q : Flow → Shared → Prop} {E : Value → Shared → Prop}
    (G : Gr w mean mg mb base) (ho : (hd.heap_1 w.params).lookup 259 = some ⟨oc, od, .func (fnOf name qual params body scope dV kV doc pm an cdv ct), osl⟩)
    (C : At base (A.deeper (envOf qual scope L a cdv')) (envOf qual scope L a cdv' :: l) 20 s.heap) (B : Below A base l g) (X : (hd.heap_1 w.params).In g) (TT : Top hd.view_1 (looseW hd.view_1 []) mean mg mb g)
    (F : Fr g L s.heap fun x => List.lookup x [(Str.ofString "script", Value.ref sc)]) (hl : g.IsList sc vs.toArray) (hI : IntsAre vs ns) (hsz : ns.length ≤ 63)
    (next : ∀ h' tk m fs pl cl o1 o2 fd dd ar ld tl ps al od kvs dvs lvs dep lep, LawSt w fs fd dd ar ld tl ps al od kvs dvs lvs dep lep → Fr g L h' m →
      (∀ z ∈ [(Str.ofString "pool", Value.ref pl), (Str.ofString "files", Value.ref fd), (Str.ofString "data", Value.ref dd), (Str.ofString "told", Value.ref ar)], m z.1 = some z.2) →
      News g L h' ((pl, o1) :: (cl, o2) :: tl) → Pool cl o1 o2 → pl ≠ cl → (∀ p ∈ tl, p.1 ≠ pl ∧ p.1 ≠ cl) →
      wpAny (model PR w) (A.deeper (envOf qual scope L a cdv')) (execs (body.drop 6) (envOf qual scope L a cdv')) Q E { s with heap := h', toks := tk }) :
    wpAny (model PR w) (A.deeper (envOf qual scope L a cdv')) (execs body (envOf qual scope L a cdv')) Q E s := by
  obtain ⟨rfl, rfl, rfl⟩ := fn_inj (same_obj ho (by k_is))
  have N : News g L s.heap [] := News.nil
  refine (?_ : wpAny (model PR w) _ _ _ _ _)
  try k_fold
  (repeat' (first | (k_unfold; (try dsimp only)) | ((fail_if_success (with_reducible first | refine (?_ : Exists _) | show wpAny _ _ (exec (Stmt.While _ _ _ _) _) _ _ _ | show wpAny _ _ (exec (Stmt.For _ _ _ _ _) _) _ _ _ | show wpAny _ _ (execs (List.cons (Stmt.For _ _ _ _ _) _) _) _ _ _ | show wpAny _ _ (PySem.call (Value.ref _) _ _) _ _ _ | show wpAny _ _ (PySem.call (Value.type "range") _ _) _ _ _ | show wpAny _ _ (PySem.call (Value.builtin "list.append") _ _) _ _ _ | show wpAny _ _ (PySem.call (Value.builtin "len") _ _) _ _ _ | show wpAny _ _ (setItem (Value.ref _) (Value.str _ _) _) _ _ _ | show wpAny _ _ (exec (Stmt.Raise _ _ _) _) _ _ _ | show wpAny _ _ (compareOp Cmpop.NotIn _ _) _ _ _ | refine (?_ : LCg.CompSrc _ _ _ _ _ _ _ _ _ _ _ _ _ _) | show wpAny _ _ (eval (PySem.Expr.ListComp _ _ _) _) _ _ _ | show wpAny _ _ (compareOp Cmpop.In _ _) _ _ _ | show wpAny _ _ (delItem (Value.ref _) (Value.str _ _)) _ _ _ | show wpAny _ _ (PySem.call (Value.builtin "sorted") _ _) _ _ _ | show wpAny _ _ (compareOp CmpOp.NotEq (Value.ref _) (Value.ref _)) _ _ _ | show wpAny _ _ (subscriptTail _ _ (Value.ref _) (Value.int _ _)) _ _ _ | show wpAny _ _ (PySem.call (Value.builtin "list.pop") _ _) _ _ _ | show wpAny _ _ (compareOp CmpOp.Eq (Value.ref _) (Value.ref _)) _ _ _ | show wpAny _ _ (subscriptTail _ _ (Value.ref _) (Value.str _ _)) _ _ _)); walk1) | dsimp only | fail "no step"))
  refine pool_call G C.less (Fr.lst F hl) hI hsz ?_
  intro pl cl o1 o2 h1 tk1 k1 hpl hcl hne e1 e2 hp
  have F1 := fr_kp F k1
  have N1 : News g L h1 [(pl, o1), (cl, o2)] := News.cons e1 (fr_new F hpl).1 (fr_new F hpl).2 (News.cons e2 (fr_new F hcl).1 (fr_new F hcl).2 News.nil)
  clear F N
  (repeat' (first | (k_unfold; (try dsimp only)) | ((fail_if_success (with_reducible first | refine (?_ : Exists _) | show wpAny _ _ (exec (Stmt.While _ _ _ _) _) _ _ _ | show wpAny _ _ (exec (Stmt.For _ _ _ _ _) _) _ _ _ | show wpAny _ _ (execs (List.cons (Stmt.For _ _ _ _ _) _) _) _ _ _ | show wpAny _ _ (PySem.call (Value.ref _) _ _) _ _ _ | show wpAny _ _ (PySem.call (Value.type "range") _ _) _ _ _ | show wpAny _ _ (PySem.call (Value.builtin "list.append") _ _) _ _ _ | show wpAny _ _ (PySem.call (Value.builtin "len") _ _) _ _ _ | show wpAny _ _ (setItem (Value.ref _) (Value.str _ _) _) _ _ _ | show wpAny _ _ (exec (Stmt.Raise _ _ _) _) _ _ _ | show wpAny _ _ (compareOp Cmpop.NotIn _ _) _ _ _ | refine (?_ : LCg.CompSrc _ _ _ _ _ _ _ _ _ _ _ _ _ _) | show wpAny _ _ (eval (PySem.Expr.ListComp _ _ _) _) _ _ _ | show wpAny _ _ (compareOp Cmpop.In _ _) _ _ _ | show wpAny _ _ (delItem (Value.ref _) (Value.str _ _)) _ _ _ | show wpAny _ _ (PySem.call (Value.builtin "sorted") _ _) _ _ _ | show wpAny _ _ (compareOp CmpOp.NotEq (Value.ref _) (Value.ref _)) _ _ _ | show wpAny _ _ (subscriptTail _ _ (Value.ref _) (Value.int _ _)) _ _ _ | show wpAny _ _ (PySem.call (Value.builtin "list.pop") _ _) _ _ _ | show wpAny _ _ (compareOp CmpOp.Eq (Value.ref _) (Value.ref _)) _ _ _ | show wpAny _ _ (subscriptTail _ _ (Value.ref _) (Value.str _ _)) _ _ _)); walk1) | dsimp only | fail "no step"))
  rename Fr _ _ _ _ => F2
  rename News _ _ _ _ => N2
  rename Obj.IsDictOf (strKind PR w) _ _ => hod
  rename (_ == sysModules) = false => hsm
  rename_i fd h2 od _ _ _ l2 h3
  obtain ⟨l21, l22⟩ := l2
  iterate 2 walk1
  refine wpAny_For ?_
  (repeat' (first | (k_unfold; (try dsimp only)) | ((fail_if_success (with_reducible first | refine (?_ : Exists _) | show wpAny _ _ (exec (Stmt.While _ _ _ _) _) _ _ _ | show wpAny _ _ (exec (Stmt.For _ _ _ _ _) _) _ _ _ | show wpAny _ _ (execs (List.cons (Stmt.For _ _ _ _ _) _) _) _ _ _ | show wpAny _ _ (PySem.call (Value.ref _) _ _) _ _ _ | show wpAny _ _ (PySem.call (Value.type "range") _ _) _ _ _ | show wpAny _ _ (PySem.call (Value.builtin "list.append") _ _) _ _ _ | show wpAny _ _ (PySem.call (Value.builtin "len") _ _) _ _ _ | show wpAny _ _ (setItem (Value.ref _) (Value.str _ _) _) _ _ _ | show wpAny _ _ (exec (Stmt.Raise _ _ _) _) _ _ _ | show wpAny _ _ (compareOp Cmpop.NotIn _ _) _ _ _ | refine (?_ : LCg.CompSrc _ _ _ _ _ _ _ _ _ _ _ _ _ _) | show wpAny _ _ (eval (PySem.Expr.ListComp _ _ _) _) _ _ _ | show wpAny _ _ (compareOp Cmpop.In _ _) _ _ _ | show wpAny _ _ (delItem (Value.ref _) (Value.str _ _)) _ _ _ | show wpAny _ _ (PySem.call (Value.builtin "sorted") _ _) _ _ _ | show wpAny _ _ (compareOp CmpOp.NotEq (Value.ref _) (Value.ref _)) _ _ _ | show wpAny _ _ (subscriptTail _ _ (Value.ref _) (Value.int _ _)) _ _ _ | show wpAny _ _ (PySem.call (Value.builtin "list.pop") _ _) _ _ _ | show wpAny _ _ (compareOp CmpOp.Eq (Value.ref _) (Value.ref _)) _ _ _ | show wpAny _ _ (subscriptTail _ _ (Value.ref _) (Value.str _ _)) _ _ _)); walk1) | dsimp only | fail "no step"))
  refine draw_call G (C.now B F2).less (Core.mk (C.now B F2) B (News.sub N2 (pick2 (by k_mem) (by k_mem)))) hne hp (by decide) (by decide) ?_
  intro v o3 o4 h4 tk4 tv hv0 hv1 k4 e41 e42 hp4
  have F4 := fr_two F2 N2 k4 (.tail _ (.head _)) (.tail _ (.tail _ (.head _)))
  have N4 := news_pool (pre := [(fd, od)]) (tl := []) N2 k4 e41 e42 (by
    intro p hp
    rw [List.mem_singleton.mp hp]; exact ⟨Nat.ne_of_gt l21, Nat.ne_of_gt l22⟩) (fun _ hq => absurd hq List.not_mem_nil)
  clear F2 N2
  (repeat' (first | (k_unfold; (try dsimp only)) | ((fail_if_success (with_reducible first | refine (?_ : Exists _) | show wpAny _ _ (exec (Stmt.While _ _ _ _) _) _ _ _ | show wpAny _ _ (exec (Stmt.For _ _ _ _ _) _) _ _ _ | show wpAny _ _ (execs (List.cons (Stmt.For _ _ _ _ _) _) _) _ _ _ | show wpAny _ _ (PySem.call (Value.ref _) _ _) _ _ _ | show wpAny _ _ (PySem.call (Value.type "range") _ _) _ _ _ | show wpAny _ _ (PySem.call (Value.builtin "list.append") _ _) _ _ _ | show wpAny _ _ (PySem.call (Value.builtin "len") _ _) _ _ _ | show wpAny _ _ (setItem (Value.ref _) (Value.str _ _) _) _ _ _ | show wpAny _ _ (exec (Stmt.Raise _ _ _) _) _ _ _ | show wpAny _ _ (compareOp Cmpop.NotIn _ _) _ _ _ | refine (?_ : LCg.CompSrc _ _ _ _ _ _ _ _ _ _ _ _ _ _) | show wpAny _ _ (eval (PySem.Expr.ListComp _ _ _) _) _ _ _ | show wpAny _ _ (compareOp Cmpop.In _ _) _ _ _ | show wpAny _ _ (delItem (Value.ref _) (Value.str _ _)) _ _ _ | show wpAny _ _ (PySem.call (Value.builtin "sorted") _ _) _ _ _ | show wpAny _ _ (compareOp CmpOp.NotEq (Value.ref _) (Value.ref _)) _ _ _ | show wpAny _ _ (subscriptTail _ _ (Value.ref _) (Value.int _ _)) _ _ _ | show wpAny _ _ (PySem.call (Value.builtin "list.pop") _ _) _ _ _ | show wpAny _ _ (compareOp CmpOp.Eq (Value.ref _) (Value.ref _)) _ _ _ | show wpAny _ _ (subscriptTail _ _ (Value.ref _) (Value.str _ _)) _ _ _)); walk1) | dsimp only | fail "no step"))
  refine range_iter hv0 (by omega) ?_
  intro I h5 tk5 k5 hI5 e5
  dsimp only at hI5 k5
  have hIn : h4.get? I = none := none_of_le (Nat.le_of_lt hI5)
  have F5 := fr_kp F4 k5
  have N5 := News.made F4 N4 k5 hIn e5
  obtain ⟨hIL, hIg⟩ := fr_new F4 hIn
  have hIfd : I ≠ fd := ne_none hIn (N4 _ (.head _)).1
  have hIpl : I ≠ pl := ne_none hIn (N4 _ (.tail _ (.head _))).1
  have hIcl : I ≠ cl := ne_none hIn (N4 _ (.tail _ (.tail _ (.head _)))).1
  have hfp : fd ≠ pl := Nat.ne_of_gt l21
  have hfc : fd ≠ cl := Nat.ne_of_gt l22
  clear F4 N4
  refine loop_range (n := v.toNat) (C.now B F5).calm (fun (k : Nat) (s' : Shared) => Box (∀ PP : Prop, (∀ (fs : Files) (kvs : List (Str × Value)) (od : Obj) (o1 o2 : Obj) (tl : List (Addr × Obj)) (tk'' : Tok) (m : Str → Option Value) (h'' : Heap), s' = { s with heap := h'', toks := tk'' } → Fr g L h'' m → (∀ z ∈ [(Str.ofString "pool", Value.ref pl), (Str.ofString "files", Value.ref fd)], m z.1 = some z.2) → News g L h'' ((I, rgObj k ((v.toNat : Int) - k)) :: (fd, od) :: (pl, o1) :: (cl, o2) :: tl) → Pool cl o1 o2 → od.IsDictOf (strKind PR w) kvs → FilesOk tl kvs fs → (∀ f ∈ fs, FileOk f) → fs.length ≤ k → (∀ p ∈ tl, p.1 ≠ I) → (∀ p ∈ tl, p.1 ≠ fd) → (∀ p ∈ tl, p.1 ≠ pl ∧ p.1 ≠ cl) → PP) → PP)) ?_ ?_ ?_ ?_
  · rintro k s' xx
    refine unbox xx _ fun fs kvs od o1 o2 tl tk'' m h'' es F6 hm N6 _ _ _ _ _ _ _ _ => ?_
    subst es
    exact (N6 _ (.head _)).1
  · rintro k s' h6 tk6 hk xx hit6 hs6
    refine unbox xx _ fun fs kvs od o1 o2 tl tk'' m h'' es F6 hm N6 hp6 hod6 hfs hok hfl htI htf htp => ?_
    subst es
    have K6 := same_kp hs6
    have F7 := Fr.known (K6.fr F6 (by simpa using hIL.symm) (by simpa using hIg)) hm
    have N7 := News.put (by k_upd) N6 K6 hit6
    clear F6 N6 F5 N5
    dsimp only
    refine (?_ : wpAny (model PR w) _ _ _ _ _)
    (repeat' (first | (k_unfold; (try dsimp only)) | ((fail_if_success (with_reducible first | refine (?_ : Exists _) | show wpAny _ _ (exec (Stmt.While _ _ _ _) _) _ _ _ | show wpAny _ _ (exec (Stmt.For _ _ _ _ _) _) _ _ _ | show wpAny _ _ (execs (List.cons (Stmt.For _ _ _ _ _) _) _) _ _ _ | show wpAny _ _ (PySem.call (Value.ref _) _ _) _ _ _ | show wpAny _ _ (PySem.call (Value.type "range") _ _) _ _ _ | show wpAny _ _ (PySem.call (Value.builtin "list.append") _ _) _ _ _ | show wpAny _ _ (PySem.call (Value.builtin "len") _ _) _ _ _ | show wpAny _ _ (setItem (Value.ref _) (Value.str _ _) _) _ _ _ | show wpAny _ _ (exec (Stmt.Raise _ _ _) _) _ _ _ | show wpAny _ _ (compareOp Cmpop.NotIn _ _) _ _ _ | refine (?_ : LCg.CompSrc _ _ _ _ _ _ _ _ _ _ _ _ _ _) | show wpAny _ _ (eval (PySem.Expr.ListComp _ _ _) _) _ _ _ | show wpAny _ _ (compareOp Cmpop.In _ _) _ _ _ | show wpAny _ _ (delItem (Value.ref _) (Value.str _ _)) _ _ _ | show wpAny _ _ (PySem.call (Value.builtin "sorted") _ _) _ _ _ | show wpAny _ _ (compareOp CmpOp.NotEq (Value.ref _) (Value.ref _)) _ _ _ | show wpAny _ _ (subscriptTail _ _ (Value.ref _) (Value.int _ _)) _ _ _ | show wpAny _ _ (PySem.call (Value.builtin "list.pop") _ _) _ _ _ | show wpAny _ _ (compareOp CmpOp.Eq (Value.ref _) (Value.ref _)) _ _ _ | show wpAny _ _ (subscriptTail _ _ (Value.ref _) (Value.str _ _)) _ _ _)); walk1) | dsimp only | fail "no step"))
    rename Fr _ _ _ _ => F8
    rename News _ _ _ _ => N8
    rename_i T h8 l8
    obtain ⟨l81, l82, l83, l84, l85⟩ := l8
    have htT : ∀ p ∈ tl, p.1 ≠ T := fun p hp => Nat.ne_of_lt (allLt l85 p hp)
    refine draw_call G (C.now B F8).less (Core.mk (C.now B F8) B (News.sub N8 (pick2 (a := (pl, o1)) (b := (cl, o2)) (by k_mem) (by k_mem)))) hne hp6 (by decide) (by decide) ?_
    intro u o5 o6 h9 tk9 tu hu0 hu1 k9 e91 e92 hp9
    have F9 := fr_two (oa := o1) (ob := o2) F8 N8 k9 (by k_mem) (by k_mem)
    have N9 := news_pool (pre := [_, _, _]) N8 k9 e91 e92 (by
      simp only [List.forall_mem_cons]
      exact ⟨⟨Nat.ne_of_gt l83, Nat.ne_of_gt l84⟩, ⟨hIpl, hIcl⟩, ⟨hfp, hfc⟩, fun _ hq => absurd hq List.not_mem_nil⟩) htp
    rw [List.cons_append, List.cons_append, List.cons_append, List.nil_append] at N9
    clear F8 N8
    (repeat' (first | (k_unfold; (try dsimp only)) | ((fail_if_success (with_reducible first | refine (?_ : Exists _) | show wpAny _ _ (exec (Stmt.While _ _ _ _) _) _ _ _ | show wpAny _ _ (exec (Stmt.For _ _ _ _ _) _) _ _ _ | show wpAny _ _ (execs (List.cons (Stmt.For _ _ _ _ _) _) _) _ _ _ | show wpAny _ _ (PySem.call (Value.ref _) _ _) _ _ _ | show wpAny _ _ (PySem.call (Value.type "range") _ _) _ _ _ | show wpAny _ _ (PySem.call (Value.builtin "list.append") _ _) _ _ _ | show wpAny _ _ (PySem.call (Value.builtin "len") _ _) _ _ _ | show wpAny _ _ (setItem (Value.ref _) (Value.str _ _) _) _ _ _ | show wpAny _ _ (exec (Stmt.Raise _ _ _) _) _ _ _ | show wpAny _ _ (compareOp Cmpop.NotIn _ _) _ _ _ | refine (?_ : LCg.CompSrc _ _ _ _ _ _ _ _ _ _ _ _ _ _) | show wpAny _ _ (eval (PySem.Expr.ListComp _ _ _) _) _ _ _ | show wpAny _ _ (compareOp Cmpop.In _ _) _ _ _ | show wpAny _ _ (delItem (Value.ref _) (Value.str _ _)) _ _ _ | show wpAny _ _ (PySem.call (Value.builtin "sorted") _ _) _ _ _ | show wpAny _ _ (compareOp CmpOp.NotEq (Value.ref _) (Value.ref _)) _ _ _ | show wpAny _ _ (subscriptTail _ _ (Value.ref _) (Value.int _ _)) _ _ _ | show wpAny _ _ (PySem.call (Value.builtin "list.pop") _ _) _ _ _ | show wpAny _ _ (compareOp CmpOp.Eq (Value.ref _) (Value.ref _)) _ _ _ | show wpAny _ _ (subscriptTail _ _ (Value.ref _) (Value.str _ _)) _ _ _)); walk1) | dsimp only | fail "no step"))
    obtain ⟨x, tx, hx, hxm, hxo⟩ := name_item (u := u) (ss := six) (.cons _ _ (.cons _ _ (.cons _ _ (.cons _ _ (.cons _ _ (.cons _ _ .nil)))))) six_ok hu0 hu1
    refine list_item (News.isList N9 (.head _)) hu0 (by omega) hx ?_
    (repeat' (first | (k_unfold; (try dsimp only)) | ((fail_if_success (with_reducible first | refine (?_ : Exists _) | show wpAny _ _ (exec (Stmt.While _ _ _ _) _) _ _ _ | show wpAny _ _ (exec (Stmt.For _ _ _ _ _) _) _ _ _ | show wpAny _ _ (execs (List.cons (Stmt.For _ _ _ _ _) _) _) _ _ _ | show wpAny _ _ (PySem.call (Value.ref _) _ _) _ _ _ | show wpAny _ _ (PySem.call (Value.type "range") _ _) _ _ _ | show wpAny _ _ (PySem.call (Value.builtin "list.append") _ _) _ _ _ | show wpAny _ _ (PySem.call (Value.builtin "len") _ _) _ _ _ | show wpAny _ _ (setItem (Value.ref _) (Value.str _ _) _) _ _ _ | show wpAny _ _ (exec (Stmt.Raise _ _ _) _) _ _ _ | show wpAny _ _ (compareOp Cmpop.NotIn _ _) _ _ _ | refine (?_ : LCg.CompSrc _ _ _ _ _ _ _ _ _ _ _ _ _ _) | show wpAny _ _ (eval (PySem.Expr.ListComp _ _ _) _) _ _ _ | show wpAny _ _ (compareOp Cmpop.In _ _) _ _ _ | show wpAny _ _ (delItem (Value.ref _) (Value.str _ _)) _ _ _ | show wpAny _ _ (PySem.call (Value.builtin "sorted") _ _) _ _ _ | show wpAny _ _ (compareOp CmpOp.NotEq (Value.ref _) (Value.ref _)) _ _ _ | show wpAny _ _ (subscriptTail _ _ (Value.ref _) (Value.int _ _)) _ _ _ | show wpAny _ _ (PySem.call (Value.builtin "list.pop") _ _) _ _ _ | show wpAny _ _ (compareOp CmpOp.Eq (Value.ref _) (Value.ref _)) _ _ _ | show wpAny _ _ (subscriptTail _ _ (Value.ref _) (Value.str _ _)) _ _ _)); walk1) | dsimp only | fail "no step"))
    rename Fr _ _ _ _ => F10
    rename News _ _ _ _ => N10
    refine content_call G (C.now B F10).less (Core.mk (C.now B F10) B (News.sub N10 (pick2 (a := (pl, o5)) (b := (cl, o6)) (by k_mem) (by k_mem)))) hne hp9 ?_
    intro b bvs bep bns o7 o8 h11 tk11 hbl hbb hbI k11 hbn e11 e111 e112 hp11
    dsimp only at k11 hbn
    obtain ⟨hbL, hbg⟩ := fr_new F10 hbn
    have hbfd : b ≠ fd := ne_none hbn (N10 (fd, od) (by k_mem)).1
    have hbI' : b ≠ I := ne_none hbn (N10 (I, _) (by k_mem)).1
    have hbpl : b ≠ pl := ne_none hbn (N10 (pl, o5) (by k_mem)).1
    have hbcl : b ≠ cl := ne_none hbn (N10 (cl, o6) (by k_mem)).1
    have F11 := fr_two (oa := o5) (ob := o6) F10 N10 k11 (by k_mem) (by k_mem)
    have N11 := news_pool (pre := [_, _]) (News.tail N10) k11 e111 e112 (by
      simp only [List.forall_mem_cons]
      exact ⟨⟨hIpl, hIcl⟩, ⟨hfp, hfc⟩, fun _ hq => absurd hq List.not_mem_nil⟩) htp
    rw [List.cons_append, List.cons_append, List.nil_append] at N11
    clear F10 N10
    (repeat' (first | (k_unfold; (try dsimp only)) | ((fail_if_success (with_reducible first | refine (?_ : Exists _) | show wpAny _ _ (exec (Stmt.While _ _ _ _) _) _ _ _ | show wpAny _ _ (exec (Stmt.For _ _ _ _ _) _) _ _ _ | show wpAny _ _ (execs (List.cons (Stmt.For _ _ _ _ _) _) _) _ _ _ | show wpAny _ _ (PySem.call (Value.ref _) _ _) _ _ _ | show wpAny _ _ (PySem.call (Value.type "range") _ _) _ _ _ | show wpAny _ _ (PySem.call (Value.builtin "list.append") _ _) _ _ _ | show wpAny _ _ (PySem.call (Value.builtin "len") _ _) _ _ _ | show wpAny _ _ (setItem (Value.ref _) (Value.str _ _) _) _ _ _ | show wpAny _ _ (exec (Stmt.Raise _ _ _) _) _ _ _ | show wpAny _ _ (compareOp Cmpop.NotIn _ _) _ _ _ | refine (?_ : LCg.CompSrc _ _ _ _ _ _ _ _ _ _ _ _ _ _) | show wpAny _ _ (eval (PySem.Expr.ListComp _ _ _) _) _ _ _ | show wpAny _ _ (compareOp Cmpop.In _ _) _ _ _ | show wpAny _ _ (delItem (Value.ref _) (Value.str _ _)) _ _ _ | show wpAny _ _ (PySem.call (Value.builtin "sorted") _ _) _ _ _ | show wpAny _ _ (compareOp CmpOp.NotEq (Value.ref _) (Value.ref _)) _ _ _ | show wpAny _ _ (subscriptTail _ _ (Value.ref _) (Value.int _ _)) _ _ _ | show wpAny _ _ (PySem.call (Value.builtin "list.pop") _ _) _ _ _ | show wpAny _ _ (compareOp CmpOp.Eq (Value.ref _) (Value.ref _)) _ _ _ | show wpAny _ _ (subscriptTail _ _ (Value.ref _) (Value.str _ _)) _ _ _)); walk1) | dsimp only | fail "no step"))
    have hkl : kvs.length = fs.length := by rw [← List.length_map (f := (·.1)), hfs.keys, List.length_map]
    refine wpAny_setItem_pairs (strKind_is _ _ _ _) (Heap.dictOf_iff.mpr ⟨od, (N11 (fd, od) (by k_mem)).1, hod6⟩) ?_ (by rw [sizeLine_eq]; omega)
    intro h12 hd12 hs12
    obtain ⟨od2, e12, hod2⟩ := Heap.dictOf_iff.mp hd12
    have zf := (N11 (fd, od) (by k_mem)).2
    have F12 := (same_kp hs12).fr F11 (by simpa using zf.1.symm) (by simpa using zf.2)
    have N12 := News.put (by k_upd) N11 (same_kp hs12) e12
    have N13 := News.cons ((same_kp hs12).2 _ _ e11 (by simpa using hbfd)) hbL hbg N12
    clear F11 N11 N12
    (repeat' (first | (k_unfold; (try dsimp only)) | ((fail_if_success (with_reducible first | refine (?_ : Exists _) | show wpAny _ _ (exec (Stmt.While _ _ _ _) _) _ _ _ | show wpAny _ _ (exec (Stmt.For _ _ _ _ _) _) _ _ _ | show wpAny _ _ (execs (List.cons (Stmt.For _ _ _ _ _) _) _) _ _ _ | show wpAny _ _ (PySem.call (Value.ref _) _ _) _ _ _ | show wpAny _ _ (PySem.call (Value.type "range") _ _) _ _ _ | show wpAny _ _ (PySem.call (Value.builtin "list.append") _ _) _ _ _ | show wpAny _ _ (PySem.call (Value.builtin "len") _ _) _ _ _ | show wpAny _ _ (setItem (Value.ref _) (Value.str _ _) _) _ _ _ | show wpAny _ _ (exec (Stmt.Raise _ _ _) _) _ _ _ | show wpAny _ _ (compareOp Cmpop.NotIn _ _) _ _ _ | refine (?_ : LCg.CompSrc _ _ _ _ _ _ _ _ _ _ _ _ _ _) | show wpAny _ _ (eval (PySem.Expr.ListComp _ _ _) _) _ _ _ | show wpAny _ _ (compareOp Cmpop.In _ _) _ _ _ | show wpAny _ _ (delItem (Value.ref _) (Value.str _ _)) _ _ _ | show wpAny _ _ (PySem.call (Value.builtin "sorted") _ _) _ _ _ | show wpAny _ _ (compareOp CmpOp.NotEq (Value.ref _) (Value.ref _)) _ _ _ | show wpAny _ _ (subscriptTail _ _ (Value.ref _) (Value.int _ _)) _ _ _ | show wpAny _ _ (PySem.call (Value.builtin "list.pop") _ _) _ _ _ | show wpAny _ _ (compareOp CmpOp.Eq (Value.ref _) (Value.ref _)) _ _ _ | show wpAny _ _ (subscriptTail _ _ (Value.ref _) (Value.str _ _)) _ _ _)); walk1) | dsimp only | fail "no step"))
    have hxf : FileOk (x, bns) := ⟨hxo.1, hxo.2, by dsimp only; omega, hbb⟩
    refine box fun PP kk => kk (putF fs x bns) (stored kvs x (.ref b)) od2 o7 o8 ((b, W.listOf bvs.toArray bep) :: tl) _ _ _ rfl F12 (by simp only [List.forall_mem_cons]; exact ⟨rfl, rfl, fun _ hq => absurd hq List.not_mem_nil⟩) ?_ hp11 hod2 ((hfs.mono fun a o h => .tail _ h).put (.head _) hbI) (putF_ok hok hxf) (Nat.le_trans (putF_len _ _ _) (by omega)) ?_ ?_ ?_
    · refine News.sub N13 fun p hp => ?_
      exact mem_ins (a := [_, _, _, _]) hp
    · intro q hq
      rcases List.mem_cons.mp hq with rfl | hq
      · exact hbI'
      · exact htI q hq
    · intro q hq
      rcases List.mem_cons.mp hq with rfl | hq
      · exact hbfd
      · exact htf q hq
    · intro q hq
      rcases List.mem_cons.mp hq with rfl | hq
      · exact ⟨hbpl, hbcl⟩
      · exact htp q hq
  · rintro s' h6 xx he6
    refine unbox xx _ fun fs kvs od o1 o2 tl tk'' m h'' es F6 hm N6 hp6 hod6 hfs hok hfl htI htf htp => ?_
    subst es
    have F7 := Fr.known (Fr.ext F6 he6 hIL hIg) hm
    have N7 := News.extA N6 he6 ⟨hIfd, hIpl, hIcl, AllNe.of htI⟩
    clear F6 N6 F5 N5
    have hf5 : fs.length ≤ 5 := by omega
    dsimp only
    refine (?_ : wpAny (model PR w) _ _ _ _ _)
    (repeat' (first | (k_unfold; (try dsimp only)) | ((fail_if_success (with_reducible first | refine (?_ : Exists _) | show wpAny _ _ (exec (Stmt.While _ _ _ _) _) _ _ _ | show wpAny _ _ (exec (Stmt.For _ _ _ _ _) _) _ _ _ | show wpAny _ _ (execs (List.cons (Stmt.For _ _ _ _ _) _) _) _ _ _ | show wpAny _ _ (PySem.call (Value.ref _) _ _) _ _ _ | show wpAny _ _ (PySem.call (Value.type "range") _ _) _ _ _ | show wpAny _ _ (PySem.call (Value.builtin "list.append") _ _) _ _ _ | show wpAny _ _ (PySem.call (Value.builtin "len") _ _) _ _ _ | show wpAny _ _ (setItem (Value.ref _) (Value.str _ _) _) _ _ _ | show wpAny _ _ (exec (Stmt.Raise _ _ _) _) _ _ _ | show wpAny _ _ (compareOp Cmpop.NotIn _ _) _ _ _ | refine (?_ : LCg.CompSrc _ _ _ _ _ _ _ _ _ _ _ _ _ _) | show wpAny _ _ (eval (PySem.Expr.ListComp _ _ _) _) _ _ _ | show wpAny _ _ (compareOp Cmpop.In _ _) _ _ _ | show wpAny _ _ (delItem (Value.ref _) (Value.str _ _)) _ _ _ | show wpAny _ _ (PySem.call (Value.builtin "sorted") _ _) _ _ _ | show wpAny _ _ (compareOp CmpOp.NotEq (Value.ref _) (Value.ref _)) _ _ _ | show wpAny _ _ (subscriptTail _ _ (Value.ref _) (Value.int _ _)) _ _ _ | show wpAny _ _ (PySem.call (Value.builtin "list.pop") _ _) _ _ _ | show wpAny _ _ (compareOp CmpOp.Eq (Value.ref _) (Value.ref _)) _ _ _ | show wpAny _ _ (subscriptTail _ _ (Value.ref _) (Value.str _ _)) _ _ _)); walk1) | dsimp only | fail "no step"))
    have hfsh : FilesIn h6 kvs fs := hfs.mono fun a o h => (N7 _ (.tail _ (.tail _ (.tail _ h)))).1
    refine pack_call G (C.now B F7).less (N7 (fd, od) (.head _)).1 hod6 hsm hfsh hok (by omega) ?_
    intro dd dvs dep h8 tk8 k8 hdn hdI e8
    dsimp only at k8 hdn
    have F8 := fr_kp F7 k8
    have N8 := News.made F7 N7 k8 hdn e8
    have hddpl : dd ≠ pl := ne_none hdn (N7 (pl, o1) (by k_mem)).1
    have hddcl : dd ≠ cl := ne_none hdn (N7 (cl, o2) (by k_mem)).1
    clear F7 N7
    have hok' : ∀ f ∈ sortF fs, FileOk f := fun f hf => hok f ((sortF_perm fs).mem_iff.mp hf)
    have hsl : (sortF fs).length = fs.length := (sortF_perm fs).length_eq
    obtain ⟨hel, hel1⟩ := enc_len hok' (by omega)
    have hdl : dvs.length ≤ 1000 := by rw [hdI.length]; exact hel
    have hnd : (fs.map (·.1)).Nodup := by
      obtain ⟨_, _, _, _, _, _, hn⟩ := hod6
      rw [← hfs.keys]; exact hn
    obtain ⟨ps, hpar, hold⟩ := parse_enc hok' (sortF_asc hnd)
    (repeat' (first | (k_unfold; (try dsimp only)) | ((fail_if_success (with_reducible first | refine (?_ : Exists _) | show wpAny _ _ (exec (Stmt.While _ _ _ _) _) _ _ _ | show wpAny _ _ (exec (Stmt.For _ _ _ _ _) _) _ _ _ | show wpAny _ _ (execs (List.cons (Stmt.For _ _ _ _ _) _) _) _ _ _ | show wpAny _ _ (PySem.call (Value.ref _) _ _) _ _ _ | show wpAny _ _ (PySem.call (Value.type "range") _ _) _ _ _ | show wpAny _ _ (PySem.call (Value.builtin "list.append") _ _) _ _ _ | show wpAny _ _ (PySem.call (Value.builtin "len") _ _) _ _ _ | show wpAny _ _ (setItem (Value.ref _) (Value.str _ _) _) _ _ _ | show wpAny _ _ (exec (Stmt.Raise _ _ _) _) _ _ _ | show wpAny _ _ (compareOp Cmpop.NotIn _ _) _ _ _ | refine (?_ : LCg.CompSrc _ _ _ _ _ _ _ _ _ _ _ _ _ _) | show wpAny _ _ (eval (PySem.Expr.ListComp _ _ _) _) _ _ _ | show wpAny _ _ (compareOp Cmpop.In _ _) _ _ _ | show wpAny _ _ (delItem (Value.ref _) (Value.str _ _)) _ _ _ | show wpAny _ _ (PySem.call (Value.builtin "sorted") _ _) _ _ _ | show wpAny _ _ (compareOp CmpOp.NotEq (Value.ref _) (Value.ref _)) _ _ _ | show wpAny _ _ (subscriptTail _ _ (Value.ref _) (Value.int _ _)) _ _ _ | show wpAny _ _ (PySem.call (Value.builtin "list.pop") _ _) _ _ _ | show wpAny _ _ (compareOp CmpOp.Eq (Value.ref _) (Value.ref _)) _ _ _ | show wpAny _ _ (subscriptTail _ _ (Value.ref _) (Value.str _ _)) _ _ _)); walk1) | dsimp only | fail "no step"))
    rename Fr _ _ _ _ => F9
    rename News _ _ _ _ => N9
    rename_i ld lep h9 l9
    obtain ⟨l91, l92, l93, l94, l95⟩ := l9
    have hby := enc_bytes hok'
    refine amake_call G (C.now B F9).less (News.isList N9 (.head _)) hdI (by omega) hby ?_ ?_
    case refine_2 => intro e h10 tk10 q; rw [hpar] at q; cases q
    intro ar al ps' h10 tk10 q k10 hal hled
    rw [hpar] at q
    cases q
    dsimp only at k10 hled
    have F10 := fr_kp F9 k10
    obtain ⟨da, lo', pd', t1, t2, t3, har, had, hna⟩ := arled_two hal
    have hold9 : ∀ p ∈ al, ∀ q ∈ (ld, W.listOf dvs.toArray lep) :: (dd, W.listOf dvs.toArray dep) :: (fd, od) :: (pl, o1) :: (cl, o2) :: tl, p.1 ≠ q.1 := fun p hp q hq => fresh_ne (hled p hp).2 (N9 q hq).1
    have hapl : ∀ p ∈ al, p.1 ≠ pl ∧ p.1 ≠ cl := fun p hp => ⟨hold9 p hp (pl, o1) (by k_mem), hold9 p hp (cl, o2) (by k_mem)⟩
    have hald : ∀ p ∈ al, p.1 ≠ ld := fun p hp => hold9 p hp _ (.head _)
    obtain ⟨tl2, htl2⟩ : ∃ tl2, tl2 = al ++ tl := ⟨_, rfl⟩
    have hin : ∀ p ∈ al, p ∈ tl2 := fun p hp => htl2 ▸ List.mem_append_left _ hp
    have hin2 : ∀ p ∈ tl, p ∈ tl2 := fun p hp => htl2 ▸ List.mem_append_right _ hp
    have N10 := news_al F9 N9 k10 hled
    have N11 : News g L h10 ((ar, instObj 224 da) :: (da, arDict w t1 t2 t3 ld lo' pd') :: (ld, W.listOf dvs.toArray lep) :: (dd, W.listOf dvs.toArray dep) :: (fd, od) :: (pl, o1) :: (cl, o2) :: tl2) := by
      refine News.sub N10 fun p hp => ?_
      rcases List.mem_cons.mp hp with rfl | hp
      · exact List.mem_append_left _ har
      rcases List.mem_cons.mp hp with rfl | hp
      · exact List.mem_append_left _ had
      rcases List.mem_cons.mp hp with rfl | hp
      · exact List.mem_append_right _ (.head _)
      rcases List.mem_cons.mp hp with rfl | hp
      · exact List.mem_append_right _ (.tail _ (.head _))
      rcases List.mem_cons.mp hp with rfl | hp
      · exact List.mem_append_right _ (.tail _ (.tail _ (.head _)))
      rcases List.mem_cons.mp hp with rfl | hp
      · exact List.mem_append_right _ (.tail _ (.tail _ (.tail _ (.head _))))
      rcases List.mem_cons.mp hp with rfl | hp
      · exact List.mem_append_right _ (.tail _ (.tail _ (.tail _ (.tail _ (.head _)))))
      rw [htl2] at hp
      rcases List.mem_append.mp hp with hp | hp
      · exact List.mem_append_left _ hp
      · exact List.mem_append_right _ (.tail _ (.tail _ (.tail _ (.tail _ (.tail _ hp)))))
    clear F9 N9 N10
    (repeat' (first | (k_unfold; (try dsimp only)) | ((fail_if_success (with_reducible first | refine (?_ : Exists _) | show wpAny _ _ (exec (Stmt.While _ _ _ _) _) _ _ _ | show wpAny _ _ (exec (Stmt.For _ _ _ _ _) _) _ _ _ | show wpAny _ _ (execs (List.cons (Stmt.For _ _ _ _ _) _) _) _ _ _ | show wpAny _ _ (PySem.call (Value.ref _) _ _) _ _ _ | show wpAny _ _ (PySem.call (Value.type "range") _ _) _ _ _ | show wpAny _ _ (PySem.call (Value.builtin "list.append") _ _) _ _ _ | show wpAny _ _ (PySem.call (Value.builtin "len") _ _) _ _ _ | show wpAny _ _ (setItem (Value.ref _) (Value.str _ _) _) _ _ _ | show wpAny _ _ (exec (Stmt.Raise _ _ _) _) _ _ _ | show wpAny _ _ (compareOp Cmpop.NotIn _ _) _ _ _ | refine (?_ : LCg.CompSrc _ _ _ _ _ _ _ _ _ _ _ _ _ _) | show wpAny _ _ (eval (PySem.Expr.ListComp _ _ _) _) _ _ _ | show wpAny _ _ (compareOp Cmpop.In _ _) _ _ _ | show wpAny _ _ (delItem (Value.ref _) (Value.str _ _)) _ _ _ | show wpAny _ _ (PySem.call (Value.builtin "sorted") _ _) _ _ _ | show wpAny _ _ (compareOp CmpOp.NotEq (Value.ref _) (Value.ref _)) _ _ _ | show wpAny _ _ (subscriptTail _ _ (Value.ref _) (Value.int _ _)) _ _ _ | show wpAny _ _ (PySem.call (Value.builtin "list.pop") _ _) _ _ _ | show wpAny _ _ (compareOp CmpOp.Eq (Value.ref _) (Value.ref _)) _ _ _ | show wpAny _ _ (subscriptTail _ _ (Value.ref _) (Value.str _ _)) _ _ _)); walk1) | dsimp only | fail "no step"))
    rename Fr _ _ _ _ => F12
    rename News _ _ _ _ => N12
    have hpl : ps.length ≤ 8 := by
      have : ps.length = (sortF fs).length := by rw [← hold, oldFiles, List.length_map]
      omega
    refine names_call G (C.now B F12).less hal (Core.mk (C.now B F12) B (News.sub N12 fun p hp => .tail _ (.tail _ (.tail _ (.tail _ (.tail _ (.tail _ (.tail _ (hin p hp))))))))) (by omega) ?_
    intro nb lv nep h13 tk13 k13 hnb hlv e13
    dsimp only at k13 hnb
    have F13 := fr_kp F12 k13
    have N13 := News.made F12 N12 k13 hnb e13
    clear F12 N12
    (repeat' (first | (k_unfold; (try dsimp only)) | ((fail_if_success (with_reducible first | refine (?_ : Exists _) | show wpAny _ _ (exec (Stmt.While _ _ _ _) _) _ _ _ | show wpAny _ _ (exec (Stmt.For _ _ _ _ _) _) _ _ _ | show wpAny _ _ (execs (List.cons (Stmt.For _ _ _ _ _) _) _) _ _ _ | show wpAny _ _ (PySem.call (Value.ref _) _ _) _ _ _ | show wpAny _ _ (PySem.call (Value.type "range") _ _) _ _ _ | show wpAny _ _ (PySem.call (Value.builtin "list.append") _ _) _ _ _ | show wpAny _ _ (PySem.call (Value.builtin "len") _ _) _ _ _ | show wpAny _ _ (setItem (Value.ref _) (Value.str _ _) _) _ _ _ | show wpAny _ _ (exec (Stmt.Raise _ _ _) _) _ _ _ | show wpAny _ _ (compareOp Cmpop.NotIn _ _) _ _ _ | refine (?_ : LCg.CompSrc _ _ _ _ _ _ _ _ _ _ _ _ _ _) | show wpAny _ _ (eval (PySem.Expr.ListComp _ _ _) _) _ _ _ | show wpAny _ _ (compareOp Cmpop.In _ _) _ _ _ | show wpAny _ _ (delItem (Value.ref _) (Value.str _ _)) _ _ _ | show wpAny _ _ (PySem.call (Value.builtin "sorted") _ _) _ _ _ | show wpAny _ _ (compareOp CmpOp.NotEq (Value.ref _) (Value.ref _)) _ _ _ | show wpAny _ _ (subscriptTail _ _ (Value.ref _) (Value.int _ _)) _ _ _ | show wpAny _ _ (PySem.call (Value.builtin "list.pop") _ _) _ _ _ | show wpAny _ _ (compareOp CmpOp.Eq (Value.ref _) (Value.ref _)) _ _ _ | show wpAny _ _ (subscriptTail _ _ (Value.ref _) (Value.str _ _)) _ _ _)); walk1) | dsimp only | fail "no step"))
    have hkl : kvs.length = fs.length := by rw [← List.length_map (f := (·.1)), hfs.keys, List.length_map]
    refine sorted_dict (C.now B F13).calm F13 N13 (N13 (fd, od) (by k_mem)).1 hod6 hsm (by omega) ?_
    intro D2 h14 tk14 lv2 ss2 ep14 F14 N14 l14 hlv2 hpm2 has2
    have hss : ss2 = ps.map (·.1) := by
      rw [← oldFiles_keys (enc (sortF fs)) ps, hold]
      exact asc_uniq (hpm2.trans (by rw [hfs.keys]; exact ((sortF_perm fs).map _).symm)) has2 (sortF_asc hnd)
    subst hss
    have hso : ∀ x ∈ ps.map (·.1), PyData.strOk x = true := by
      rw [← oldFiles_keys (enc (sortF fs)) ps, hold]
      intro x hx
      obtain ⟨f, hf, rfl⟩ := List.mem_map.mp hx
      exact nameOk_str (hok' f hf).1
    clear F13 N13
    (repeat' (first | (k_unfold; (try dsimp only)) | ((fail_if_success (with_reducible first | refine (?_ : Exists _) | show wpAny _ _ (exec (Stmt.While _ _ _ _) _) _ _ _ | show wpAny _ _ (exec (Stmt.For _ _ _ _ _) _) _ _ _ | show wpAny _ _ (execs (List.cons (Stmt.For _ _ _ _ _) _) _) _ _ _ | show wpAny _ _ (PySem.call (Value.ref _) _ _) _ _ _ | show wpAny _ _ (PySem.call (Value.type "range") _ _) _ _ _ | show wpAny _ _ (PySem.call (Value.builtin "list.append") _ _) _ _ _ | show wpAny _ _ (PySem.call (Value.builtin "len") _ _) _ _ _ | show wpAny _ _ (setItem (Value.ref _) (Value.str _ _) _) _ _ _ | show wpAny _ _ (exec (Stmt.Raise _ _ _) _) _ _ _ | show wpAny _ _ (compareOp Cmpop.NotIn _ _) _ _ _ | refine (?_ : LCg.CompSrc _ _ _ _ _ _ _ _ _ _ _ _ _ _) | show wpAny _ _ (eval (PySem.Expr.ListComp _ _ _) _) _ _ _ | show wpAny _ _ (compareOp Cmpop.In _ _) _ _ _ | show wpAny _ _ (delItem (Value.ref _) (Value.str _ _)) _ _ _ | show wpAny _ _ (PySem.call (Value.builtin "sorted") _ _) _ _ _ | show wpAny _ _ (compareOp CmpOp.NotEq (Value.ref _) (Value.ref _)) _ _ _ | show wpAny _ _ (subscriptTail _ _ (Value.ref _) (Value.int _ _)) _ _ _ | show wpAny _ _ (PySem.call (Value.builtin "list.pop") _ _) _ _ _ | show wpAny _ _ (compareOp CmpOp.Eq (Value.ref _) (Value.ref _)) _ _ _ | show wpAny _ _ (subscriptTail _ _ (Value.ref _) (Value.str _ _)) _ _ _)); walk1) | dsimp only | fail "no step"))
    refine ne_strs (News.isList N14 (.tail _ (.head _))) hlv (News.isList N14 (.head _)) hlv2 hso hso (by have := C.units; rw [show cLine = 9900 from rfl]; omega) ?_
    rw [decide_eq_true rfl]
    (repeat' (first | (k_unfold; (try dsimp only)) | ((fail_if_success (with_reducible first | refine (?_ : Exists _) | show wpAny _ _ (exec (Stmt.While _ _ _ _) _) _ _ _ | show wpAny _ _ (exec (Stmt.For _ _ _ _ _) _) _ _ _ | show wpAny _ _ (execs (List.cons (Stmt.For _ _ _ _ _) _) _) _ _ _ | show wpAny _ _ (PySem.call (Value.ref _) _ _) _ _ _ | show wpAny _ _ (PySem.call (Value.type "range") _ _) _ _ _ | show wpAny _ _ (PySem.call (Value.builtin "list.append") _ _) _ _ _ | show wpAny _ _ (PySem.call (Value.builtin "len") _ _) _ _ _ | show wpAny _ _ (setItem (Value.ref _) (Value.str _ _) _) _ _ _ | show wpAny _ _ (exec (Stmt.Raise _ _ _) _) _ _ _ | show wpAny _ _ (compareOp Cmpop.NotIn _ _) _ _ _ | refine (?_ : LCg.CompSrc _ _ _ _ _ _ _ _ _ _ _ _ _ _) | show wpAny _ _ (eval (PySem.Expr.ListComp _ _ _) _) _ _ _ | show wpAny _ _ (compareOp Cmpop.In _ _) _ _ _ | show wpAny _ _ (delItem (Value.ref _) (Value.str _ _)) _ _ _ | show wpAny _ _ (PySem.call (Value.builtin "sorted") _ _) _ _ _ | show wpAny _ _ (compareOp CmpOp.NotEq (Value.ref _) (Value.ref _)) _ _ _ | show wpAny _ _ (subscriptTail _ _ (Value.ref _) (Value.int _ _)) _ _ _ | show wpAny _ _ (PySem.call (Value.builtin "list.pop") _ _) _ _ _ | show wpAny _ _ (compareOp CmpOp.Eq (Value.ref _) (Value.ref _)) _ _ _ | show wpAny _ _ (subscriptTail _ _ (Value.ref _) (Value.str _ _)) _ _ _)); walk1) | dsimp only | fail "no step"))
    rename_i tk15
    refine next h14 tk14 _ fs pl cl o1 o2 fd dd ar ld ((ld, W.listOf dvs.toArray lep) :: (dd, W.listOf dvs.toArray dep) :: (fd, od) :: tl2) ps al od kvs dvs dvs dep lep
      ⟨hod6, .tail _ (.tail _ (.head _)), hfs.mono fun a o h => .tail _ (.tail _ (.tail _ (hin2 _ h))), hok, hf5, hsm, .tail _ (.head _), hdI, .head _, hdI, hal, fun p hp => .tail _ (.tail _ (.tail _ (hin p hp))), hald, hpar, hold⟩ F14
      (by simp only [List.forall_mem_cons]; exact ⟨rfl, rfl, rfl, rfl, fun _ hq => absurd hq List.not_mem_nil⟩) ?_ hp6 hne ?_
    · refine News.sub N14 fun p hp => ?_
      refine .tail _ (.tail _ (.tail _ (.tail _ ?_)))
      rcases List.mem_cons.mp hp with rfl | hp
      · exact .tail _ (.tail _ (.tail _ (.head _)))
      rcases List.mem_cons.mp hp with rfl | hp
      · exact .tail _ (.tail _ (.tail _ (.tail _ (.head _))))
      rcases List.mem_cons.mp hp with rfl | hp
      · exact .head _
      rcases List.mem_cons.mp hp with rfl | hp
      · exact .tail _ (.head _)
      rcases List.mem_cons.mp hp with rfl | hp
      · exact .tail _ (.tail _ (.head _))
      · exact .tail _ (.tail _ (.tail _ (.tail _ (.tail _ hp))))
    · intro p hp
      rcases List.mem_cons.mp hp with rfl | hp
      · exact ⟨Nat.ne_of_gt l93, Nat.ne_of_gt l94⟩
      rcases List.mem_cons.mp hp with rfl | hp
      · exact ⟨hddpl, hddcl⟩
      rcases List.mem_cons.mp hp with rfl | hp
      · exact ⟨hfp, hfc⟩
      rw [htl2] at hp
      rcases List.mem_append.mp hp with hp | hp
      · exact hapl p hp
      · exact htp p hp
  · refine box fun PP kk => kk ([]) ([]) od o3 o4 ([]) _ _ _ rfl F5 (by simp only [List.forall_mem_cons]; exact ⟨rfl, rfl, fun _ hq => absurd hq List.not_mem_nil⟩) ?_ hp4 hod .nil (fun _ hq => absurd hq List.not_mem_nil) (Nat.le_refl _) (fun _ hq => absurd hq List.not_mem_nil) (fun _ hq => absurd hq List.not_mem_nil) (fun _ hq => absurd hq List.not_mem_nil)
    rw [show ((v.toNat : Int) - ((0 : Nat) : Int)) = v by omega]
    exact N5
end

section
open PySem PySem.W PyProof.Rows PySem.Calls



variable {w : World} {mean : ExcName → Option Value} {mg mb : Str → Option Value} {base : Heap} {A : Around} {l : List Env} {s : Shared}


theorem look_old (ns : List Int) (x : Str) : ∀ ps : List (Str × Int × Int), look (oldFiles ns ps) x = (look ps x).map fun p => (ns.drop p.1.toNat).take (p.2 - p.1).toNat
  | [] => rfl
  | (y, a, b) :: r => by
    unfold oldFiles
    rw [List.map_cons, look_cons, look_cons]
    split
    · rfl
    · exact look_old ns x r
theorem look_perm {α : Type} {fs fs' : List (Str × α)} (hp : fs'.Perm fs) (hn : (fs.map (·.1)).Nodup) (x : Str) : look fs' x = look fs x := by
  have hn' : (fs'.map (·.1)).Nodup := (hp.map _).nodup_iff.mpr hn
  cases q : look fs x with
  | some c => exact look_mem hn' (hp.mem_iff.mpr (look_in q))
  | none =>
    cases q' : look fs' x with
    | none => rfl
    | some c =>
      have := look_mem hn (hp.mem_iff.mp (look_in q'))
      rw [q] at this; cases this
theorem LawSt.nodup {fs : Files} {fd dd ar ld : Addr} {tl : List (Addr × Obj)} {ps : List (Str × Int × Int)} {al : List (Addr × Obj)} {od : Obj} {kvs : List (Str × Value)} {dvs lvs : List Value} {dep lep : Nat} (S : LawSt w fs fd dd ar ld tl ps al od kvs dvs lvs dep lep) : (fs.map (·.1)).Nodup := by
  obtain ⟨_, _, _, _, _, _, hn⟩ := S.dict
  rw [← S.files.keys]; exact hn
theorem LawSt.look {fs : Files} {fd dd ar ld : Addr} {tl : List (Addr × Obj)} {ps : List (Str × Int × Int)} {al : List (Addr × Obj)} {od : Obj} {kvs : List (Str × Value)} {dvs lvs : List Value} {dep lep : Nat} (S : LawSt w fs fd dd ar ld tl ps al od kvs dvs lvs dep lep) (x : Str) :
    Mine.look fs x = (Mine.look ps x).map fun p => ((enc (sortF fs)).drop p.1.toNat).take (p.2 - p.1).toNat := by
  rw [← look_old, S.old]
  exact (look_perm (sortF_perm fs) S.nodup x).symm

abbrev seven : List Str := ["b", "a", "ab", "", "Z", "q.smb", "no"]
theorem law2 {n : Nat} {L a : Addr} {g : Heap} {name qual : Str} {params : Arguments} {body : List Stmt} {scope : Scope} {dV kV doc pm cdv cdv' ct oc : Value} {an odd : Option Addr} {osl : Array (Option Value)} {Q : Flow → Shared → Prop} {E : Value → Shared → Prop}
    {m : Str → Option Value} {fs : Files} {pl cl : Addr} {o1 o2 : Obj} {fd dd ar ld : Addr} {tl : List (Addr × Obj)} {ps : List (Str × Int × Int)} {al : List (Addr × Obj)} {od : Obj} {kvs : List (Str × Value)} {dvs lvs : List Value} {dep lep : Nat}
    (G : Gr w mean mg mb base) (ho : (hd.heap_1 w.params).lookup 259 = some ⟨oc, odd, .func (fnOf name qual params body scope dV kV doc pm an cdv ct), osl⟩)
    (C : At base (A.deeper (envOf qual scope L a cdv')) (envOf qual scope L a cdv' :: l) 20 s.heap) (B : Below A base l g) (X : (hd.heap_1 w.params).In g) (TT : Top hd.view_1 (looseW hd.view_1 []) mean mg mb g)
    (S : LawSt w fs fd dd ar ld tl ps al od kvs dvs lvs dep lep) (F : Fr g L s.heap m) (hm : ∀ z ∈ [(Str.ofString "pool", Value.ref pl), (Str.ofString "files", Value.ref fd), (Str.ofString "data", Value.ref dd), (Str.ofString "told", Value.ref ar)], m z.1 = some z.2)
    (N : News g L s.heap ((pl, o1) :: (cl, o2) :: tl))
    (next : ∀ h' tk m', Fr g L h' m' → (∀ z ∈ [(Str.ofString "pool", Value.ref pl), (Str.ofString "files", Value.ref fd), (Str.ofString "data", Value.ref dd), (Str.ofString "told", Value.ref ar)], m' z.1 = some z.2) →
      News g L h' ((pl, o1) :: (cl, o2) :: tl) →
      wpAny (model PR w) (A.deeper (envOf qual scope L a cdv')) (execs (body.drop 7) (envOf qual scope L a cdv')) Q E { s with heap := h', toks := tk }) :
    wpAny (model PR w) (A.deeper (envOf qual scope L a cdv')) (execs (body.drop 6) (envOf qual scope L a cdv')) Q E s := by
  obtain ⟨rfl, rfl, rfl⟩ := fn_inj (same_obj ho (by k_is))
  have F0 := Fr.known F hm
  obtain ⟨da, lo', pd', t1, t2, t3, har, had, hna⟩ := arled_two S.led
  have N0 : News g L s.heap ((ar, instObj 224 da) :: (da, arDict w t1 t2 t3 ld lo' pd') :: (fd, od) :: (pl, o1) :: (cl, o2) :: tl) := by
    refine News.sub N fun p hp => ?_
    rcases List.mem_cons.mp hp with rfl | hp
    · exact .tail _ (.tail _ (S.sub _ har))
    rcases List.mem_cons.mp hp with rfl | hp
    · exact .tail _ (.tail _ (S.sub _ had))
    rcases List.mem_cons.mp hp with rfl | hp
    · exact .tail _ (.tail _ S.fdm)
    · exact hp
  clear F N
  dsimp only [List.drop]
  refine (?_ : wpAny (model PR w) _ _ _ _ _)
  refine wpAny_execs_cons ?_
  refine wpAny_For ?_
  (repeat' (first | (k_unfold; (try dsimp only)) | ((fail_if_success (with_reducible first | refine (?_ : Exists _) | show wpAny _ _ (exec (Stmt.While _ _ _ _) _) _ _ _ | show wpAny _ _ (exec (Stmt.For _ _ _ _ _) _) _ _ _ | show wpAny _ _ (execs (List.cons (Stmt.For _ _ _ _ _) _) _) _ _ _ | show wpAny _ _ (PySem.call (Value.ref _) _ _) _ _ _ | show wpAny _ _ (PySem.call (Value.type "range") _ _) _ _ _ | show wpAny _ _ (PySem.call (Value.builtin "list.append") _ _) _ _ _ | show wpAny _ _ (PySem.call (Value.builtin "len") _ _) _ _ _ | show wpAny _ _ (setItem (Value.ref _) (Value.str _ _) _) _ _ _ | show wpAny _ _ (exec (Stmt.Raise _ _ _) _) _ _ _ | show wpAny _ _ (compareOp Cmpop.NotIn _ _) _ _ _ | refine (?_ : LCg.CompSrc _ _ _ _ _ _ _ _ _ _ _ _ _ _) | show wpAny _ _ (eval (PySem.Expr.ListComp _ _ _) _) _ _ _ | show wpAny _ _ (compareOp Cmpop.In _ _) _ _ _ | show wpAny _ _ (delItem (Value.ref _) (Value.str _ _)) _ _ _ | show wpAny _ _ (PySem.call (Value.builtin "sorted") _ _) _ _ _ | show wpAny _ _ (PySem.call (Value.builtin "dict.get") _ _) _ _ _ | show wpAny _ _ (compareOp CmpOp.NotEq (Value.ref _) (Value.ref _)) _ _ _ | show wpAny _ _ (subscriptTail _ _ (Value.ref _) (Value.int _ _)) _ _ _ | show wpAny _ _ (PySem.call (Value.builtin "list.pop") _ _) _ _ _ | show wpAny _ _ (compareOp CmpOp.Eq (Value.ref _) (Value.ref _)) _ _ _ | show wpAny _ _ (subscriptTail _ _ (Value.ref _) (Value.str _ _)) _ _ _)); walk1) | dsimp only | fail "no step"))
  rename Fr _ _ _ _ => F1
  rename News _ _ _ _ => N1
  rename_i T h1 l1
  clear l1
  obtain ⟨items, hS, N2⟩ : ∃ items, StrsAre items seven ∧ News g L h1 ((T, W.listOf items.toArray 0) :: (ar, instObj 224 da) :: (da, arDict w t1 t2 t3 ld lo' pd') :: (fd, od) :: (pl, o1) :: (cl, o2) :: tl) :=
    ⟨_, .cons _ _ (.cons _ _ (.cons _ _ (.cons _ _ (.cons _ _ (.cons _ _ (.cons _ _ .nil)))))), N1⟩
  clear N1
  refine list_iter (News.isList N2 (.head _)) ?_
  intro I h3 k3 hI3 e3
  dsimp only at hI3 k3
  have hIn : h1.get? I = none := none_of_le hI3
  have F3 := fr_kp F1 k3
  have N3 := News.made F1 N2 k3 hIn e3
  obtain ⟨hIL, hIg⟩ := fr_new F1 hIn
  have hIne : ∀ p ∈ (T, W.listOf items.toArray 0) :: (ar, instObj 224 da) :: (da, arDict w t1 t2 t3 ld lo' pd') :: (fd, od) :: (pl, o1) :: (cl, o2) :: tl, p.1 ≠ I := fun p hp => (ne_none hIn (N2 p hp).1).symm
  clear F1 N2
  have hkl : kvs.length ≤ 5 := by
    have : kvs.length = fs.length := by rw [← List.length_map (f := (·.1)), S.files.keys, List.length_map]
    have := S.few
    omega
  refine loop_list (ll := T) (items := items) (C.now B F3).calm (fun (k : Nat) (s' : Shared) => Box (∀ PP : Prop, (∀ (tk'' : Tok) (m : Str → Option Value) (h'' : Heap) (o : Obj), s' = { s with heap := h'', toks := tk'' } → Fr g L h'' m → (∀ z ∈ [(Str.ofString "pool", Value.ref pl), (Str.ofString "files", Value.ref fd), (Str.ofString "data", Value.ref dd), (Str.ofString "told", Value.ref ar)], m z.1 = some z.2) → News g L h'' ((I, o) :: (T, W.listOf items.toArray 0) :: (ar, instObj 224 da) :: (da, arDict w t1 t2 t3 ld lo' pd') :: (fd, od) :: (pl, o1) :: (cl, o2) :: tl) → o.cls = .type "list_iterator" → o.data = .fields #[.ref T, .int k 0] → PP) → PP)) ?_ ?_ ?_ ?_
  · rintro k s' xx
    refine unbox xx _ fun tk'' m h'' o es F7 hm N7 ho1 ho2 => ?_
    subst es
    exact ⟨⟨o, (N7 _ (.head _)).1, ho1, ho2⟩, News.isList N7 (.tail _ (.head _))⟩
  · rintro k s' h7 v hv xx ⟨o', ho', hc', hd'⟩ hs7
    refine unbox xx _ fun tk'' m h'' o es F7 hm N7 ho1 ho2 => ?_
    subst es
    obtain ⟨x, tx, hx, rfl⟩ := strs_get hS hv
    have K7 := same_kp hs7
    have F8 := Fr.known (K7.fr F7 (by simpa using hIL.symm) (by simpa using hIg)) hm
    have N8 := News.cons ho' hIL hIg (K7.news (News.tail N7) (fun p hp => by simpa using hIne p hp))
    clear F7 N7 F3 N3
    have hlx := S.look x
    have hok' : ∀ f ∈ sortF fs, FileOk f := fun f hf => S.ok f ((sortF_perm fs).mem_iff.mp hf)
    obtain ⟨hel, hel1⟩ := enc_len hok' (by have := (sortF_perm fs).length_eq; have := S.few; omega)
    have hul := C.units
    have hcl9 : cLine = 9900 := rfl
    have hod := S.dict
    have hsm := S.sm
    dsimp only
    refine (?_ : wpAny (model PR w) _ _ _ _ _)
    (repeat' (first | (k_unfold; (try dsimp only)) | ((fail_if_success (with_reducible first | refine (?_ : Exists _) | show wpAny _ _ (exec (Stmt.While _ _ _ _) _) _ _ _ | show wpAny _ _ (exec (Stmt.For _ _ _ _ _) _) _ _ _ | show wpAny _ _ (execs (List.cons (Stmt.For _ _ _ _ _) _) _) _ _ _ | show wpAny _ _ (PySem.call (Value.ref _) _ _) _ _ _ | show wpAny _ _ (PySem.call (Value.type "range") _ _) _ _ _ | show wpAny _ _ (PySem.call (Value.builtin "list.append") _ _) _ _ _ | show wpAny _ _ (PySem.call (Value.builtin "len") _ _) _ _ _ | show wpAny _ _ (setItem (Value.ref _) (Value.str _ _) _) _ _ _ | show wpAny _ _ (exec (Stmt.Raise _ _ _) _) _ _ _ | show wpAny _ _ (compareOp Cmpop.NotIn _ _) _ _ _ | refine (?_ : LCg.CompSrc _ _ _ _ _ _ _ _ _ _ _ _ _ _) | show wpAny _ _ (eval (PySem.Expr.ListComp _ _ _) _) _ _ _ | show wpAny _ _ (compareOp Cmpop.In _ _) _ _ _ | show wpAny _ _ (delItem (Value.ref _) (Value.str _ _)) _ _ _ | show wpAny _ _ (PySem.call (Value.builtin "sorted") _ _) _ _ _ | show wpAny _ _ (PySem.call (Value.builtin "dict.get") _ _) _ _ _ | show wpAny _ _ (compareOp CmpOp.NotEq (Value.ref _) (Value.ref _)) _ _ _ | show wpAny _ _ (subscriptTail _ _ (Value.ref _) (Value.int _ _)) _ _ _ | show wpAny _ _ (PySem.call (Value.builtin "list.pop") _ _) _ _ _ | show wpAny _ _ (compareOp CmpOp.Eq (Value.ref _) (Value.ref _)) _ _ _ | show wpAny _ _ (subscriptTail _ _ (Value.ref _) (Value.str _ _)) _ _ _)); walk1) | dsimp only | fail "no step"))
    rename Fr _ _ _ _ => F9
    rename News _ _ _ _ => N9
    refine kdg_get1 N9 (by k_mem) hod hsm (strKind_is _ _ _ _) (valueAt kvs x) rfl ?_
    cases hlk : look fs x with
    | none =>
      rw [S.files.look_none hlk]
      have hpn : look ps x = none := by
        rw [hlk] at hlx
        exact (Option.map_eq_none_iff.mp hlx.symm)
      dsimp only [Option.getD]
      (repeat' (first | (k_unfold; (try dsimp only)) | ((fail_if_success (with_reducible first | refine (?_ : Exists _) | show wpAny _ _ (exec (Stmt.While _ _ _ _) _) _ _ _ | show wpAny _ _ (exec (Stmt.For _ _ _ _ _) _) _ _ _ | show wpAny _ _ (execs (List.cons (Stmt.For _ _ _ _ _) _) _) _ _ _ | show wpAny _ _ (PySem.call (Value.ref _) _ _) _ _ _ | show wpAny _ _ (PySem.call (Value.type "range") _ _) _ _ _ | show wpAny _ _ (PySem.call (Value.builtin "list.append") _ _) _ _ _ | show wpAny _ _ (PySem.call (Value.builtin "len") _ _) _ _ _ | show wpAny _ _ (setItem (Value.ref _) (Value.str _ _) _) _ _ _ | show wpAny _ _ (exec (Stmt.Raise _ _ _) _) _ _ _ | show wpAny _ _ (compareOp Cmpop.NotIn _ _) _ _ _ | refine (?_ : LCg.CompSrc _ _ _ _ _ _ _ _ _ _ _ _ _ _) | show wpAny _ _ (eval (PySem.Expr.ListComp _ _ _) _) _ _ _ | show wpAny _ _ (compareOp Cmpop.In _ _) _ _ _ | show wpAny _ _ (delItem (Value.ref _) (Value.str _ _)) _ _ _ | show wpAny _ _ (PySem.call (Value.builtin "sorted") _ _) _ _ _ | show wpAny _ _ (PySem.call (Value.builtin "dict.get") _ _) _ _ _ | show wpAny _ _ (compareOp CmpOp.NotEq (Value.ref _) (Value.ref _)) _ _ _ | show wpAny _ _ (subscriptTail _ _ (Value.ref _) (Value.int _ _)) _ _ _ | show wpAny _ _ (PySem.call (Value.builtin "list.pop") _ _) _ _ _ | show wpAny _ _ (compareOp CmpOp.Eq (Value.ref _) (Value.ref _)) _ _ _ | show wpAny _ _ (subscriptTail _ _ (Value.ref _) (Value.str _ _)) _ _ _)); walk1) | dsimp only | fail "no step"))
      rename Fr _ _ _ _ => F10
      rename News _ _ _ _ => N10
      refine read_call G (C.now B F10).less S.led (Core.mk (C.now B F10) B (News.sub N10 fun p hp => .tail _ (.tail _ (.tail _ (.tail _ (.tail _ (.tail _ (.tail _ (S.sub p hp))))))))) (News.isList N10 (.tail _ (.tail _ (.tail _ (.tail _ (.tail _ (.tail _ (.tail _ S.ldm)))))))) S.apart S.lints (by omega) (fun a b q => parse_look S.par q) ?_ (fun _ _ q => by rw [hpn] at q; cases q)
      intro _ h11 tk11 k11
      dsimp only at k11
      have F11 := fr_kp F10 k11
      have N11 := k11.news N10 (by simp)
      clear F10 N10
      (repeat' (first | (k_unfold; (try dsimp only)) | ((fail_if_success (with_reducible first | refine (?_ : Exists _) | show wpAny _ _ (exec (Stmt.While _ _ _ _) _) _ _ _ | show wpAny _ _ (exec (Stmt.For _ _ _ _ _) _) _ _ _ | show wpAny _ _ (execs (List.cons (Stmt.For _ _ _ _ _) _) _) _ _ _ | show wpAny _ _ (PySem.call (Value.ref _) _ _) _ _ _ | show wpAny _ _ (PySem.call (Value.type "range") _ _) _ _ _ | show wpAny _ _ (PySem.call (Value.builtin "list.append") _ _) _ _ _ | show wpAny _ _ (PySem.call (Value.builtin "len") _ _) _ _ _ | show wpAny _ _ (setItem (Value.ref _) (Value.str _ _) _) _ _ _ | show wpAny _ _ (exec (Stmt.Raise _ _ _) _) _ _ _ | show wpAny _ _ (compareOp Cmpop.NotIn _ _) _ _ _ | refine (?_ : LCg.CompSrc _ _ _ _ _ _ _ _ _ _ _ _ _ _) | show wpAny _ _ (eval (PySem.Expr.ListComp _ _ _) _) _ _ _ | show wpAny _ _ (compareOp Cmpop.In _ _) _ _ _ | show wpAny _ _ (delItem (Value.ref _) (Value.str _ _)) _ _ _ | show wpAny _ _ (PySem.call (Value.builtin "sorted") _ _) _ _ _ | show wpAny _ _ (PySem.call (Value.builtin "dict.get") _ _) _ _ _ | show wpAny _ _ (compareOp CmpOp.NotEq (Value.ref _) (Value.ref _)) _ _ _ | show wpAny _ _ (subscriptTail _ _ (Value.ref _) (Value.int _ _)) _ _ _ | show wpAny _ _ (PySem.call (Value.builtin "list.pop") _ _) _ _ _ | show wpAny _ _ (compareOp CmpOp.Eq (Value.ref _) (Value.ref _)) _ _ _ | show wpAny _ _ (subscriptTail _ _ (Value.ref _) (Value.str _ _)) _ _ _)); walk1) | dsimp only | fail "no step"))
      refine size_call G (C.now B F11).less S.led (Core.mk (C.now B F11) B (News.sub N11 fun p hp => .tail _ (.tail _ (.tail _ (.tail _ (.tail _ (.tail _ (.tail _ (S.sub p hp))))))))) ?_
      intro h12 tk12 t12 k12
      rw [hpn]
      dsimp only at k12 ⊢
      have F12 := fr_kp F11 k12
      have N12 := k12.news N11 (by simp)
      clear F11 N11
      (repeat' (first | (k_unfold; (try dsimp only)) | ((fail_if_success (with_reducible first | refine (?_ : Exists _) | show wpAny _ _ (exec (Stmt.While _ _ _ _) _) _ _ _ | show wpAny _ _ (exec (Stmt.For _ _ _ _ _) _) _ _ _ | show wpAny _ _ (execs (List.cons (Stmt.For _ _ _ _ _) _) _) _ _ _ | show wpAny _ _ (PySem.call (Value.ref _) _ _) _ _ _ | show wpAny _ _ (PySem.call (Value.type "range") _ _) _ _ _ | show wpAny _ _ (PySem.call (Value.builtin "list.append") _ _) _ _ _ | show wpAny _ _ (PySem.call (Value.builtin "len") _ _) _ _ _ | show wpAny _ _ (setItem (Value.ref _) (Value.str _ _) _) _ _ _ | show wpAny _ _ (exec (Stmt.Raise _ _ _) _) _ _ _ | show wpAny _ _ (compareOp Cmpop.NotIn _ _) _ _ _ | refine (?_ : LCg.CompSrc _ _ _ _ _ _ _ _ _ _ _ _ _ _) | show wpAny _ _ (eval (PySem.Expr.ListComp _ _ _) _) _ _ _ | show wpAny _ _ (compareOp Cmpop.In _ _) _ _ _ | show wpAny _ _ (delItem (Value.ref _) (Value.str _ _)) _ _ _ | show wpAny _ _ (PySem.call (Value.builtin "sorted") _ _) _ _ _ | show wpAny _ _ (PySem.call (Value.builtin "dict.get") _ _) _ _ _ | show wpAny _ _ (compareOp CmpOp.NotEq (Value.ref _) (Value.ref _)) _ _ _ | show wpAny _ _ (subscriptTail _ _ (Value.ref _) (Value.int _ _)) _ _ _ | show wpAny _ _ (PySem.call (Value.builtin "list.pop") _ _) _ _ _ | show wpAny _ _ (compareOp CmpOp.Eq (Value.ref _) (Value.ref _)) _ _ _ | show wpAny _ _ (subscriptTail _ _ (Value.ref _) (Value.str _ _)) _ _ _)); walk1) | dsimp only | fail "no step"))
      exact box fun PP kk => kk _ _ _ o' rfl F12 (by simp only [List.forall_mem_cons]; exact ⟨rfl, rfl, rfl, rfl, fun _ hq => absurd hq List.not_mem_nil⟩) N12 hc' hd'
    | some c =>
      obtain ⟨ca, cvs, cep, hcv, hcm, hcI⟩ := S.files.look hlk
      rw [hcv]
      obtain ⟨⟨b0, b1⟩, hpn, hsl⟩ : ∃ p, look ps x = some p ∧ ((enc (sortF fs)).drop p.1.toNat).take (p.2 - p.1).toNat = c := by
        rw [hlk] at hlx
        exact (Option.map_eq_some_iff.mp hlx.symm)
      dsimp only [Option.getD] at hsl ⊢
      have hcn : c.length ≤ 8 := Nat.le_trans (S.ok _ (look_in hlk)).2.2.1 (by decide)
      (repeat' (first | (k_unfold; (try dsimp only)) | ((fail_if_success (with_reducible first | refine (?_ : Exists _) | show wpAny _ _ (exec (Stmt.While _ _ _ _) _) _ _ _ | show wpAny _ _ (exec (Stmt.For _ _ _ _ _) _) _ _ _ | show wpAny _ _ (execs (List.cons (Stmt.For _ _ _ _ _) _) _) _ _ _ | show wpAny _ _ (PySem.call (Value.ref _) _ _) _ _ _ | show wpAny _ _ (PySem.call (Value.type "range") _ _) _ _ _ | show wpAny _ _ (PySem.call (Value.builtin "list.append") _ _) _ _ _ | show wpAny _ _ (PySem.call (Value.builtin "len") _ _) _ _ _ | show wpAny _ _ (setItem (Value.ref _) (Value.str _ _) _) _ _ _ | show wpAny _ _ (exec (Stmt.Raise _ _ _) _) _ _ _ | show wpAny _ _ (compareOp Cmpop.NotIn _ _) _ _ _ | refine (?_ : LCg.CompSrc _ _ _ _ _ _ _ _ _ _ _ _ _ _) | show wpAny _ _ (eval (PySem.Expr.ListComp _ _ _) _) _ _ _ | show wpAny _ _ (compareOp Cmpop.In _ _) _ _ _ | show wpAny _ _ (delItem (Value.ref _) (Value.str _ _)) _ _ _ | show wpAny _ _ (PySem.call (Value.builtin "sorted") _ _) _ _ _ | show wpAny _ _ (PySem.call (Value.builtin "dict.get") _ _) _ _ _ | show wpAny _ _ (compareOp CmpOp.NotEq (Value.ref _) (Value.ref _)) _ _ _ | show wpAny _ _ (subscriptTail _ _ (Value.ref _) (Value.int _ _)) _ _ _ | show wpAny _ _ (PySem.call (Value.builtin "list.pop") _ _) _ _ _ | show wpAny _ _ (compareOp CmpOp.Eq (Value.ref _) (Value.ref _)) _ _ _ | show wpAny _ _ (subscriptTail _ _ (Value.ref _) (Value.str _ _)) _ _ _)); walk1) | dsimp only | fail "no step"))
      rename Fr _ _ _ _ => F10
      rename News _ _ _ _ => N10
      refine read_call G (C.now B F10).less S.led (Core.mk (C.now B F10) B (News.sub N10 fun p hp => .tail _ (.tail _ (.tail _ (.tail _ (.tail _ (.tail _ (.tail _ (S.sub p hp))))))))) (News.isList N10 (.tail _ (.tail _ (.tail _ (.tail _ (.tail _ (.tail _ (.tail _ S.ldm)))))))) S.apart S.lints (by omega) (fun a b q => parse_look S.par q) (fun q => by rw [hpn] at q; cases q) ?_
      intro b0' b1' q d dvs' dep' h11 tk11 k11 hdn hdI e11
      rw [hpn] at q
      cases q
      dsimp only at k11 hdn
      have F11 := fr_kp F10 k11
      have N11 := News.made F10 N10 k11 hdn e11
      have hbb := parse_look S.par hpn
      have hlen : b1 - b0 = (c.length : Int) := by
        rw [← hsl, List.length_take, List.length_drop]; omega
      rw [hsl] at hdI
      clear F10 N10
      (repeat' (first | (k_unfold; (try dsimp only)) | ((fail_if_success (with_reducible first | refine (?_ : Exists _) | show wpAny _ _ (exec (Stmt.While _ _ _ _) _) _ _ _ | show wpAny _ _ (exec (Stmt.For _ _ _ _ _) _) _ _ _ | show wpAny _ _ (execs (List.cons (Stmt.For _ _ _ _ _) _) _) _ _ _ | show wpAny _ _ (PySem.call (Value.ref _) _ _) _ _ _ | show wpAny _ _ (PySem.call (Value.type "range") _ _) _ _ _ | show wpAny _ _ (PySem.call (Value.builtin "list.append") _ _) _ _ _ | show wpAny _ _ (PySem.call (Value.builtin "len") _ _) _ _ _ | show wpAny _ _ (setItem (Value.ref _) (Value.str _ _) _) _ _ _ | show wpAny _ _ (exec (Stmt.Raise _ _ _) _) _ _ _ | show wpAny _ _ (compareOp Cmpop.NotIn _ _) _ _ _ | refine (?_ : LCg.CompSrc _ _ _ _ _ _ _ _ _ _ _ _ _ _) | show wpAny _ _ (eval (PySem.Expr.ListComp _ _ _) _) _ _ _ | show wpAny _ _ (compareOp Cmpop.In _ _) _ _ _ | show wpAny _ _ (delItem (Value.ref _) (Value.str _ _)) _ _ _ | show wpAny _ _ (PySem.call (Value.builtin "sorted") _ _) _ _ _ | show wpAny _ _ (PySem.call (Value.builtin "dict.get") _ _) _ _ _ | show wpAny _ _ (compareOp CmpOp.NotEq (Value.ref _) (Value.ref _)) _ _ _ | show wpAny _ _ (subscriptTail _ _ (Value.ref _) (Value.int _ _)) _ _ _ | show wpAny _ _ (PySem.call (Value.builtin "list.pop") _ _) _ _ _ | show wpAny _ _ (compareOp CmpOp.Eq (Value.ref _) (Value.ref _)) _ _ _ | show wpAny _ _ (subscriptTail _ _ (Value.ref _) (Value.str _ _)) _ _ _)); walk1) | dsimp only | fail "no step"))
      refine ne_intsK (News.isList N11 (.head _)) hdI (News.isList N11 (.tail _ (.tail _ (.tail _ (.tail _ (.tail _ (.tail _ (.tail _ (.tail _ hcm))))))))) hcI (by omega) ?_
      rw [decide_eq_true rfl]
      (repeat' (first | (k_unfold; (try dsimp only)) | ((fail_if_success (with_reducible first | refine (?_ : Exists _) | show wpAny _ _ (exec (Stmt.While _ _ _ _) _) _ _ _ | show wpAny _ _ (exec (Stmt.For _ _ _ _ _) _) _ _ _ | show wpAny _ _ (execs (List.cons (Stmt.For _ _ _ _ _) _) _) _ _ _ | show wpAny _ _ (PySem.call (Value.ref _) _ _) _ _ _ | show wpAny _ _ (PySem.call (Value.type "range") _ _) _ _ _ | show wpAny _ _ (PySem.call (Value.builtin "list.append") _ _) _ _ _ | show wpAny _ _ (PySem.call (Value.builtin "len") _ _) _ _ _ | show wpAny _ _ (setItem (Value.ref _) (Value.str _ _) _) _ _ _ | show wpAny _ _ (exec (Stmt.Raise _ _ _) _) _ _ _ | show wpAny _ _ (compareOp Cmpop.NotIn _ _) _ _ _ | refine (?_ : LCg.CompSrc _ _ _ _ _ _ _ _ _ _ _ _ _ _) | show wpAny _ _ (eval (PySem.Expr.ListComp _ _ _) _) _ _ _ | show wpAny _ _ (compareOp Cmpop.In _ _) _ _ _ | show wpAny _ _ (delItem (Value.ref _) (Value.str _ _)) _ _ _ | show wpAny _ _ (PySem.call (Value.builtin "sorted") _ _) _ _ _ | show wpAny _ _ (PySem.call (Value.builtin "dict.get") _ _) _ _ _ | show wpAny _ _ (compareOp CmpOp.NotEq (Value.ref _) (Value.ref _)) _ _ _ | show wpAny _ _ (subscriptTail _ _ (Value.ref _) (Value.int _ _)) _ _ _ | show wpAny _ _ (PySem.call (Value.builtin "list.pop") _ _) _ _ _ | show wpAny _ _ (compareOp CmpOp.Eq (Value.ref _) (Value.ref _)) _ _ _ | show wpAny _ _ (subscriptTail _ _ (Value.ref _) (Value.str _ _)) _ _ _)); walk1) | dsimp only | fail "no step"))
      refine size_call G (C.now B F11).less S.led (Core.mk (C.now B F11) B (News.sub N11 fun p hp => .tail _ (.tail _ (.tail _ (.tail _ (.tail _ (.tail _ (.tail _ (.tail _ (S.sub p hp)))))))))) ?_
      intro h12 tk12 t12 k12
      rw [hpn]
      dsimp only at k12 ⊢
      have F12 := fr_kp F11 k12
      have N12 := k12.news N11 (by simp)
      clear F11 N11
      (repeat' (first | (k_unfold; (try dsimp only)) | ((fail_if_success (with_reducible first | refine (?_ : Exists _) | show wpAny _ _ (exec (Stmt.While _ _ _ _) _) _ _ _ | show wpAny _ _ (exec (Stmt.For _ _ _ _ _) _) _ _ _ | show wpAny _ _ (execs (List.cons (Stmt.For _ _ _ _ _) _) _) _ _ _ | show wpAny _ _ (PySem.call (Value.ref _) _ _) _ _ _ | show wpAny _ _ (PySem.call (Value.type "range") _ _) _ _ _ | show wpAny _ _ (PySem.call (Value.builtin "list.append") _ _) _ _ _ | show wpAny _ _ (PySem.call (Value.builtin "len") _ _) _ _ _ | show wpAny _ _ (setItem (Value.ref _) (Value.str _ _) _) _ _ _ | show wpAny _ _ (exec (Stmt.Raise _ _ _) _) _ _ _ | show wpAny _ _ (compareOp Cmpop.NotIn _ _) _ _ _ | refine (?_ : LCg.CompSrc _ _ _ _ _ _ _ _ _ _ _ _ _ _) | show wpAny _ _ (eval (PySem.Expr.ListComp _ _ _) _) _ _ _ | show wpAny _ _ (compareOp Cmpop.In _ _) _ _ _ | show wpAny _ _ (delItem (Value.ref _) (Value.str _ _)) _ _ _ | show wpAny _ _ (PySem.call (Value.builtin "sorted") _ _) _ _ _ | show wpAny _ _ (PySem.call (Value.builtin "dict.get") _ _) _ _ _ | show wpAny _ _ (compareOp CmpOp.NotEq (Value.ref _) (Value.ref _)) _ _ _ | show wpAny _ _ (subscriptTail _ _ (Value.ref _) (Value.int _ _)) _ _ _ | show wpAny _ _ (PySem.call (Value.builtin "list.pop") _ _) _ _ _ | show wpAny _ _ (compareOp CmpOp.Eq (Value.ref _) (Value.ref _)) _ _ _ | show wpAny _ _ (subscriptTail _ _ (Value.ref _) (Value.str _ _)) _ _ _)); walk1) | dsimp only | fail "no step"))
      refine len_of (News.isList N12 (.tail _ (.tail _ (.tail _ (.tail _ (.tail _ (.tail _ (.tail _ (.tail _ hcm))))))))) hcI.length (by omega) ?_
      (repeat' (first | (k_unfold; (try dsimp only)) | ((fail_if_success (with_reducible first | refine (?_ : Exists _) | show wpAny _ _ (exec (Stmt.While _ _ _ _) _) _ _ _ | show wpAny _ _ (exec (Stmt.For _ _ _ _ _) _) _ _ _ | show wpAny _ _ (execs (List.cons (Stmt.For _ _ _ _ _) _) _) _ _ _ | show wpAny _ _ (PySem.call (Value.ref _) _ _) _ _ _ | show wpAny _ _ (PySem.call (Value.type "range") _ _) _ _ _ | show wpAny _ _ (PySem.call (Value.builtin "list.append") _ _) _ _ _ | show wpAny _ _ (PySem.call (Value.builtin "len") _ _) _ _ _ | show wpAny _ _ (setItem (Value.ref _) (Value.str _ _) _) _ _ _ | show wpAny _ _ (exec (Stmt.Raise _ _ _) _) _ _ _ | show wpAny _ _ (compareOp Cmpop.NotIn _ _) _ _ _ | refine (?_ : LCg.CompSrc _ _ _ _ _ _ _ _ _ _ _ _ _ _) | show wpAny _ _ (eval (PySem.Expr.ListComp _ _ _) _) _ _ _ | show wpAny _ _ (compareOp Cmpop.In _ _) _ _ _ | show wpAny _ _ (delItem (Value.ref _) (Value.str _ _)) _ _ _ | show wpAny _ _ (PySem.call (Value.builtin "sorted") _ _) _ _ _ | show wpAny _ _ (PySem.call (Value.builtin "dict.get") _ _) _ _ _ | show wpAny _ _ (compareOp CmpOp.NotEq (Value.ref _) (Value.ref _)) _ _ _ | show wpAny _ _ (subscriptTail _ _ (Value.ref _) (Value.int _ _)) _ _ _ | show wpAny _ _ (PySem.call (Value.builtin "list.pop") _ _) _ _ _ | show wpAny _ _ (compareOp CmpOp.Eq (Value.ref _) (Value.ref _)) _ _ _ | show wpAny _ _ (subscriptTail _ _ (Value.ref _) (Value.str _ _)) _ _ _)); walk1) | dsimp only | fail "no step"))
      · exact absurd hlen (by assumption)
      · exact box fun PP kk => kk _ _ _ o' rfl F12 (by simp only [List.forall_mem_cons]; exact ⟨rfl, rfl, rfl, rfl, fun _ hq => absurd hq List.not_mem_nil⟩) (News.tail N12) hc' hd'
  · rintro s' h7 xx he7
    refine unbox xx _ fun tk'' m h'' o es F7 hm N7 ho1 ho2 => ?_
    subst es
    have F8 := Fr.ext F7 he7 hIL hIg
    have N8 := News.ext (News.tail N7) he7 hIne
    exact next h7 tk'' m F8 hm (News.sub N8 fun p hp => .tail _ (.tail _ (.tail _ (.tail _ hp))))
  · exact box fun PP kk => kk _ _ _ _ rfl F3 (by simp only [List.forall_mem_cons]; exact ⟨rfl, rfl, rfl, rfl, fun _ hq => absurd hq List.not_mem_nil⟩) N3 rfl rfl
end

section
open PySem PySem.W PyProof.Rows PySem.Calls



variable {w : World} {mean : ExcName → Option Value} {mg mb : Str → Option Value} {base : Heap} {A : Around} {l : List Env} {s : Shared}


def ContentIn (tl : List (Addr × Obj)) (x : Str) (cv : Value) : Option (List Int) → Prop
  | none => cv = .none
  | some c => ∃ b cvs ep, cv = .ref b ∧ (b, W.listOf cvs.toArray ep) ∈ tl ∧ IntsAre cvs c ∧ FileOk (x, c)
theorem LawSt.more {fs : Files} {fd dd ar ld : Addr} {tl tl' : List (Addr × Obj)} {ps : List (Str × Int × Int)} {al : List (Addr × Obj)} {od : Obj} {kvs : List (Str × Value)} {dvs lvs : List Value} {dep lep : Nat} (S : LawSt w fs fd dd ar ld tl ps al od kvs dvs lvs dep lep) (h : ∀ p ∈ tl, p ∈ tl') :
    LawSt w fs fd dd ar ld tl' ps al od kvs dvs lvs dep lep :=
  ⟨S.dict, h _ S.fdm, S.files.mono fun a o q => h _ q, S.ok, S.few, S.sm, h _ S.ddm, S.dints, h _ S.ldm, S.lints, S.led, fun p hp => h p (S.sub p hp), S.apart, S.par, S.old⟩
abbrev three : List Str := ["a", "b", "x"]
theorem three_ok : ∀ x ∈ three, NameOk x := by
  unfold NameOk
  decide +kernel

theorem law3a {n : Nat} {L a : Addr} {g : Heap} {name qual : Str} {params : Arguments} {body : List Stmt} {scope : Scope} {dV kV doc pm cdv cdv' ct oc : Value} {an odd : Option Addr} {osl : Array (Option Value)} {Q : Flow → Shared → Prop} {E : Value → Shared → Prop}
    {m : Str → Option Value} {fs : Files} {pl cl : Addr} {o1 o2 : Obj} {fd dd ar ld : Addr} {tl : List (Addr × Obj)} {ps : List (Str × Int × Int)} {al : List (Addr × Obj)} {od : Obj} {kvs : List (Str × Value)} {dvs lvs : List Value} {dep lep : Nat}
    (G : Gr w mean mg mb base) (ho : (hd.heap_1 w.params).lookup 259 = some ⟨oc, odd, .func (fnOf name qual params body scope dV kV doc pm an cdv ct), osl⟩)
    (C : At base (A.deeper (envOf qual scope L a cdv')) (envOf qual scope L a cdv' :: l) 20 s.heap) (B : Below A base l g) (X : (hd.heap_1 w.params).In g) (TT : Top hd.view_1 (looseW hd.view_1 []) mean mg mb g)
    (S : LawSt w fs fd dd ar ld tl ps al od kvs dvs lvs dep lep) (F : Fr g L s.heap m) (hm : ∀ z ∈ [(Str.ofString "pool", Value.ref pl), (Str.ofString "files", Value.ref fd), (Str.ofString "data", Value.ref dd), (Str.ofString "told", Value.ref ar)], m z.1 = some z.2)
    (N : News g L s.heap ((pl, o1) :: (cl, o2) :: tl)) (hp : Pool cl o1 o2) (hne : pl ≠ cl) (htp : ∀ p ∈ tl, p.1 ≠ pl ∧ p.1 ≠ cl)
    (next : ∀ h' tk m' o1 o2 tl' x tx cv cnt, Fr g L h' m' → (∀ z ∈ [(Str.ofString "pool", Value.ref pl), (Str.ofString "files", Value.ref fd), (Str.ofString "data", Value.ref dd), (Str.ofString "told", Value.ref ar), (Str.ofString "name", Value.str x tx), (Str.ofString "fresh", cv)], m' z.1 = some z.2) →
      LawSt w fs fd dd ar ld tl' ps al od kvs dvs lvs dep lep → NameOk x → ContentIn tl' x cv cnt → News g L h' ((pl, o1) :: (cl, o2) :: tl') → Pool cl o1 o2 → (∀ p ∈ tl', p.1 ≠ pl ∧ p.1 ≠ cl) →
      wpAny (model PR w) (A.deeper (envOf qual scope L a cdv')) (execs (body.drop 9) (envOf qual scope L a cdv')) Q E { s with heap := h', toks := tk }) :
    wpAny (model PR w) (A.deeper (envOf qual scope L a cdv')) (execs (body.drop 7) (envOf qual scope L a cdv')) Q E s := by
  obtain ⟨rfl, rfl, rfl⟩ := fn_inj (same_obj ho (by k_is))
  have F0 := Fr.known F hm
  clear F
  dsimp only [List.drop]
  refine (?_ : wpAny (model PR w) _ _ _ _ _)
  refine wpAny_execs_cons ?_
  (repeat' (first | (k_unfold; (try dsimp only)) | ((fail_if_success (with_reducible first | refine (?_ : Exists _) | show wpAny _ _ (exec (Stmt.While _ _ _ _) _) _ _ _ | show wpAny _ _ (exec (Stmt.For _ _ _ _ _) _) _ _ _ | show wpAny _ _ (execs (List.cons (Stmt.Assign (List.cons (PySem.Expr.Name (Str.ofString "altered") _) List.nil) _ _) _) _) _ _ _ | show wpAny _ _ (execs (List.cons (Stmt.Assign (List.cons (PySem.Expr.Name (Str.ofString "spoiled") _) List.nil) _ _) _) _) _ _ _ | show wpAny _ _ (execs (List.cons (Stmt.For _ _ _ _ _) _) _) _ _ _ | show wpAny _ _ (PySem.call (Value.ref _) _ _) _ _ _ | show wpAny _ _ (PySem.call (Value.type "range") _ _) _ _ _ | show wpAny _ _ (PySem.call (Value.builtin "list.append") _ _) _ _ _ | show wpAny _ _ (PySem.call (Value.builtin "len") _ _) _ _ _ | show wpAny _ _ (setItem (Value.ref _) (Value.str _ _) _) _ _ _ | show wpAny _ _ (exec (Stmt.Raise _ _ _) _) _ _ _ | show wpAny _ _ (compareOp Cmpop.NotIn _ _) _ _ _ | refine (?_ : LCg.CompSrc _ _ _ _ _ _ _ _ _ _ _ _ _ _) | show wpAny _ _ (eval (PySem.Expr.ListComp _ _ _) _) _ _ _ | show wpAny _ _ (compareOp Cmpop.In _ _) _ _ _ | show wpAny _ _ (delItem (Value.ref _) (Value.str _ _)) _ _ _ | show wpAny _ _ (PySem.call (Value.builtin "sorted") _ _) _ _ _ | show wpAny _ _ (PySem.call (Value.builtin "dict.get") _ _) _ _ _ | show wpAny _ _ (compareOp CmpOp.NotEq (Value.ref _) (Value.ref _)) _ _ _ | show wpAny _ _ (subscriptTail _ _ (Value.ref _) (Value.int _ _)) _ _ _ | show wpAny _ _ (PySem.call (Value.builtin "list.pop") _ _) _ _ _ | show wpAny _ _ (compareOp CmpOp.Eq (Value.ref _) (Value.ref _)) _ _ _ | show wpAny _ _ (subscriptTail _ _ (Value.ref _) (Value.str _ _)) _ _ _)); walk1) | dsimp only | fail "no step"))
  rename Fr _ _ _ _ => F1
  rename News _ _ _ _ => N1
  rename_i T h1 l1
  obtain ⟨l11, l12, l13⟩ := l1
  refine draw_call G (C.now B F1).less (Core.mk (C.now B F1) B (News.sub N1 (pick2 (a := (pl, o1)) (b := (cl, o2)) (by k_mem) (by k_mem)))) hne hp (by decide) (by decide) ?_
  intro u o3 o4 h2 tk2 tu hu0 hu1 k2 e21 e22 hp2
  have F2 := fr_two (oa := o1) (ob := o2) F1 N1 k2 (by k_mem) (by k_mem)
  have N2 := news_pool (pre := [_]) N1 k2 e21 e22 (by
    simp only [List.forall_mem_cons]
    exact ⟨⟨Nat.ne_of_gt l11, Nat.ne_of_gt l12⟩, fun _ hq => absurd hq List.not_mem_nil⟩) htp
  rw [List.cons_append, List.nil_append] at N2
  clear F1 N1
  (repeat' (first | (k_unfold; (try dsimp only)) | ((fail_if_success (with_reducible first | refine (?_ : Exists _) | show wpAny _ _ (exec (Stmt.While _ _ _ _) _) _ _ _ | show wpAny _ _ (exec (Stmt.For _ _ _ _ _) _) _ _ _ | show wpAny _ _ (execs (List.cons (Stmt.Assign (List.cons (PySem.Expr.Name (Str.ofString "altered") _) List.nil) _ _) _) _) _ _ _ | show wpAny _ _ (execs (List.cons (Stmt.Assign (List.cons (PySem.Expr.Name (Str.ofString "spoiled") _) List.nil) _ _) _) _) _ _ _ | show wpAny _ _ (execs (List.cons (Stmt.For _ _ _ _ _) _) _) _ _ _ | show wpAny _ _ (PySem.call (Value.ref _) _ _) _ _ _ | show wpAny _ _ (PySem.call (Value.type "range") _ _) _ _ _ | show wpAny _ _ (PySem.call (Value.builtin "list.append") _ _) _ _ _ | show wpAny _ _ (PySem.call (Value.builtin "len") _ _) _ _ _ | show wpAny _ _ (setItem (Value.ref _) (Value.str _ _) _) _ _ _ | show wpAny _ _ (exec (Stmt.Raise _ _ _) _) _ _ _ | show wpAny _ _ (compareOp Cmpop.NotIn _ _) _ _ _ | refine (?_ : LCg.CompSrc _ _ _ _ _ _ _ _ _ _ _ _ _ _) | show wpAny _ _ (eval (PySem.Expr.ListComp _ _ _) _) _ _ _ | show wpAny _ _ (compareOp Cmpop.In _ _) _ _ _ | show wpAny _ _ (delItem (Value.ref _) (Value.str _ _)) _ _ _ | show wpAny _ _ (PySem.call (Value.builtin "sorted") _ _) _ _ _ | show wpAny _ _ (PySem.call (Value.builtin "dict.get") _ _) _ _ _ | show wpAny _ _ (compareOp CmpOp.NotEq (Value.ref _) (Value.ref _)) _ _ _ | show wpAny _ _ (subscriptTail _ _ (Value.ref _) (Value.int _ _)) _ _ _ | show wpAny _ _ (PySem.call (Value.builtin "list.pop") _ _) _ _ _ | show wpAny _ _ (compareOp CmpOp.Eq (Value.ref _) (Value.ref _)) _ _ _ | show wpAny _ _ (subscriptTail _ _ (Value.ref _) (Value.str _ _)) _ _ _)); walk1) | dsimp only | fail "no step"))
  obtain ⟨x, tx, hx, hxm, hxo⟩ := name_item (u := u) (ss := three) (.cons _ _ (.cons _ _ (.cons _ _ .nil))) three_ok hu0 hu1
  refine list_item (News.isList N2 (.head _)) hu0 (by omega) hx ?_
  have N2' := News.tail N2
  clear N2
  (repeat' (first | (k_unfold; (try dsimp only)) | ((fail_if_success (with_reducible first | refine (?_ : Exists _) | show wpAny _ _ (exec (Stmt.While _ _ _ _) _) _ _ _ | show wpAny _ _ (exec (Stmt.For _ _ _ _ _) _) _ _ _ | show wpAny _ _ (execs (List.cons (Stmt.Assign (List.cons (PySem.Expr.Name (Str.ofString "altered") _) List.nil) _ _) _) _) _ _ _ | show wpAny _ _ (execs (List.cons (Stmt.Assign (List.cons (PySem.Expr.Name (Str.ofString "spoiled") _) List.nil) _ _) _) _) _ _ _ | show wpAny _ _ (execs (List.cons (Stmt.For _ _ _ _ _) _) _) _ _ _ | show wpAny _ _ (PySem.call (Value.ref _) _ _) _ _ _ | show wpAny _ _ (PySem.call (Value.type "range") _ _) _ _ _ | show wpAny _ _ (PySem.call (Value.builtin "list.append") _ _) _ _ _ | show wpAny _ _ (PySem.call (Value.builtin "len") _ _) _ _ _ | show wpAny _ _ (setItem (Value.ref _) (Value.str _ _) _) _ _ _ | show wpAny _ _ (exec (Stmt.Raise _ _ _) _) _ _ _ | show wpAny _ _ (compareOp Cmpop.NotIn _ _) _ _ _ | refine (?_ : LCg.CompSrc _ _ _ _ _ _ _ _ _ _ _ _ _ _) | show wpAny _ _ (eval (PySem.Expr.ListComp _ _ _) _) _ _ _ | show wpAny _ _ (compareOp Cmpop.In _ _) _ _ _ | show wpAny _ _ (delItem (Value.ref _) (Value.str _ _)) _ _ _ | show wpAny _ _ (PySem.call (Value.builtin "sorted") _ _) _ _ _ | show wpAny _ _ (PySem.call (Value.builtin "dict.get") _ _) _ _ _ | show wpAny _ _ (compareOp CmpOp.NotEq (Value.ref _) (Value.ref _)) _ _ _ | show wpAny _ _ (subscriptTail _ _ (Value.ref _) (Value.int _ _)) _ _ _ | show wpAny _ _ (PySem.call (Value.builtin "list.pop") _ _) _ _ _ | show wpAny _ _ (compareOp CmpOp.Eq (Value.ref _) (Value.ref _)) _ _ _ | show wpAny _ _ (subscriptTail _ _ (Value.ref _) (Value.str _ _)) _ _ _)); walk1) | dsimp only | fail "no step"))
  rename Fr _ _ _ _ => F3
  rename News _ _ _ _ => N3
  refine draw_call G (C.now B F3).less (Core.mk (C.now B F3) B (News.sub N3 (pick2 (a := (pl, o3)) (b := (cl, o4)) (by k_mem) (by k_mem)))) hne hp2 (by decide) (by decide) ?_
  intro u4 o5 o6 h4 tk4 tu4 hu40 hu41 k4 e41 e42 hp4
  have F4 := fr_two (oa := o3) (ob := o4) F3 N3 k4 (by k_mem) (by k_mem)
  have N4 := news_pool (pre := []) N3 k4 e41 e42 (fun _ hq => absurd hq List.not_mem_nil) htp
  rw [List.nil_append] at N4
  clear F3 N3
  (repeat' (first | (k_unfold; (try dsimp only)) | ((fail_if_success (with_reducible first | refine (?_ : Exists _) | show wpAny _ _ (exec (Stmt.While _ _ _ _) _) _ _ _ | show wpAny _ _ (exec (Stmt.For _ _ _ _ _) _) _ _ _ | show wpAny _ _ (execs (List.cons (Stmt.Assign (List.cons (PySem.Expr.Name (Str.ofString "altered") _) List.nil) _ _) _) _) _ _ _ | show wpAny _ _ (execs (List.cons (Stmt.Assign (List.cons (PySem.Expr.Name (Str.ofString "spoiled") _) List.nil) _ _) _) _) _ _ _ | show wpAny _ _ (execs (List.cons (Stmt.For _ _ _ _ _) _) _) _ _ _ | show wpAny _ _ (PySem.call (Value.ref _) _ _) _ _ _ | show wpAny _ _ (PySem.call (Value.type "range") _ _) _ _ _ | show wpAny _ _ (PySem.call (Value.builtin "list.append") _ _) _ _ _ | show wpAny _ _ (PySem.call (Value.builtin "len") _ _) _ _ _ | show wpAny _ _ (setItem (Value.ref _) (Value.str _ _) _) _ _ _ | show wpAny _ _ (exec (Stmt.Raise _ _ _) _) _ _ _ | show wpAny _ _ (compareOp Cmpop.NotIn _ _) _ _ _ | refine (?_ : LCg.CompSrc _ _ _ _ _ _ _ _ _ _ _ _ _ _) | show wpAny _ _ (eval (PySem.Expr.ListComp _ _ _) _) _ _ _ | show wpAny _ _ (compareOp Cmpop.In _ _) _ _ _ | show wpAny _ _ (delItem (Value.ref _) (Value.str _ _)) _ _ _ | show wpAny _ _ (PySem.call (Value.builtin "sorted") _ _) _ _ _ | show wpAny _ _ (PySem.call (Value.builtin "dict.get") _ _) _ _ _ | show wpAny _ _ (compareOp CmpOp.NotEq (Value.ref _) (Value.ref _)) _ _ _ | show wpAny _ _ (subscriptTail _ _ (Value.ref _) (Value.int _ _)) _ _ _ | show wpAny _ _ (PySem.call (Value.builtin "list.pop") _ _) _ _ _ | show wpAny _ _ (compareOp CmpOp.Eq (Value.ref _) (Value.ref _)) _ _ _ | show wpAny _ _ (subscriptTail _ _ (Value.ref _) (Value.str _ _)) _ _ _)); walk1) | dsimp only | fail "no step"))
  · rename Fr _ _ _ _ => F5
    rename News _ _ _ _ => N5
    exact next _ _ _ o5 o6 tl x tx .none none F5 (by simp only [List.forall_mem_cons]; exact ⟨rfl, rfl, rfl, rfl, rfl, rfl, fun _ hq => absurd hq List.not_mem_nil⟩) S hxo rfl N5 hp4 htp
  · rename Fr _ _ _ _ => F5
    rename News _ _ _ _ => N5
    refine content_call G (C.now B F5).less (Core.mk (C.now B F5) B (News.sub N5 (pick2 (a := (pl, o5)) (b := (cl, o6)) (by k_mem) (by k_mem)))) hne hp4 ?_
    intro b bvs bep bns o7 o8 h6 tk6 hbl hbb hbI k6 hbn e6 e61 e62 hp6
    dsimp only at k6 hbn
    obtain ⟨hbL, hbg⟩ := fr_new F5 hbn
    have hbpl : b ≠ pl := ne_none hbn (N5 (pl, o5) (by k_mem)).1
    have hbcl : b ≠ cl := ne_none hbn (N5 (cl, o6) (by k_mem)).1
    have F6 := fr_two (oa := o5) (ob := o6) F5 N5 k6 (by k_mem) (by k_mem)
    have N6 := news_pool (pre := []) N5 k6 e61 e62 (fun _ hq => absurd hq List.not_mem_nil) htp
    rw [List.nil_append] at N6
    have N7 : News g L h6 ((pl, o7) :: (cl, o8) :: (b, W.listOf bvs.toArray bep) :: tl) := News.sub (News.cons e6 hbL hbg N6) fun p hp => mem_ins (a := [_, _]) hp
    clear F5 N5 N6
    (repeat' (first | (k_unfold; (try dsimp only)) | ((fail_if_success (with_reducible first | refine (?_ : Exists _) | show wpAny _ _ (exec (Stmt.While _ _ _ _) _) _ _ _ | show wpAny _ _ (exec (Stmt.For _ _ _ _ _) _) _ _ _ | show wpAny _ _ (execs (List.cons (Stmt.Assign (List.cons (PySem.Expr.Name (Str.ofString "altered") _) List.nil) _ _) _) _) _ _ _ | show wpAny _ _ (execs (List.cons (Stmt.Assign (List.cons (PySem.Expr.Name (Str.ofString "spoiled") _) List.nil) _ _) _) _) _ _ _ | show wpAny _ _ (execs (List.cons (Stmt.For _ _ _ _ _) _) _) _ _ _ | show wpAny _ _ (PySem.call (Value.ref _) _ _) _ _ _ | show wpAny _ _ (PySem.call (Value.type "range") _ _) _ _ _ | show wpAny _ _ (PySem.call (Value.builtin "list.append") _ _) _ _ _ | show wpAny _ _ (PySem.call (Value.builtin "len") _ _) _ _ _ | show wpAny _ _ (setItem (Value.ref _) (Value.str _ _) _) _ _ _ | show wpAny _ _ (exec (Stmt.Raise _ _ _) _) _ _ _ | show wpAny _ _ (compareOp Cmpop.NotIn _ _) _ _ _ | refine (?_ : LCg.CompSrc _ _ _ _ _ _ _ _ _ _ _ _ _ _) | show wpAny _ _ (eval (PySem.Expr.ListComp _ _ _) _) _ _ _ | show wpAny _ _ (compareOp Cmpop.In _ _) _ _ _ | show wpAny _ _ (delItem (Value.ref _) (Value.str _ _)) _ _ _ | show wpAny _ _ (PySem.call (Value.builtin "sorted") _ _) _ _ _ | show wpAny _ _ (PySem.call (Value.builtin "dict.get") _ _) _ _ _ | show wpAny _ _ (compareOp CmpOp.NotEq (Value.ref _) (Value.ref _)) _ _ _ | show wpAny _ _ (subscriptTail _ _ (Value.ref _) (Value.int _ _)) _ _ _ | show wpAny _ _ (PySem.call (Value.builtin "list.pop") _ _) _ _ _ | show wpAny _ _ (compareOp CmpOp.Eq (Value.ref _) (Value.ref _)) _ _ _ | show wpAny _ _ (subscriptTail _ _ (Value.ref _) (Value.str _ _)) _ _ _)); walk1) | dsimp only | fail "no step"))
    rename Fr _ _ _ _ => F8
    rename News _ _ _ _ => N8
    refine next _ _ _ o7 o8 ((b, W.listOf bvs.toArray bep) :: tl) x tx (.ref b) (some bns) F8 (by simp only [List.forall_mem_cons]; exact ⟨rfl, rfl, rfl, rfl, rfl, rfl, fun _ hq => absurd hq List.not_mem_nil⟩) (S.more fun p hp => .tail _ hp) hxo ⟨b, bvs, bep, rfl, .head _, hbI, hxo.1, hxo.2, by dsimp only; omega, hbb⟩ N8 hp6 ?_
    intro q hq
    rcases List.mem_cons.mp hq with rfl | hq
    · exact ⟨hbpl, hbcl⟩
    · exact htp q hq
end

section
open PySem PySem.W PyProof.Rows PySem.Calls



variable {w : World} {mean : ExcName → Option Value} {mg mb : Str → Option Value} {base : Heap} {A : Around} {l : List Env} {s : Shared}


theorem dict_copy {prog : Program} {w : World} {K : Type} [DecidableEq K] {knd : KeyKind prog w K} {E : Value → Shared → Prop} {g : Heap} {L d : Addr} {m : Str → Option Value} {o : Obj} {kvs : List (K × Value)} {Q : Value → Shared → Prop} (F : Fr g L s.heap m) (hbig : g.NoLimit)
    (hd : s.heap.get? d = some o) (ho : o.IsDictOf knd kvs) (lo : (d == sysModules) = false) (hsz : kvs.length ≤ 1000)
    (h : ∀ D o' h', Kp [] s.heap h' → s.heap.get? D = none → h'.get? D = some o' → o'.IsDictOf knd kvs → (D == sysModules) = false → Q (.ref D) { s with heap := h' }) :
    wpAny (model prog w) A (call (.type "dict") [.ref d]) Q E s := by
  refine kt_call_dict lo (Heap.dictOf_iff.mpr ⟨o, hd, ho⟩) (by rw [sizeLine_eq]; omega) fun h' hD hs => ?_
  obtain ⟨o', ho', hd'⟩ := Heap.dictOf_iff.mp hD
  refine h _ o' h' ⟨?_, fun b ob q _ => ?_⟩ (none_of_le (Nat.le_refl _)) ho' hd' (F.notModules (modules_low hbig))
  · rw [hs.1, Heap.size_push]; exact Nat.le_succ _
  · rw [hs.2 b (Nat.ne_of_lt (Heap.lt_size q))]
    exact Heap.get?_push_of_some _ q

theorem dict_pop_none {prog : Program} {w : World} {E : Value → Shared → Prop} {d : Addr} {o : Obj} {kvs : List (Str × Value)} {x : Str} {tx : Tok} {dflt : Value} {Q : Value → Shared → Prop} (hd : s.heap.get? d = some o) (ho : o.IsDictOf (PySem.strKind prog w) kvs) (lo : (d == sysModules) = false) (hv : valueAt kvs x = none)
    (h : Q dflt { s with toks := s.toks + 1 }) : wpAny (model prog w) A (call (.builtin "dict.pop") [.ref d, .str x tx, dflt]) Q E s :=
  have hD : s.heap.DictOf (PySem.strKind prog w) d kvs := Heap.dictOf_iff.mpr ⟨o, hd, ho⟩
  call_meetsIn PySem.F.slot_dict_pop hD.typeIs PySem.F.entry_dict_pop (PySem.F.args_dict_pop_3 _ _ _) (meets_dict_pop_default (knd := PySem.strKind prog w) (d := d) (k := x) (key := .str x tx) (strKind_is _ _ x tx) lo rfl dflt) ⟨kvs, hD, hv, h⟩

theorem law3b {n : Nat} {L a : Addr} {g : Heap} {name qual : Str} {params : Arguments} {body : List Stmt} {scope : Scope} {dV kV doc pm cdv cdv' ct oc : Value} {an odd : Option Addr} {osl : Array (Option Value)} {Q : Flow → Shared → Prop} {E : Value → Shared → Prop}
    {m : Str → Option Value} {fs : Files} {pl cl : Addr} {o1 o2 : Obj} {fd dd ar ld : Addr} {tl : List (Addr × Obj)} {ps : List (Str × Int × Int)} {al : List (Addr × Obj)} {od : Obj} {kvs : List (Str × Value)} {dvs lvs : List Value} {dep lep : Nat}
    (G : Gr w mean mg mb base) (ho : (hd.heap_1 w.params).lookup 259 = some ⟨oc, odd, .func (fnOf name qual params body scope dV kV doc pm an cdv ct), osl⟩)
    (C : At base (A.deeper (envOf qual scope L a cdv')) (envOf qual scope L a cdv' :: l) 20 s.heap) (B : Below A base l g) (X : (hd.heap_1 w.params).In g) (TT : Top hd.view_1 (looseW hd.view_1 []) mean mg mb g)
    (S : LawSt w fs fd dd ar ld tl ps al od kvs dvs lvs dep lep) (F : Fr g L s.heap m) {x : Str} {tx : Tok} {cv : Value} {cnt : Option (List Int)} (hm : ∀ z ∈ [(Str.ofString "pool", Value.ref pl), (Str.ofString "files", Value.ref fd), (Str.ofString "data", Value.ref dd), (Str.ofString "told", Value.ref ar), (Str.ofString "name", Value.str x tx), (Str.ofString "fresh", cv)], m z.1 = some z.2)
    (hxo : NameOk x) (hc : ContentIn tl x cv cnt) (N : News g L s.heap ((pl, o1) :: (cl, o2) :: tl))
    (next : ∀ h' tk m' D od2 kvs2, Fr g L h' m' → (∀ z ∈ [(Str.ofString "altered", Value.ref D), (Str.ofString "pool", Value.ref pl), (Str.ofString "files", Value.ref fd), (Str.ofString "data", Value.ref dd), (Str.ofString "told", Value.ref ar), (Str.ofString "name", Value.str x tx), (Str.ofString "fresh", cv)], m' z.1 = some z.2) →
      News g L h' ((D, od2) :: (pl, o1) :: (cl, o2) :: tl) → od2.IsDictOf (strKind PR w) kvs2 → (D == sysModules) = false → FilesOk tl kvs2 (newFiles fs x cnt) →
      wpAny (model PR w) (A.deeper (envOf qual scope L a cdv')) (execs (body.drop 11) (envOf qual scope L a cdv')) Q E { s with heap := h', toks := tk }) :
    wpAny (model PR w) (A.deeper (envOf qual scope L a cdv')) (execs (body.drop 9) (envOf qual scope L a cdv')) Q E s := by
  obtain ⟨rfl, rfl, rfl⟩ := fn_inj (same_obj ho (by k_is))
  have F0 := Fr.known F hm
  obtain ⟨da, lo', pd', t1, t2, t3, har, had, hna⟩ := arled_two S.led
  have hkl : kvs.length ≤ 5 := by
    have : kvs.length = fs.length := by rw [← List.length_map (f := (·.1)), S.files.keys, List.length_map]
    have := S.few
    omega
  clear F
  dsimp only [List.drop]
  refine (?_ : wpAny (model PR w) _ _ _ _ _)
  refine wpAny_execs_cons ?_
  (repeat' (first | (k_unfold; (try dsimp only)) | ((fail_if_success (with_reducible first | refine (?_ : Exists _) | show wpAny _ _ (exec (Stmt.While _ _ _ _) _) _ _ _ | show wpAny _ _ (exec (Stmt.For _ _ _ _ _) _) _ _ _ | show wpAny _ _ (execs (List.cons (Stmt.If _ _ _ _) _) _) _ _ _ | show wpAny _ _ (execs (List.cons (Stmt.Assign (List.cons (PySem.Expr.Name (Str.ofString "altered") _) List.nil) _ _) _) _) _ _ _ | show wpAny _ _ (execs (List.cons (Stmt.Assign (List.cons (PySem.Expr.Name (Str.ofString "spoiled") _) List.nil) _ _) _) _) _ _ _ | show wpAny _ _ (execs (List.cons (Stmt.For _ _ _ _ _) _) _) _ _ _ | show wpAny _ _ (PySem.call (Value.ref _) _ _) _ _ _ | show wpAny _ _ (PySem.call (Value.type "range") _ _) _ _ _ | show wpAny _ _ (PySem.call (Value.builtin "list.append") _ _) _ _ _ | show wpAny _ _ (PySem.call (Value.builtin "len") _ _) _ _ _ | show wpAny _ _ (setItem (Value.ref _) (Value.str _ _) _) _ _ _ | show wpAny _ _ (exec (Stmt.Raise _ _ _) _) _ _ _ | show wpAny _ _ (compareOp Cmpop.NotIn _ _) _ _ _ | refine (?_ : LCg.CompSrc _ _ _ _ _ _ _ _ _ _ _ _ _ _) | show wpAny _ _ (eval (PySem.Expr.ListComp _ _ _) _) _ _ _ | show wpAny _ _ (compareOp Cmpop.In _ _) _ _ _ | show wpAny _ _ (delItem (Value.ref _) (Value.str _ _)) _ _ _ | show wpAny _ _ (PySem.call (Value.builtin "sorted") _ _) _ _ _ | show wpAny _ _ (PySem.call (Value.builtin "dict.pop") _ _) _ _ _ | show wpAny _ _ (PySem.call (Value.type "dict") _ _) _ _ _ | show wpAny _ _ (PySem.call (Value.builtin "dict.get") _ _) _ _ _ | show wpAny _ _ (compareOp CmpOp.NotEq (Value.ref _) (Value.ref _)) _ _ _ | show wpAny _ _ (subscriptTail _ _ (Value.ref _) (Value.int _ _)) _ _ _ | show wpAny _ _ (PySem.call (Value.builtin "list.pop") _ _) _ _ _ | show wpAny _ _ (compareOp CmpOp.Eq (Value.ref _) (Value.ref _)) _ _ _ | show wpAny _ _ (subscriptTail _ _ (Value.ref _) (Value.str _ _)) _ _ _)); walk1) | dsimp only | fail "no step"))
  refine dict_copy F0 TT.nolimit (N _ (.tail _ (.tail _ S.fdm))).1 S.dict S.sm (by omega) ?_
  intro D od2 h3 k3 hDn e3 hod2 hsm2
  have F3 := fr_kp F0 k3
  have N3 := News.made F0 N k3 hDn e3
  have hDne : ∀ p ∈ (pl, o1) :: (cl, o2) :: tl, D ≠ p.1 := fun p hp => ne_none hDn (N p hp).1
  have hDpl := hDne _ (.head _)
  have hDcl := hDne _ (.tail _ (.head _))
  have hDtl : ∀ p ∈ tl, p.1 ≠ D := fun p hp => (hDne p (.tail _ (.tail _ hp))).symm
  clear F0 N
  (repeat' (first | (k_unfold; (try dsimp only)) | ((fail_if_success (with_reducible first | refine (?_ : Exists _) | show wpAny _ _ (exec (Stmt.While _ _ _ _) _) _ _ _ | show wpAny _ _ (exec (Stmt.For _ _ _ _ _) _) _ _ _ | show wpAny _ _ (execs (List.cons (Stmt.If _ _ _ _) _) _) _ _ _ | show wpAny _ _ (execs (List.cons (Stmt.Assign (List.cons (PySem.Expr.Name (Str.ofString "altered") _) List.nil) _ _) _) _) _ _ _ | show wpAny _ _ (execs (List.cons (Stmt.Assign (List.cons (PySem.Expr.Name (Str.ofString "spoiled") _) List.nil) _ _) _) _) _ _ _ | show wpAny _ _ (execs (List.cons (Stmt.For _ _ _ _ _) _) _) _ _ _ | show wpAny _ _ (PySem.call (Value.ref _) _ _) _ _ _ | show wpAny _ _ (PySem.call (Value.type "range") _ _) _ _ _ | show wpAny _ _ (PySem.call (Value.builtin "list.append") _ _) _ _ _ | show wpAny _ _ (PySem.call (Value.builtin "len") _ _) _ _ _ | show wpAny _ _ (setItem (Value.ref _) (Value.str _ _) _) _ _ _ | show wpAny _ _ (exec (Stmt.Raise _ _ _) _) _ _ _ | show wpAny _ _ (compareOp Cmpop.NotIn _ _) _ _ _ | refine (?_ : LCg.CompSrc _ _ _ _ _ _ _ _ _ _ _ _ _ _) | show wpAny _ _ (eval (PySem.Expr.ListComp _ _ _) _) _ _ _ | show wpAny _ _ (compareOp Cmpop.In _ _) _ _ _ | show wpAny _ _ (delItem (Value.ref _) (Value.str _ _)) _ _ _ | show wpAny _ _ (PySem.call (Value.builtin "sorted") _ _) _ _ _ | show wpAny _ _ (PySem.call (Value.builtin "dict.pop") _ _) _ _ _ | show wpAny _ _ (PySem.call (Value.type "dict") _ _) _ _ _ | show wpAny _ _ (PySem.call (Value.builtin "dict.get") _ _) _ _ _ | show wpAny _ _ (compareOp CmpOp.NotEq (Value.ref _) (Value.ref _)) _ _ _ | show wpAny _ _ (subscriptTail _ _ (Value.ref _) (Value.int _ _)) _ _ _ | show wpAny _ _ (PySem.call (Value.builtin "list.pop") _ _) _ _ _ | show wpAny _ _ (compareOp CmpOp.Eq (Value.ref _) (Value.ref _)) _ _ _ | show wpAny _ _ (subscriptTail _ _ (Value.ref _) (Value.str _ _)) _ _ _)); walk1) | dsimp only | fail "no step"))
  rename Fr _ _ _ _ => F4
  rename News _ _ _ _ => N4
  refine wpAny_execs_cons ?_
  cases cnt with
  | none =>
    obtain rfl : cv = .none := hc
    (repeat' (first | (k_unfold; (try dsimp only)) | ((fail_if_success (with_reducible first | refine (?_ : Exists _) | show wpAny _ _ (exec (Stmt.While _ _ _ _) _) _ _ _ | show wpAny _ _ (exec (Stmt.For _ _ _ _ _) _) _ _ _ | show wpAny _ _ (execs (List.cons (Stmt.If _ _ _ _) _) _) _ _ _ | show wpAny _ _ (execs (List.cons (Stmt.Assign (List.cons (PySem.Expr.Name (Str.ofString "altered") _) List.nil) _ _) _) _) _ _ _ | show wpAny _ _ (execs (List.cons (Stmt.Assign (List.cons (PySem.Expr.Name (Str.ofString "spoiled") _) List.nil) _ _) _) _) _ _ _ | show wpAny _ _ (execs (List.cons (Stmt.For _ _ _ _ _) _) _) _ _ _ | show wpAny _ _ (PySem.call (Value.ref _) _ _) _ _ _ | show wpAny _ _ (PySem.call (Value.type "range") _ _) _ _ _ | show wpAny _ _ (PySem.call (Value.builtin "list.append") _ _) _ _ _ | show wpAny _ _ (PySem.call (Value.builtin "len") _ _) _ _ _ | show wpAny _ _ (setItem (Value.ref _) (Value.str _ _) _) _ _ _ | show wpAny _ _ (exec (Stmt.Raise _ _ _) _) _ _ _ | show wpAny _ _ (compareOp Cmpop.NotIn _ _) _ _ _ | refine (?_ : LCg.CompSrc _ _ _ _ _ _ _ _ _ _ _ _ _ _) | show wpAny _ _ (eval (PySem.Expr.ListComp _ _ _) _) _ _ _ | show wpAny _ _ (compareOp Cmpop.In _ _) _ _ _ | show wpAny _ _ (delItem (Value.ref _) (Value.str _ _)) _ _ _ | show wpAny _ _ (PySem.call (Value.builtin "sorted") _ _) _ _ _ | show wpAny _ _ (PySem.call (Value.builtin "dict.pop") _ _) _ _ _ | show wpAny _ _ (PySem.call (Value.type "dict") _ _) _ _ _ | show wpAny _ _ (PySem.call (Value.builtin "dict.get") _ _) _ _ _ | show wpAny _ _ (compareOp CmpOp.NotEq (Value.ref _) (Value.ref _)) _ _ _ | show wpAny _ _ (subscriptTail _ _ (Value.ref _) (Value.int _ _)) _ _ _ | show wpAny _ _ (PySem.call (Value.builtin "list.pop") _ _) _ _ _ | show wpAny _ _ (compareOp CmpOp.Eq (Value.ref _) (Value.ref _)) _ _ _ | show wpAny _ _ (subscriptTail _ _ (Value.ref _) (Value.str _ _)) _ _ _)); walk1) | dsimp only | fail "no step"))
    cases hlk : look fs x with
    | none =>
      have hv := S.files.look_none hlk
      refine dict_pop_none (N4 _ (.head _)).1 hod2 hsm2 hv ?_
      (repeat' (first | (k_unfold; (try dsimp only)) | ((fail_if_success (with_reducible first | refine (?_ : Exists _) | show wpAny _ _ (exec (Stmt.While _ _ _ _) _) _ _ _ | show wpAny _ _ (exec (Stmt.For _ _ _ _ _) _) _ _ _ | show wpAny _ _ (execs (List.cons (Stmt.If _ _ _ _) _) _) _ _ _ | show wpAny _ _ (execs (List.cons (Stmt.Assign (List.cons (PySem.Expr.Name (Str.ofString "altered") _) List.nil) _ _) _) _) _ _ _ | show wpAny _ _ (execs (List.cons (Stmt.Assign (List.cons (PySem.Expr.Name (Str.ofString "spoiled") _) List.nil) _ _) _) _) _ _ _ | show wpAny _ _ (execs (List.cons (Stmt.For _ _ _ _ _) _) _) _ _ _ | show wpAny _ _ (PySem.call (Value.ref _) _ _) _ _ _ | show wpAny _ _ (PySem.call (Value.type "range") _ _) _ _ _ | show wpAny _ _ (PySem.call (Value.builtin "list.append") _ _) _ _ _ | show wpAny _ _ (PySem.call (Value.builtin "len") _ _) _ _ _ | show wpAny _ _ (setItem (Value.ref _) (Value.str _ _) _) _ _ _ | show wpAny _ _ (exec (Stmt.Raise _ _ _) _) _ _ _ | show wpAny _ _ (compareOp Cmpop.NotIn _ _) _ _ _ | refine (?_ : LCg.CompSrc _ _ _ _ _ _ _ _ _ _ _ _ _ _) | show wpAny _ _ (eval (PySem.Expr.ListComp _ _ _) _) _ _ _ | show wpAny _ _ (compareOp Cmpop.In _ _) _ _ _ | show wpAny _ _ (delItem (Value.ref _) (Value.str _ _)) _ _ _ | show wpAny _ _ (PySem.call (Value.builtin "sorted") _ _) _ _ _ | show wpAny _ _ (PySem.call (Value.builtin "dict.pop") _ _) _ _ _ | show wpAny _ _ (PySem.call (Value.type "dict") _ _) _ _ _ | show wpAny _ _ (PySem.call (Value.builtin "dict.get") _ _) _ _ _ | show wpAny _ _ (compareOp CmpOp.NotEq (Value.ref _) (Value.ref _)) _ _ _ | show wpAny _ _ (subscriptTail _ _ (Value.ref _) (Value.int _ _)) _ _ _ | show wpAny _ _ (PySem.call (Value.builtin "list.pop") _ _) _ _ _ | show wpAny _ _ (compareOp CmpOp.Eq (Value.ref _) (Value.ref _)) _ _ _ | show wpAny _ _ (subscriptTail _ _ (Value.ref _) (Value.str _ _)) _ _ _)); walk1) | dsimp only | fail "no step"))
      refine next _ _ _ D od2 kvs F4 (by simp only [List.forall_mem_cons]; exact ⟨rfl, rfl, rfl, rfl, rfl, rfl, rfl, fun _ hq => absurd hq List.not_mem_nil⟩) N4 hod2 hsm2 ?_
      rw [newFiles, delF_none hlk]; exact S.files
    | some c0 =>
      obtain ⟨a0, vs0, ep0, hv0, _⟩ := S.files.look hlk
      refine kob_pop (knd := strKind PR w) (more := [.none]) F4 N4 (by k_updF) hod2 (strKind_is _ _ _ _) (.inr ⟨_, rfl⟩) rfl (PySem.F.args_dict_pop_3 _ _ _) hv0 (by rw [sizeLine_eq]; omega) ?_
      intro h5 od5 F5 N5 hod5
      (repeat' (first | (k_unfold; (try dsimp only)) | ((fail_if_success (with_reducible first | refine (?_ : Exists _) | show wpAny _ _ (exec (Stmt.While _ _ _ _) _) _ _ _ | show wpAny _ _ (exec (Stmt.For _ _ _ _ _) _) _ _ _ | show wpAny _ _ (execs (List.cons (Stmt.If _ _ _ _) _) _) _ _ _ | show wpAny _ _ (execs (List.cons (Stmt.Assign (List.cons (PySem.Expr.Name (Str.ofString "altered") _) List.nil) _ _) _) _) _ _ _ | show wpAny _ _ (execs (List.cons (Stmt.Assign (List.cons (PySem.Expr.Name (Str.ofString "spoiled") _) List.nil) _ _) _) _) _ _ _ | show wpAny _ _ (execs (List.cons (Stmt.For _ _ _ _ _) _) _) _ _ _ | show wpAny _ _ (PySem.call (Value.ref _) _ _) _ _ _ | show wpAny _ _ (PySem.call (Value.type "range") _ _) _ _ _ | show wpAny _ _ (PySem.call (Value.builtin "list.append") _ _) _ _ _ | show wpAny _ _ (PySem.call (Value.builtin "len") _ _) _ _ _ | show wpAny _ _ (setItem (Value.ref _) (Value.str _ _) _) _ _ _ | show wpAny _ _ (exec (Stmt.Raise _ _ _) _) _ _ _ | show wpAny _ _ (compareOp Cmpop.NotIn _ _) _ _ _ | refine (?_ : LCg.CompSrc _ _ _ _ _ _ _ _ _ _ _ _ _ _) | show wpAny _ _ (eval (PySem.Expr.ListComp _ _ _) _) _ _ _ | show wpAny _ _ (compareOp Cmpop.In _ _) _ _ _ | show wpAny _ _ (delItem (Value.ref _) (Value.str _ _)) _ _ _ | show wpAny _ _ (PySem.call (Value.builtin "sorted") _ _) _ _ _ | show wpAny _ _ (PySem.call (Value.builtin "dict.pop") _ _) _ _ _ | show wpAny _ _ (PySem.call (Value.type "dict") _ _) _ _ _ | show wpAny _ _ (PySem.call (Value.builtin "dict.get") _ _) _ _ _ | show wpAny _ _ (compareOp CmpOp.NotEq (Value.ref _) (Value.ref _)) _ _ _ | show wpAny _ _ (subscriptTail _ _ (Value.ref _) (Value.int _ _)) _ _ _ | show wpAny _ _ (PySem.call (Value.builtin "list.pop") _ _) _ _ _ | show wpAny _ _ (compareOp CmpOp.Eq (Value.ref _) (Value.ref _)) _ _ _ | show wpAny _ _ (subscriptTail _ _ (Value.ref _) (Value.str _ _)) _ _ _)); walk1) | dsimp only | fail "no step"))
      exact next _ _ _ D od5 _ F5 (by simp only [List.forall_mem_cons]; exact ⟨rfl, rfl, rfl, rfl, rfl, rfl, rfl, fun _ hq => absurd hq List.not_mem_nil⟩) N5 hod5 hsm2 S.files.del
  | some c =>
    obtain ⟨b, bvs, bep, rfl, hbm, hbI, hbo⟩ := hc
    (repeat' (first | (k_unfold; (try dsimp only)) | ((fail_if_success (with_reducible first | refine (?_ : Exists _) | show wpAny _ _ (exec (Stmt.While _ _ _ _) _) _ _ _ | show wpAny _ _ (exec (Stmt.For _ _ _ _ _) _) _ _ _ | show wpAny _ _ (execs (List.cons (Stmt.If _ _ _ _) _) _) _ _ _ | show wpAny _ _ (execs (List.cons (Stmt.Assign (List.cons (PySem.Expr.Name (Str.ofString "altered") _) List.nil) _ _) _) _) _ _ _ | show wpAny _ _ (execs (List.cons (Stmt.Assign (List.cons (PySem.Expr.Name (Str.ofString "spoiled") _) List.nil) _ _) _) _) _ _ _ | show wpAny _ _ (execs (List.cons (Stmt.For _ _ _ _ _) _) _) _ _ _ | show wpAny _ _ (PySem.call (Value.ref _) _ _) _ _ _ | show wpAny _ _ (PySem.call (Value.type "range") _ _) _ _ _ | show wpAny _ _ (PySem.call (Value.builtin "list.append") _ _) _ _ _ | show wpAny _ _ (PySem.call (Value.builtin "len") _ _) _ _ _ | show wpAny _ _ (setItem (Value.ref _) (Value.str _ _) _) _ _ _ | show wpAny _ _ (exec (Stmt.Raise _ _ _) _) _ _ _ | show wpAny _ _ (compareOp Cmpop.NotIn _ _) _ _ _ | refine (?_ : LCg.CompSrc _ _ _ _ _ _ _ _ _ _ _ _ _ _) | show wpAny _ _ (eval (PySem.Expr.ListComp _ _ _) _) _ _ _ | show wpAny _ _ (compareOp Cmpop.In _ _) _ _ _ | show wpAny _ _ (delItem (Value.ref _) (Value.str _ _)) _ _ _ | show wpAny _ _ (PySem.call (Value.builtin "sorted") _ _) _ _ _ | show wpAny _ _ (PySem.call (Value.builtin "dict.pop") _ _) _ _ _ | show wpAny _ _ (PySem.call (Value.type "dict") _ _) _ _ _ | show wpAny _ _ (PySem.call (Value.builtin "dict.get") _ _) _ _ _ | show wpAny _ _ (compareOp CmpOp.NotEq (Value.ref _) (Value.ref _)) _ _ _ | show wpAny _ _ (subscriptTail _ _ (Value.ref _) (Value.int _ _)) _ _ _ | show wpAny _ _ (PySem.call (Value.builtin "list.pop") _ _) _ _ _ | show wpAny _ _ (compareOp CmpOp.Eq (Value.ref _) (Value.ref _)) _ _ _ | show wpAny _ _ (subscriptTail _ _ (Value.ref _) (Value.str _ _)) _ _ _)); walk1) | dsimp only | fail "no step"))
    refine kda_set (knd := strKind PR w) F4 N4 (by k_updF) hod2 (strKind_is _ _ _ _) (by rw [sizeLine_eq]; omega) ?_
    intro h5 od5 F5 N5 hod5
    (repeat' (first | (k_unfold; (try dsimp only)) | ((fail_if_success (with_reducible first | refine (?_ : Exists _) | show wpAny _ _ (exec (Stmt.While _ _ _ _) _) _ _ _ | show wpAny _ _ (exec (Stmt.For _ _ _ _ _) _) _ _ _ | show wpAny _ _ (execs (List.cons (Stmt.If _ _ _ _) _) _) _ _ _ | show wpAny _ _ (execs (List.cons (Stmt.Assign (List.cons (PySem.Expr.Name (Str.ofString "altered") _) List.nil) _ _) _) _) _ _ _ | show wpAny _ _ (execs (List.cons (Stmt.Assign (List.cons (PySem.Expr.Name (Str.ofString "spoiled") _) List.nil) _ _) _) _) _ _ _ | show wpAny _ _ (execs (List.cons (Stmt.For _ _ _ _ _) _) _) _ _ _ | show wpAny _ _ (PySem.call (Value.ref _) _ _) _ _ _ | show wpAny _ _ (PySem.call (Value.type "range") _ _) _ _ _ | show wpAny _ _ (PySem.call (Value.builtin "list.append") _ _) _ _ _ | show wpAny _ _ (PySem.call (Value.builtin "len") _ _) _ _ _ | show wpAny _ _ (setItem (Value.ref _) (Value.str _ _) _) _ _ _ | show wpAny _ _ (exec (Stmt.Raise _ _ _) _) _ _ _ | show wpAny _ _ (compareOp Cmpop.NotIn _ _) _ _ _ | refine (?_ : LCg.CompSrc _ _ _ _ _ _ _ _ _ _ _ _ _ _) | show wpAny _ _ (eval (PySem.Expr.ListComp _ _ _) _) _ _ _ | show wpAny _ _ (compareOp Cmpop.In _ _) _ _ _ | show wpAny _ _ (delItem (Value.ref _) (Value.str _ _)) _ _ _ | show wpAny _ _ (PySem.call (Value.builtin "sorted") _ _) _ _ _ | show wpAny _ _ (PySem.call (Value.builtin "dict.pop") _ _) _ _ _ | show wpAny _ _ (PySem.call (Value.type "dict") _ _) _ _ _ | show wpAny _ _ (PySem.call (Value.builtin "dict.get") _ _) _ _ _ | show wpAny _ _ (compareOp CmpOp.NotEq (Value.ref _) (Value.ref _)) _ _ _ | show wpAny _ _ (subscriptTail _ _ (Value.ref _) (Value.int _ _)) _ _ _ | show wpAny _ _ (PySem.call (Value.builtin "list.pop") _ _) _ _ _ | show wpAny _ _ (compareOp CmpOp.Eq (Value.ref _) (Value.ref _)) _ _ _ | show wpAny _ _ (subscriptTail _ _ (Value.ref _) (Value.str _ _)) _ _ _)); walk1) | dsimp only | fail "no step"))
    exact next _ _ _ D od5 _ F5 (by simp only [List.forall_mem_cons]; exact ⟨rfl, rfl, rfl, rfl, rfl, rfl, rfl, fun _ hq => absurd hq List.not_mem_nil⟩) N5 hod5 hsm2 (S.files.put hbm hbI)
end

section
open PySem PySem.W PyProof.Rows PySem.Calls



variable {w : World} {mean : ExcName → Option Value} {mg mb : Str → Option Value} {base : Heap} {A : Around} {l : List Env} {s : Shared}


theorem files_uniq : ∀ {a b : Files}, a.Perm b → asc (a.map (·.1)) → asc (b.map (·.1)) → a = b
  | [], _, p, _, _ => p.nil_eq
  | x :: r, b, p, ha, hb => by
    cases b with
    | nil => exact absurd p.length_eq (by simp)
    | cons y t =>
      rw [List.map_cons] at ha hb
      have hx : x ∈ y :: t := p.mem_iff.mp (.head _)
      have hy : y ∈ x :: r := p.mem_iff.mpr (.head _)
      have e : x = y := by
        rcases List.mem_cons.mp hx with h | h
        · exact h
        · rcases List.mem_cons.mp hy with h' | h'
          · exact h'.symm
          · have a1 := (List.pairwise_cons.mp ha).1 y.1 (List.mem_map_of_mem h')
            have a2 := (List.pairwise_cons.mp hb).1 x.1 (List.mem_map_of_mem h)
            exact absurd (List.lt_trans a1 a2) (List.lt_irrefl _)
      subst e
      rw [files_uniq (List.Perm.cons_inv p) (List.pairwise_cons.mp ha).2 (List.pairwise_cons.mp hb).2]
theorem sortF_uniq {a b : Files} (p : a.Perm b) (hn : (b.map (·.1)).Nodup) : sortF a = sortF b :=
  files_uniq ((sortF_perm a).trans (p.trans (sortF_perm b).symm)) (sortF_asc ((p.map _).nodup_iff.mpr hn)) (sortF_asc hn)
theorem newFiles_perm {a b : Files} (p : a.Perm b) (x : Str) (cnt : Option (List Int)) : (newFiles a x cnt).Perm (newFiles b x cnt) := by
  cases cnt with
  | none => exact p.filter _
  | some c =>
    show (putF a x c).Perm (putF b x c)
    unfold putF
    have e : a.any (fun kv => kv.1 = x) = b.any (fun kv => kv.1 = x) := by
      rw [Bool.eq_iff_iff, List.any_eq_true, List.any_eq_true]
      constructor
      · rintro ⟨q, hq, h⟩; exact ⟨q, p.mem_iff.mp hq, h⟩
      · rintro ⟨q, hq, h⟩; exact ⟨q, p.mem_iff.mpr hq, h⟩
    rw [e]
    split
    · exact p.map _
    · exact p.append_right _
theorem newFiles_ok {fs : Files} {x : Str} {cnt : Option (List Int)} (h : ∀ f ∈ fs, FileOk f) (hc : ∀ c, cnt = some c → FileOk (x, c)) : ∀ f ∈ newFiles fs x cnt, FileOk f := by
  cases cnt with
  | none => exact fun f hf => h f (List.mem_filter.mp hf).1
  | some c => exact putF_ok h (hc c rfl)
theorem newFiles_len (fs : Files) (x : Str) (cnt : Option (List Int)) : (newFiles fs x cnt).length ≤ fs.length + 1 := by
  cases cnt with
  | none => exact Nat.le_trans (List.length_filter_le _ _) (Nat.le_succ _)
  | some c => exact putF_len _ _ _

theorem law3c {n : Nat} {L a : Addr} {g : Heap} {name qual : Str} {params : Arguments} {body : List Stmt} {scope : Scope} {dV kV doc pm cdv cdv' ct oc : Value} {an odd : Option Addr} {osl : Array (Option Value)} {Q : Flow → Shared → Prop} {E : Value → Shared → Prop}
    {m : Str → Option Value} {fs : Files} {pl cl : Addr} {o1 o2 : Obj} {fd dd ar ld : Addr} {tl : List (Addr × Obj)} {ps : List (Str × Int × Int)} {al : List (Addr × Obj)} {od : Obj} {kvs : List (Str × Value)} {dvs lvs : List Value} {dep lep : Nat}
    (G : Gr w mean mg mb base) (ho : (hd.heap_1 w.params).lookup 259 = some ⟨oc, odd, .func (fnOf name qual params body scope dV kV doc pm an cdv ct), osl⟩)
    (C : At base (A.deeper (envOf qual scope L a cdv')) (envOf qual scope L a cdv' :: l) 20 s.heap) (B : Below A base l g) (X : (hd.heap_1 w.params).In g) (TT : Top hd.view_1 (looseW hd.view_1 []) mean mg mb g)
    (S : LawSt w fs fd dd ar ld tl ps al od kvs dvs lvs dep lep) (F : Fr g L s.heap m) {x : Str} {tx : Tok} {cv : Value} {cnt : Option (List Int)} {D : Addr} {od2 : Obj} {kvs2 : List (Str × Value)}
    (hm : ∀ z ∈ [(Str.ofString "altered", Value.ref D), (Str.ofString "pool", Value.ref pl), (Str.ofString "files", Value.ref fd), (Str.ofString "data", Value.ref dd), (Str.ofString "told", Value.ref ar), (Str.ofString "name", Value.str x tx), (Str.ofString "fresh", cv)], m z.1 = some z.2)
    (hxo : NameOk x) (hc : ContentIn tl x cv cnt) (N : News g L s.heap ((D, od2) :: (pl, o1) :: (cl, o2) :: tl)) (hod2 : od2.IsDictOf (strKind PR w) kvs2) (hsm2 : (D == sysModules) = false) (hfs2 : FilesOk tl kvs2 (newFiles fs x cnt))
    (next : ∀ h' tk m', Fr g L h' m' → (∀ z ∈ [(Str.ofString "pool", Value.ref pl), (Str.ofString "data", Value.ref dd)], m' z.1 = some z.2) →
      News g L h' ((pl, o1) :: (cl, o2) :: tl) →
      wpAny (model PR w) (A.deeper (envOf qual scope L a cdv')) (execs (body.drop 12) (envOf qual scope L a cdv')) Q E { s with heap := h', toks := tk }) :
    wpAny (model PR w) (A.deeper (envOf qual scope L a cdv')) (execs (body.drop 11) (envOf qual scope L a cdv')) Q E s := by
  obtain ⟨rfl, rfl, rfl⟩ := fn_inj (same_obj ho (by k_is))
  have F0 := Fr.known F hm
  obtain ⟨da, lo', pd', t1, t2, t3, har, had, hna⟩ := arled_two S.led
  have hf5 := S.few
  have hok' : ∀ f ∈ sortF fs, FileOk f := fun f hf => S.ok f ((sortF_perm fs).mem_iff.mp hf)
  have hsl : (sortF fs).length = fs.length := (sortF_perm fs).length_eq
  obtain ⟨hel, hel1⟩ := enc_len hok' (by omega)
  have hdl : dvs.length ≤ 1000 := by rw [S.dints.length]; exact hel
  have hul := C.units
  have hcl9 : cLine = 9900 := rfl
  have hps : ps.length ≤ 7 := by
    have : ps.length = (sortF fs).length := by rw [← S.old, oldFiles, List.length_map]
    omega
  have hcc : ∀ c, cnt = some c → FileOk (x, c) := by
    rintro c rfl
    obtain ⟨b, bvs, bep, rfl, hbm, hbI, hbo⟩ := hc
    exact hbo
  have N0 : News g L s.heap ((ar, instObj 224 da) :: (da, arDict w t1 t2 t3 ld lo' pd') :: (dd, W.listOf dvs.toArray dep) :: (ld, W.listOf lvs.toArray lep) :: (D, od2) :: (pl, o1) :: (cl, o2) :: tl) := by
    refine News.sub N fun p hp => ?_
    rcases List.mem_cons.mp hp with rfl | hp
    · exact .tail _ (.tail _ (.tail _ (S.sub _ har)))
    rcases List.mem_cons.mp hp with rfl | hp
    · exact .tail _ (.tail _ (.tail _ (S.sub _ had)))
    rcases List.mem_cons.mp hp with rfl | hp
    · exact .tail _ (.tail _ (.tail _ S.ddm))
    rcases List.mem_cons.mp hp with rfl | hp
    · exact .tail _ (.tail _ (.tail _ S.ldm))
    · exact hp
  clear F N
  dsimp only [List.drop]
  refine (?_ : wpAny (model PR w) _ _ _ _ _)
  refine wpAny_execs_cons ?_
  (repeat' (first | (k_unfold; (try dsimp only)) | ((fail_if_success (with_reducible first | refine (?_ : Exists _) | show wpAny _ _ (exec (Stmt.While _ _ _ _) _) _ _ _ | show wpAny _ _ (exec (Stmt.For _ _ _ _ _) _) _ _ _ | show wpAny _ _ (execs (List.cons (Stmt.Assign (List.cons (PySem.Expr.Name (Str.ofString "altered") _) List.nil) _ _) _) _) _ _ _ | show wpAny _ _ (execs (List.cons (Stmt.Assign (List.cons (PySem.Expr.Name (Str.ofString "spoiled") _) List.nil) _ _) _) _) _ _ _ | show wpAny _ _ (execs (List.cons (Stmt.For _ _ _ _ _) _) _) _ _ _ | show wpAny _ _ (PySem.call (Value.ref _) _ _) _ _ _ | show wpAny _ _ (PySem.call (Value.type "range") _ _) _ _ _ | show wpAny _ _ (PySem.call (Value.builtin "list.append") _ _) _ _ _ | show wpAny _ _ (PySem.call (Value.builtin "len") _ _) _ _ _ | show wpAny _ _ (setItem (Value.ref _) (Value.str _ _) _) _ _ _ | show wpAny _ _ (exec (Stmt.Raise _ _ _) _) _ _ _ | show wpAny _ _ (compareOp Cmpop.NotIn _ _) _ _ _ | refine (?_ : LCg.CompSrc _ _ _ _ _ _ _ _ _ _ _ _ _ _) | show wpAny _ _ (eval (PySem.Expr.ListComp _ _ _) _) _ _ _ | show wpAny _ _ (compareOp Cmpop.In _ _) _ _ _ | show wpAny _ _ (delItem (Value.ref _) (Value.str _ _)) _ _ _ | show wpAny _ _ (PySem.call (Value.builtin "sorted") _ _) _ _ _ | show wpAny _ _ (PySem.call (Value.builtin "dict.get") _ _) _ _ _ | show wpAny _ _ (compareOp CmpOp.NotEq (Value.ref _) (Value.ref _)) _ _ _ | show wpAny _ _ (subscriptTail _ _ (Value.ref _) (Value.int _ _)) _ _ _ | show wpAny _ _ (PySem.call (Value.builtin "list.pop") _ _) _ _ _ | show wpAny _ _ (compareOp CmpOp.Eq (Value.ref _) (Value.ref _)) _ _ _ | show wpAny _ _ (subscriptTail _ _ (Value.ref _) (Value.str _ _)) _ _ _)); walk1) | dsimp only | fail "no step"))
  rename Fr _ _ _ _ => F1
  rename News _ _ _ _ => N1
  rename_i d1 e1 h1 l1
  clear l1
  have hic : IsContent h1 x cv cnt := by
    cases cnt with
    | none => exact hc
    | some c =>
      obtain ⟨b, bvs, bep, rfl, hbm, hbI, hbo⟩ := hc
      exact ⟨b, bvs, bep, rfl, (N1 _ (.tail _ (.tail _ (.tail _ (.tail _ (.tail _ (.tail _ (.tail _ (.tail _ hbm))))))))).1, hbI, hbo⟩
  refine with_call G (C.now B F1).less (News.isList N1 (.head _)) S.dints (by omega) (enc_bytes hok') S.par (by rw [S.old]; exact hok') hps hxo hic ?_
  intro b1 wvs wep h2 tk2 k2 hbn hwI e2
  dsimp only at k2 hbn
  rw [S.old] at hwI
  have F2 := fr_kp F1 k2
  have N2 := News.made F1 N1 k2 hbn e2
  clear F1 N1
  (repeat' (first | (k_unfold; (try dsimp only)) | ((fail_if_success (with_reducible first | refine (?_ : Exists _) | show wpAny _ _ (exec (Stmt.While _ _ _ _) _) _ _ _ | show wpAny _ _ (exec (Stmt.For _ _ _ _ _) _) _ _ _ | show wpAny _ _ (execs (List.cons (Stmt.Assign (List.cons (PySem.Expr.Name (Str.ofString "altered") _) List.nil) _ _) _) _) _ _ _ | show wpAny _ _ (execs (List.cons (Stmt.Assign (List.cons (PySem.Expr.Name (Str.ofString "spoiled") _) List.nil) _ _) _) _) _ _ _ | show wpAny _ _ (execs (List.cons (Stmt.For _ _ _ _ _) _) _) _ _ _ | show wpAny _ _ (PySem.call (Value.ref _) _ _) _ _ _ | show wpAny _ _ (PySem.call (Value.type "range") _ _) _ _ _ | show wpAny _ _ (PySem.call (Value.builtin "list.append") _ _) _ _ _ | show wpAny _ _ (PySem.call (Value.builtin "len") _ _) _ _ _ | show wpAny _ _ (setItem (Value.ref _) (Value.str _ _) _) _ _ _ | show wpAny _ _ (exec (Stmt.Raise _ _ _) _) _ _ _ | show wpAny _ _ (compareOp Cmpop.NotIn _ _) _ _ _ | refine (?_ : LCg.CompSrc _ _ _ _ _ _ _ _ _ _ _ _ _ _) | show wpAny _ _ (eval (PySem.Expr.ListComp _ _ _) _) _ _ _ | show wpAny _ _ (compareOp Cmpop.In _ _) _ _ _ | show wpAny _ _ (delItem (Value.ref _) (Value.str _ _)) _ _ _ | show wpAny _ _ (PySem.call (Value.builtin "sorted") _ _) _ _ _ | show wpAny _ _ (PySem.call (Value.builtin "dict.get") _ _) _ _ _ | show wpAny _ _ (compareOp CmpOp.NotEq (Value.ref _) (Value.ref _)) _ _ _ | show wpAny _ _ (subscriptTail _ _ (Value.ref _) (Value.int _ _)) _ _ _ | show wpAny _ _ (PySem.call (Value.builtin "list.pop") _ _) _ _ _ | show wpAny _ _ (compareOp CmpOp.Eq (Value.ref _) (Value.ref _)) _ _ _ | show wpAny _ _ (subscriptTail _ _ (Value.ref _) (Value.str _ _)) _ _ _)); walk1) | dsimp only | fail "no step"))
  have hfs2h : FilesIn h2 kvs2 (newFiles fs x cnt) := hfs2.mono fun a o h => (N2 _ (.tail _ (.tail _ (.tail _ (.tail _ (.tail _ (.tail _ (.tail _ (.tail _ (.tail _ h)))))))))).1
  refine pack_call G (C.now B F2).less (N2 (D, od2) (by k_mem)).1 hod2 hsm2 hfs2h (newFiles_ok S.ok hcc) (Nat.le_trans (newFiles_len _ _ _) (by omega)) ?_
  intro b2 pvs pep h3 tk3 k3 hb2 hpI e3
  dsimp only at k3 hb2
  have F3 := fr_kp F2 k3
  have N3 := News.made F2 N2 k3 hb2 e3
  clear F2 N2
  have hnd2 : ((newFiles fs x cnt).map (·.1)).Nodup := by
    obtain ⟨_, _, _, _, _, _, hn⟩ := hod2
    rw [← hfs2.keys]; exact hn
  have hsame : enc (sortF (newFiles (sortF fs) x cnt)) = enc (sortF (newFiles fs x cnt)) := by
    rw [sortF_uniq (newFiles_perm (sortF_perm fs) x cnt) hnd2]
  rw [hsame] at hwI
  (repeat' (first | (k_unfold; (try dsimp only)) | ((fail_if_success (with_reducible first | refine (?_ : Exists _) | show wpAny _ _ (exec (Stmt.While _ _ _ _) _) _ _ _ | show wpAny _ _ (exec (Stmt.For _ _ _ _ _) _) _ _ _ | show wpAny _ _ (execs (List.cons (Stmt.Assign (List.cons (PySem.Expr.Name (Str.ofString "altered") _) List.nil) _ _) _) _) _ _ _ | show wpAny _ _ (execs (List.cons (Stmt.Assign (List.cons (PySem.Expr.Name (Str.ofString "spoiled") _) List.nil) _ _) _) _) _ _ _ | show wpAny _ _ (execs (List.cons (Stmt.For _ _ _ _ _) _) _) _ _ _ | show wpAny _ _ (PySem.call (Value.ref _) _ _) _ _ _ | show wpAny _ _ (PySem.call (Value.type "range") _ _) _ _ _ | show wpAny _ _ (PySem.call (Value.builtin "list.append") _ _) _ _ _ | show wpAny _ _ (PySem.call (Value.builtin "len") _ _) _ _ _ | show wpAny _ _ (setItem (Value.ref _) (Value.str _ _) _) _ _ _ | show wpAny _ _ (exec (Stmt.Raise _ _ _) _) _ _ _ | show wpAny _ _ (compareOp Cmpop.NotIn _ _) _ _ _ | refine (?_ : LCg.CompSrc _ _ _ _ _ _ _ _ _ _ _ _ _ _) | show wpAny _ _ (eval (PySem.Expr.ListComp _ _ _) _) _ _ _ | show wpAny _ _ (compareOp Cmpop.In _ _) _ _ _ | show wpAny _ _ (delItem (Value.ref _) (Value.str _ _)) _ _ _ | show wpAny _ _ (PySem.call (Value.builtin "sorted") _ _) _ _ _ | show wpAny _ _ (PySem.call (Value.builtin "dict.get") _ _) _ _ _ | show wpAny _ _ (compareOp CmpOp.NotEq (Value.ref _) (Value.ref _)) _ _ _ | show wpAny _ _ (subscriptTail _ _ (Value.ref _) (Value.int _ _)) _ _ _ | show wpAny _ _ (PySem.call (Value.builtin "list.pop") _ _) _ _ _ | show wpAny _ _ (compareOp CmpOp.Eq (Value.ref _) (Value.ref _)) _ _ _ | show wpAny _ _ (subscriptTail _ _ (Value.ref _) (Value.str _ _)) _ _ _)); walk1) | dsimp only | fail "no step"))
  refine ne_intsK (News.isList N3 (.tail _ (.head _))) hwI (News.isList N3 (.head _)) hpI (by omega) ?_
  rw [decide_eq_true rfl]
  (repeat' (first | (k_unfold; (try dsimp only)) | ((fail_if_success (with_reducible first | refine (?_ : Exists _) | show wpAny _ _ (exec (Stmt.While _ _ _ _) _) _ _ _ | show wpAny _ _ (exec (Stmt.For _ _ _ _ _) _) _ _ _ | show wpAny _ _ (execs (List.cons (Stmt.Assign (List.cons (PySem.Expr.Name (Str.ofString "altered") _) List.nil) _ _) _) _) _ _ _ | show wpAny _ _ (execs (List.cons (Stmt.Assign (List.cons (PySem.Expr.Name (Str.ofString "spoiled") _) List.nil) _ _) _) _) _ _ _ | show wpAny _ _ (execs (List.cons (Stmt.For _ _ _ _ _) _) _) _ _ _ | show wpAny _ _ (PySem.call (Value.ref _) _ _) _ _ _ | show wpAny _ _ (PySem.call (Value.type "range") _ _) _ _ _ | show wpAny _ _ (PySem.call (Value.builtin "list.append") _ _) _ _ _ | show wpAny _ _ (PySem.call (Value.builtin "len") _ _) _ _ _ | show wpAny _ _ (setItem (Value.ref _) (Value.str _ _) _) _ _ _ | show wpAny _ _ (exec (Stmt.Raise _ _ _) _) _ _ _ | show wpAny _ _ (compareOp Cmpop.NotIn _ _) _ _ _ | refine (?_ : LCg.CompSrc _ _ _ _ _ _ _ _ _ _ _ _ _ _) | show wpAny _ _ (eval (PySem.Expr.ListComp _ _ _) _) _ _ _ | show wpAny _ _ (compareOp Cmpop.In _ _) _ _ _ | show wpAny _ _ (delItem (Value.ref _) (Value.str _ _)) _ _ _ | show wpAny _ _ (PySem.call (Value.builtin "sorted") _ _) _ _ _ | show wpAny _ _ (PySem.call (Value.builtin "dict.get") _ _) _ _ _ | show wpAny _ _ (compareOp CmpOp.NotEq (Value.ref _) (Value.ref _)) _ _ _ | show wpAny _ _ (subscriptTail _ _ (Value.ref _) (Value.int _ _)) _ _ _ | show wpAny _ _ (PySem.call (Value.builtin "list.pop") _ _) _ _ _ | show wpAny _ _ (compareOp CmpOp.Eq (Value.ref _) (Value.ref _)) _ _ _ | show wpAny _ _ (subscriptTail _ _ (Value.ref _) (Value.str _ _)) _ _ _)); walk1) | dsimp only | fail "no step"))
  refine ne_intsK (News.isList N3 (a := ld) (by k_mem)) S.lints (News.isList N3 (a := dd) (by k_mem)) S.dints (by omega) ?_
  rw [decide_eq_true rfl]
  (repeat' (first | (k_unfold; (try dsimp only)) | ((fail_if_success (with_reducible first | refine (?_ : Exists _) | show wpAny _ _ (exec (Stmt.While _ _ _ _) _) _ _ _ | show wpAny _ _ (exec (Stmt.For _ _ _ _ _) _) _ _ _ | show wpAny _ _ (execs (List.cons (Stmt.Assign (List.cons (PySem.Expr.Name (Str.ofString "altered") _) List.nil) _ _) _) _) _ _ _ | show wpAny _ _ (execs (List.cons (Stmt.Assign (List.cons (PySem.Expr.Name (Str.ofString "spoiled") _) List.nil) _ _) _) _) _ _ _ | show wpAny _ _ (execs (List.cons (Stmt.For _ _ _ _ _) _) _) _ _ _ | show wpAny _ _ (PySem.call (Value.ref _) _ _) _ _ _ | show wpAny _ _ (PySem.call (Value.type "range") _ _) _ _ _ | show wpAny _ _ (PySem.call (Value.builtin "list.append") _ _) _ _ _ | show wpAny _ _ (PySem.call (Value.builtin "len") _ _) _ _ _ | show wpAny _ _ (setItem (Value.ref _) (Value.str _ _) _) _ _ _ | show wpAny _ _ (exec (Stmt.Raise _ _ _) _) _ _ _ | show wpAny _ _ (compareOp Cmpop.NotIn _ _) _ _ _ | refine (?_ : LCg.CompSrc _ _ _ _ _ _ _ _ _ _ _ _ _ _) | show wpAny _ _ (eval (PySem.Expr.ListComp _ _ _) _) _ _ _ | show wpAny _ _ (compareOp Cmpop.In _ _) _ _ _ | show wpAny _ _ (delItem (Value.ref _) (Value.str _ _)) _ _ _ | show wpAny _ _ (PySem.call (Value.builtin "sorted") _ _) _ _ _ | show wpAny _ _ (PySem.call (Value.builtin "dict.get") _ _) _ _ _ | show wpAny _ _ (compareOp CmpOp.NotEq (Value.ref _) (Value.ref _)) _ _ _ | show wpAny _ _ (subscriptTail _ _ (Value.ref _) (Value.int _ _)) _ _ _ | show wpAny _ _ (PySem.call (Value.builtin "list.pop") _ _) _ _ _ | show wpAny _ _ (compareOp CmpOp.Eq (Value.ref _) (Value.ref _)) _ _ _ | show wpAny _ _ (subscriptTail _ _ (Value.ref _) (Value.str _ _)) _ _ _)); walk1) | dsimp only | fail "no step"))
  exact next h3 _ _ F3 (by simp only [List.forall_mem_cons]; exact ⟨rfl, rfl, fun _ hq => absurd hq List.not_mem_nil⟩) (News.sub N3 fun p hp => .tail _ (.tail _ (.tail _ (.tail _ (.tail _ (.tail _ (.tail _ (.tail _ hp))))))))
end

section
open PySem PySem.W PyProof.Rows PySem.Calls



variable {w : World} {mean : ExcName → Option Value} {mg mb : Str → Option Value} {base : Heap} {A : Around} {l : List Env} {s : Shared}


theorem ints_take : ∀ {vs : List Value} {ns : List Int}, IntsAre vs ns → ∀ k, IntsAre (vs.take k) (ns.take k)
  | _, _, .nil, k => by simp only [List.take_nil]; exact .nil
  | _, _, .cons n t r, 0 => .nil
  | _, _, .cons n t r, k + 1 => .cons n t (ints_take r k)
theorem ints_drop : ∀ {vs : List Value} {ns : List Int}, IntsAre vs ns → ∀ k, IntsAre (vs.drop k) (ns.drop k)
  | _, _, .nil, k => by simp only [List.drop_nil]; exact .nil
  | _, _, .cons n t r, 0 => .cons n t r
  | _, _, .cons n t r, k + 1 => ints_drop r k

theorem law4 {n : Nat} {L a : Addr} {g : Heap} {name qual : Str} {params : Arguments} {body : List Stmt} {scope : Scope} {dV kV doc pm cdv cdv' ct oc : Value} {an odd : Option Addr} {osl : Array (Option Value)} {Q : Flow → Shared → Prop} {E : Value → Shared → Prop}
    {m : Str → Option Value} {fs : Files} {pl cl : Addr} {o1 o2 : Obj} {fd dd ar ld : Addr} {tl : List (Addr × Obj)} {ps : List (Str × Int × Int)} {al : List (Addr × Obj)} {od : Obj} {kvs : List (Str × Value)} {dvs lvs : List Value} {dep lep : Nat}
    (G : Gr w mean mg mb base) (ho : (hd.heap_1 w.params).lookup 259 = some ⟨oc, odd, .func (fnOf name qual params body scope dV kV doc pm an cdv ct), osl⟩)
    (C : At base (A.deeper (envOf qual scope L a cdv')) (envOf qual scope L a cdv' :: l) 20 s.heap) (B : Below A base l g) (X : (hd.heap_1 w.params).In g) (TT : Top hd.view_1 (looseW hd.view_1 []) mean mg mb g)
    (S : LawSt w fs fd dd ar ld tl ps al od kvs dvs lvs dep lep) (F : Fr g L s.heap m)
    (hm : ∀ z ∈ [(Str.ofString "pool", Value.ref pl), (Str.ofString "data", Value.ref dd)], m z.1 = some z.2)
    (N : News g L s.heap ((pl, o1) :: (cl, o2) :: tl)) (hp : Pool cl o1 o2) (hne : pl ≠ cl) (htp : ∀ p ∈ tl, p.1 ≠ pl ∧ p.1 ≠ cl)
    (next : ∀ h' tk m' sp svs sep sns, Fr g L h' m' → (∀ z ∈ [(Str.ofString "spoiled", Value.ref sp), (Str.ofString "data", Value.ref dd)], m' z.1 = some z.2) →
      News g L h' [(sp, W.listOf svs.toArray sep), (dd, W.listOf dvs.toArray dep)] → IntsAre svs sns → (∀ n ∈ sns, 0 ≤ n ∧ n ≤ 255) → sns.length ≤ 122 → sp ≠ dd →
      wpAny (model PR w) (A.deeper (envOf qual scope L a cdv')) (execs (body.drop 15) (envOf qual scope L a cdv')) Q E { s with heap := h', toks := tk }) :
    wpAny (model PR w) (A.deeper (envOf qual scope L a cdv')) (execs (body.drop 12) (envOf qual scope L a cdv')) Q E s := by
  obtain ⟨rfl, rfl, rfl⟩ := fn_inj (same_obj ho (by k_is))
  have F0 := Fr.known F hm
  have hf5 := S.few
  have hok' : ∀ f ∈ sortF fs, FileOk f := fun f hf => S.ok f ((sortF_perm fs).mem_iff.mp hf)
  have hsl : (sortF fs).length = fs.length := (sortF_perm fs).length_eq
  obtain ⟨hel, hel1⟩ := enc_len hok' (by omega)
  have hel2 := enc_small hok' (by omega)
  have hdl : dvs.length ≤ 121 := by rw [S.dints.length]; exact hel2
  have hdl1 : 1 ≤ dvs.length := by rw [S.dints.length]; exact hel1
  have hdpl := htp _ S.ddm
  dsimp only at hdpl
  have N0 : News g L s.heap [(dd, W.listOf dvs.toArray dep), (pl, o1), (cl, o2)] := by
    refine News.sub N fun p hp => ?_
    rcases List.mem_cons.mp hp with rfl | hp
    · exact .tail _ (.tail _ S.ddm)
    rcases List.mem_cons.mp hp with rfl | hp
    · exact .head _
    · rw [List.mem_singleton.mp hp]; exact .tail _ (.head _)
  clear F N
  dsimp only [List.drop]
  refine (?_ : wpAny (model PR w) _ _ _ _ _)
  (repeat' (first | (k_unfold; (try dsimp only)) | ((fail_if_success (with_reducible first | refine (?_ : Exists _) | show wpAny _ _ (exec (Stmt.While _ _ _ _) _) _ _ _ | show wpAny _ _ (exec (Stmt.For _ _ _ _ _) _) _ _ _ | show wpAny _ _ (execs (List.cons (Stmt.Assign (List.cons (PySem.Expr.Name (Str.ofString "altered") _) List.nil) _ _) _) _) _ _ _ | show wpAny _ _ (execs (List.cons (Stmt.For _ _ _ _ _) _) _) _ _ _ | show wpAny _ _ (PySem.call (Value.ref _) _ _) _ _ _ | show wpAny _ _ (PySem.call (Value.type "range") _ _) _ _ _ | show wpAny _ _ (PySem.call (Value.builtin "list.append") _ _) _ _ _ | show wpAny _ _ (PySem.call (Value.builtin "len") _ _) _ _ _ | show wpAny _ _ (setItem (Value.ref _) (Value.str _ _) _) _ _ _ | show wpAny _ _ (exec (Stmt.Raise _ _ _) _) _ _ _ | show wpAny _ _ (compareOp Cmpop.NotIn _ _) _ _ _ | refine (?_ : LCg.CompSrc _ _ _ _ _ _ _ _ _ _ _ _ _ _) | show wpAny _ _ (eval (PySem.Expr.ListComp _ _ _) _) _ _ _ | show wpAny _ _ (compareOp Cmpop.In _ _) _ _ _ | show wpAny _ _ (delItem (Value.ref _) (Value.str _ _)) _ _ _ | show wpAny _ _ (PySem.call (Value.builtin "sorted") _ _) _ _ _ | show wpAny _ _ (PySem.call (Value.builtin "list.insert") _ _) _ _ _ | show wpAny _ _ (setItem (Value.ref _) (Value.int _ _) _) _ _ _ | show wpAny _ _ (execs (List.cons (Stmt.Try _ _ _ _ _) _) _) _ _ _ | show wpAny _ _ (PySem.call (Value.builtin "dict.get") _ _) _ _ _ | show wpAny _ _ (compareOp CmpOp.NotEq (Value.ref _) (Value.ref _)) _ _ _ | show wpAny _ _ (subscriptTail _ _ (Value.ref _) (Value.int _ _)) _ _ _ | show wpAny _ _ (PySem.call (Value.builtin "list.pop") _ _) _ _ _ | show wpAny _ _ (compareOp CmpOp.Eq (Value.ref _) (Value.ref _)) _ _ _ | show wpAny _ _ (subscriptTail _ _ (Value.ref _) (Value.str _ _)) _ _ _)); walk1) | dsimp only | fail "no step"))
  rename Fr _ _ _ _ => F1
  rename News _ _ _ _ => N1
  rename_i sp sep _ l1 h1
  obtain ⟨l11, l12, l13⟩ := l1
  have hsd : sp ≠ dd := Nat.ne_of_gt l11
  have hspl : sp ≠ pl := Nat.ne_of_gt l12
  have hscl : sp ≠ cl := Nat.ne_of_gt l13
  have hby := enc_bytes hok'
  have hdI := S.dints
  have hpre : ∀ p ∈ [(sp, W.listOf dvs.toArray sep), (dd, W.listOf dvs.toArray dep)], p.1 ≠ pl ∧ p.1 ≠ cl := by
    simp only [List.forall_mem_cons]
    exact ⟨⟨hspl, hscl⟩, hdpl, fun _ hq => absurd hq List.not_mem_nil⟩
  refine draw_call G (C.now B F1).less (Core.mk (C.now B F1) B (News.sub N1 (pick2 (a := (pl, o1)) (b := (cl, o2)) (by k_mem) (by k_mem)))) hne hp (by decide) (by decide) ?_
  intro u o3 o4 h2 tk2 tu hu0 hu1 k2 e21 e22 hp2
  have F2 := fr_two (oa := o1) (ob := o2) F1 N1 k2 (by k_mem) (by k_mem)
  have N2 := news_pool (pre := [_, _]) (tl := []) N1 k2 e21 e22 hpre (fun _ hq => absurd hq List.not_mem_nil)
  rw [List.cons_append, List.cons_append, List.nil_append] at N2
  clear F1 N1
  (repeat' (first | (k_unfold; (try dsimp only)) | ((fail_if_success (with_reducible first | refine (?_ : Exists _) | show wpAny _ _ (exec (Stmt.While _ _ _ _) _) _ _ _ | show wpAny _ _ (exec (Stmt.For _ _ _ _ _) _) _ _ _ | show wpAny _ _ (execs (List.cons (Stmt.Assign (List.cons (PySem.Expr.Name (Str.ofString "altered") _) List.nil) _ _) _) _) _ _ _ | show wpAny _ _ (execs (List.cons (Stmt.For _ _ _ _ _) _) _) _ _ _ | show wpAny _ _ (PySem.call (Value.ref _) _ _) _ _ _ | show wpAny _ _ (PySem.call (Value.type "range") _ _) _ _ _ | show wpAny _ _ (PySem.call (Value.builtin "list.append") _ _) _ _ _ | show wpAny _ _ (PySem.call (Value.builtin "len") _ _) _ _ _ | show wpAny _ _ (setItem (Value.ref _) (Value.str _ _) _) _ _ _ | show wpAny _ _ (exec (Stmt.Raise _ _ _) _) _ _ _ | show wpAny _ _ (compareOp Cmpop.NotIn _ _) _ _ _ | refine (?_ : LCg.CompSrc _ _ _ _ _ _ _ _ _ _ _ _ _ _) | show wpAny _ _ (eval (PySem.Expr.ListComp _ _ _) _) _ _ _ | show wpAny _ _ (compareOp Cmpop.In _ _) _ _ _ | show wpAny _ _ (delItem (Value.ref _) (Value.str _ _)) _ _ _ | show wpAny _ _ (PySem.call (Value.builtin "sorted") _ _) _ _ _ | show wpAny _ _ (PySem.call (Value.builtin "list.insert") _ _) _ _ _ | show wpAny _ _ (setItem (Value.ref _) (Value.int _ _) _) _ _ _ | show wpAny _ _ (execs (List.cons (Stmt.Try _ _ _ _ _) _) _) _ _ _ | show wpAny _ _ (PySem.call (Value.builtin "dict.get") _ _) _ _ _ | show wpAny _ _ (compareOp CmpOp.NotEq (Value.ref _) (Value.ref _)) _ _ _ | show wpAny _ _ (subscriptTail _ _ (Value.ref _) (Value.int _ _)) _ _ _ | show wpAny _ _ (PySem.call (Value.builtin "list.pop") _ _) _ _ _ | show wpAny _ _ (compareOp CmpOp.Eq (Value.ref _) (Value.ref _)) _ _ _ | show wpAny _ _ (subscriptTail _ _ (Value.ref _) (Value.str _ _)) _ _ _)); walk1) | dsimp only | fail "no step"))
  · rename Fr _ _ _ _ => F3
    rename News _ _ _ _ => N3
    refine draw_call G (C.now B F3).less (Core.mk (C.now B F3) B (News.sub N3 (pick2 (a := (pl, o3)) (b := (cl, o4)) (by k_mem) (by k_mem)))) hne hp2 (by decide) (by decide) ?_
    intro v o5 o6 h4 tk4 tv hv0 hv1 k4 e41 e42 hp4
    have F4 := fr_two (oa := o3) (ob := o4) F3 N3 k4 (by k_mem) (by k_mem)
    have N4 := news_pool (pre := [_, _]) (tl := []) N3 k4 e41 e42 hpre (fun _ hq => absurd hq List.not_mem_nil)
    rw [List.cons_append, List.cons_append, List.nil_append] at N4
    clear F3 N3
    (repeat' (first | (k_unfold; (try dsimp only)) | ((fail_if_success (with_reducible first | refine (?_ : Exists _) | show wpAny _ _ (exec (Stmt.While _ _ _ _) _) _ _ _ | show wpAny _ _ (exec (Stmt.For _ _ _ _ _) _) _ _ _ | show wpAny _ _ (execs (List.cons (Stmt.Assign (List.cons (PySem.Expr.Name (Str.ofString "altered") _) List.nil) _ _) _) _) _ _ _ | show wpAny _ _ (execs (List.cons (Stmt.For _ _ _ _ _) _) _) _ _ _ | show wpAny _ _ (PySem.call (Value.ref _) _ _) _ _ _ | show wpAny _ _ (PySem.call (Value.type "range") _ _) _ _ _ | show wpAny _ _ (PySem.call (Value.builtin "list.append") _ _) _ _ _ | show wpAny _ _ (PySem.call (Value.builtin "len") _ _) _ _ _ | show wpAny _ _ (setItem (Value.ref _) (Value.str _ _) _) _ _ _ | show wpAny _ _ (exec (Stmt.Raise _ _ _) _) _ _ _ | show wpAny _ _ (compareOp Cmpop.NotIn _ _) _ _ _ | refine (?_ : LCg.CompSrc _ _ _ _ _ _ _ _ _ _ _ _ _ _) | show wpAny _ _ (eval (PySem.Expr.ListComp _ _ _) _) _ _ _ | show wpAny _ _ (compareOp Cmpop.In _ _) _ _ _ | show wpAny _ _ (delItem (Value.ref _) (Value.str _ _)) _ _ _ | show wpAny _ _ (PySem.call (Value.builtin "sorted") _ _) _ _ _ | show wpAny _ _ (PySem.call (Value.builtin "list.insert") _ _) _ _ _ | show wpAny _ _ (setItem (Value.ref _) (Value.int _ _) _) _ _ _ | show wpAny _ _ (execs (List.cons (Stmt.Try _ _ _ _ _) _) _) _ _ _ | show wpAny _ _ (PySem.call (Value.builtin "dict.get") _ _) _ _ _ | show wpAny _ _ (compareOp CmpOp.NotEq (Value.ref _) (Value.ref _)) _ _ _ | show wpAny _ _ (subscriptTail _ _ (Value.ref _) (Value.int _ _)) _ _ _ | show wpAny _ _ (PySem.call (Value.builtin "list.pop") _ _) _ _ _ | show wpAny _ _ (compareOp CmpOp.Eq (Value.ref _) (Value.ref _)) _ _ _ | show wpAny _ _ (subscriptTail _ _ (Value.ref _) (Value.str _ _)) _ _ _)); walk1) | dsimp only | fail "no step"))
    refine len_of (News.isList N4 (.head _)) rfl (by omega) ?_
    (repeat' (first | (k_unfold; (try dsimp only)) | ((fail_if_success (with_reducible first | refine (?_ : Exists _) | show wpAny _ _ (exec (Stmt.While _ _ _ _) _) _ _ _ | show wpAny _ _ (exec (Stmt.For _ _ _ _ _) _) _ _ _ | show wpAny _ _ (execs (List.cons (Stmt.Assign (List.cons (PySem.Expr.Name (Str.ofString "altered") _) List.nil) _ _) _) _) _ _ _ | show wpAny _ _ (execs (List.cons (Stmt.For _ _ _ _ _) _) _) _ _ _ | show wpAny _ _ (PySem.call (Value.ref _) _ _) _ _ _ | show wpAny _ _ (PySem.call (Value.type "range") _ _) _ _ _ | show wpAny _ _ (PySem.call (Value.builtin "list.append") _ _) _ _ _ | show wpAny _ _ (PySem.call (Value.builtin "len") _ _) _ _ _ | show wpAny _ _ (setItem (Value.ref _) (Value.str _ _) _) _ _ _ | show wpAny _ _ (exec (Stmt.Raise _ _ _) _) _ _ _ | show wpAny _ _ (compareOp Cmpop.NotIn _ _) _ _ _ | refine (?_ : LCg.CompSrc _ _ _ _ _ _ _ _ _ _ _ _ _ _) | show wpAny _ _ (eval (PySem.Expr.ListComp _ _ _) _) _ _ _ | show wpAny _ _ (compareOp Cmpop.In _ _) _ _ _ | show wpAny _ _ (delItem (Value.ref _) (Value.str _ _)) _ _ _ | show wpAny _ _ (PySem.call (Value.builtin "sorted") _ _) _ _ _ | show wpAny _ _ (PySem.call (Value.builtin "list.insert") _ _) _ _ _ | show wpAny _ _ (setItem (Value.ref _) (Value.int _ _) _) _ _ _ | show wpAny _ _ (execs (List.cons (Stmt.Try _ _ _ _ _) _) _) _ _ _ | show wpAny _ _ (PySem.call (Value.builtin "dict.get") _ _) _ _ _ | show wpAny _ _ (compareOp CmpOp.NotEq (Value.ref _) (Value.ref _)) _ _ _ | show wpAny _ _ (subscriptTail _ _ (Value.ref _) (Value.int _ _)) _ _ _ | show wpAny _ _ (PySem.call (Value.builtin "list.pop") _ _) _ _ _ | show wpAny _ _ (compareOp CmpOp.Eq (Value.ref _) (Value.ref _)) _ _ _ | show wpAny _ _ (subscriptTail _ _ (Value.ref _) (Value.str _ _)) _ _ _)); walk1) | dsimp only | fail "no step"))
    refine draw_call G (C.now B F4).less (Core.mk (C.now B F4) B (News.sub N4 (pick2 (a := (pl, o5)) (b := (cl, o6)) (by k_mem) (by k_mem)))) hne hp4 (by omega) (by omega) ?_
    intro i o7 o8 h5 tk5 ti hi0 hi1 k5 e51 e52 hp5
    have F5 := fr_two (oa := o5) (ob := o6) F4 N4 k5 (by k_mem) (by k_mem)
    have N5 := news_pool (pre := [_, _]) (tl := []) N4 k5 e51 e52 hpre (fun _ hq => absurd hq List.not_mem_nil)
    rw [List.cons_append, List.cons_append, List.nil_append] at N5
    clear F4 N4
    (repeat' (first | (k_unfold; (try dsimp only)) | ((fail_if_success (with_reducible first | refine (?_ : Exists _) | show wpAny _ _ (exec (Stmt.While _ _ _ _) _) _ _ _ | show wpAny _ _ (exec (Stmt.For _ _ _ _ _) _) _ _ _ | show wpAny _ _ (execs (List.cons (Stmt.Assign (List.cons (PySem.Expr.Name (Str.ofString "altered") _) List.nil) _ _) _) _) _ _ _ | show wpAny _ _ (execs (List.cons (Stmt.For _ _ _ _ _) _) _) _ _ _ | show wpAny _ _ (PySem.call (Value.ref _) _ _) _ _ _ | show wpAny _ _ (PySem.call (Value.type "range") _ _) _ _ _ | show wpAny _ _ (PySem.call (Value.builtin "list.append") _ _) _ _ _ | show wpAny _ _ (PySem.call (Value.builtin "len") _ _) _ _ _ | show wpAny _ _ (setItem (Value.ref _) (Value.str _ _) _) _ _ _ | show wpAny _ _ (exec (Stmt.Raise _ _ _) _) _ _ _ | show wpAny _ _ (compareOp Cmpop.NotIn _ _) _ _ _ | refine (?_ : LCg.CompSrc _ _ _ _ _ _ _ _ _ _ _ _ _ _) | show wpAny _ _ (eval (PySem.Expr.ListComp _ _ _) _) _ _ _ | show wpAny _ _ (compareOp Cmpop.In _ _) _ _ _ | show wpAny _ _ (delItem (Value.ref _) (Value.str _ _)) _ _ _ | show wpAny _ _ (PySem.call (Value.builtin "sorted") _ _) _ _ _ | show wpAny _ _ (PySem.call (Value.builtin "list.insert") _ _) _ _ _ | show wpAny _ _ (setItem (Value.ref _) (Value.int _ _) _) _ _ _ | show wpAny _ _ (execs (List.cons (Stmt.Try _ _ _ _ _) _) _) _ _ _ | show wpAny _ _ (PySem.call (Value.builtin "dict.get") _ _) _ _ _ | show wpAny _ _ (compareOp CmpOp.NotEq (Value.ref _) (Value.ref _)) _ _ _ | show wpAny _ _ (subscriptTail _ _ (Value.ref _) (Value.int _ _)) _ _ _ | show wpAny _ _ (PySem.call (Value.builtin "list.pop") _ _) _ _ _ | show wpAny _ _ (compareOp CmpOp.Eq (Value.ref _) (Value.ref _)) _ _ _ | show wpAny _ _ (subscriptTail _ _ (Value.ref _) (Value.str _ _)) _ _ _)); walk1) | dsimp only | fail "no step"))
    refine ksa_set F5 N5 (by k_upd) hdI hi0 (by have := hdI.length; omega) (by omega) ?_
    intro h6 F6 N6 hI6 hl6 _
    (repeat' (first | (k_unfold; (try dsimp only)) | ((fail_if_success (with_reducible first | refine (?_ : Exists _) | show wpAny _ _ (exec (Stmt.While _ _ _ _) _) _ _ _ | show wpAny _ _ (exec (Stmt.For _ _ _ _ _) _) _ _ _ | show wpAny _ _ (execs (List.cons (Stmt.Assign (List.cons (PySem.Expr.Name (Str.ofString "altered") _) List.nil) _ _) _) _) _ _ _ | show wpAny _ _ (execs (List.cons (Stmt.For _ _ _ _ _) _) _) _ _ _ | show wpAny _ _ (PySem.call (Value.ref _) _ _) _ _ _ | show wpAny _ _ (PySem.call (Value.type "range") _ _) _ _ _ | show wpAny _ _ (PySem.call (Value.builtin "list.append") _ _) _ _ _ | show wpAny _ _ (PySem.call (Value.builtin "len") _ _) _ _ _ | show wpAny _ _ (setItem (Value.ref _) (Value.str _ _) _) _ _ _ | show wpAny _ _ (exec (Stmt.Raise _ _ _) _) _ _ _ | show wpAny _ _ (compareOp Cmpop.NotIn _ _) _ _ _ | refine (?_ : LCg.CompSrc _ _ _ _ _ _ _ _ _ _ _ _ _ _) | show wpAny _ _ (eval (PySem.Expr.ListComp _ _ _) _) _ _ _ | show wpAny _ _ (compareOp Cmpop.In _ _) _ _ _ | show wpAny _ _ (delItem (Value.ref _) (Value.str _ _)) _ _ _ | show wpAny _ _ (PySem.call (Value.builtin "sorted") _ _) _ _ _ | show wpAny _ _ (PySem.call (Value.builtin "list.insert") _ _) _ _ _ | show wpAny _ _ (setItem (Value.ref _) (Value.int _ _) _) _ _ _ | show wpAny _ _ (execs (List.cons (Stmt.Try _ _ _ _ _) _) _) _ _ _ | show wpAny _ _ (PySem.call (Value.builtin "dict.get") _ _) _ _ _ | show wpAny _ _ (compareOp CmpOp.NotEq (Value.ref _) (Value.ref _)) _ _ _ | show wpAny _ _ (subscriptTail _ _ (Value.ref _) (Value.int _ _)) _ _ _ | show wpAny _ _ (PySem.call (Value.builtin "list.pop") _ _) _ _ _ | show wpAny _ _ (compareOp CmpOp.Eq (Value.ref _) (Value.ref _)) _ _ _ | show wpAny _ _ (subscriptTail _ _ (Value.ref _) (Value.str _ _)) _ _ _)); walk1) | dsimp only | fail "no step"))
    refine next _ _ _ sp _ sep _ F6 (by simp only [List.forall_mem_cons]; exact ⟨rfl, rfl, fun _ hq => absurd hq List.not_mem_nil⟩) (News.sub N6 (pick2 (.head _) (.tail _ (.head _)))) hI6 (fun n hn => ?_) (by omega) hsd
    rcases List.mem_or_eq_of_mem_set hn with q | rfl
    · exact hby n q
    · omega
  · rename Fr _ _ _ _ => F3
    rename News _ _ _ _ => N3
    refine len_of (News.isList N3 (.head _)) rfl (by omega) ?_
    (repeat' (first | (k_unfold; (try dsimp only)) | ((fail_if_success (with_reducible first | refine (?_ : Exists _) | show wpAny _ _ (exec (Stmt.While _ _ _ _) _) _ _ _ | show wpAny _ _ (exec (Stmt.For _ _ _ _ _) _) _ _ _ | show wpAny _ _ (execs (List.cons (Stmt.Assign (List.cons (PySem.Expr.Name (Str.ofString "altered") _) List.nil) _ _) _) _) _ _ _ | show wpAny _ _ (execs (List.cons (Stmt.For _ _ _ _ _) _) _) _ _ _ | show wpAny _ _ (PySem.call (Value.ref _) _ _) _ _ _ | show wpAny _ _ (PySem.call (Value.type "range") _ _) _ _ _ | show wpAny _ _ (PySem.call (Value.builtin "list.append") _ _) _ _ _ | show wpAny _ _ (PySem.call (Value.builtin "len") _ _) _ _ _ | show wpAny _ _ (setItem (Value.ref _) (Value.str _ _) _) _ _ _ | show wpAny _ _ (exec (Stmt.Raise _ _ _) _) _ _ _ | show wpAny _ _ (compareOp Cmpop.NotIn _ _) _ _ _ | refine (?_ : LCg.CompSrc _ _ _ _ _ _ _ _ _ _ _ _ _ _) | show wpAny _ _ (eval (PySem.Expr.ListComp _ _ _) _) _ _ _ | show wpAny _ _ (compareOp Cmpop.In _ _) _ _ _ | show wpAny _ _ (delItem (Value.ref _) (Value.str _ _)) _ _ _ | show wpAny _ _ (PySem.call (Value.builtin "sorted") _ _) _ _ _ | show wpAny _ _ (PySem.call (Value.builtin "list.insert") _ _) _ _ _ | show wpAny _ _ (setItem (Value.ref _) (Value.int _ _) _) _ _ _ | show wpAny _ _ (execs (List.cons (Stmt.Try _ _ _ _ _) _) _) _ _ _ | show wpAny _ _ (PySem.call (Value.builtin "dict.get") _ _) _ _ _ | show wpAny _ _ (compareOp CmpOp.NotEq (Value.ref _) (Value.ref _)) _ _ _ | show wpAny _ _ (subscriptTail _ _ (Value.ref _) (Value.int _ _)) _ _ _ | show wpAny _ _ (PySem.call (Value.builtin "list.pop") _ _) _ _ _ | show wpAny _ _ (compareOp CmpOp.Eq (Value.ref _) (Value.ref _)) _ _ _ | show wpAny _ _ (subscriptTail _ _ (Value.ref _) (Value.str _ _)) _ _ _)); walk1) | dsimp only | fail "no step"))
    refine draw_call G (C.now B F3).less (Core.mk (C.now B F3) B (News.sub N3 (pick2 (a := (pl, o3)) (b := (cl, o4)) (by k_mem) (by k_mem)))) hne hp2 (by omega) (by omega) ?_
    intro i o5 o6 h4 tk4 ti hi0 hi1 k4 e41 e42 hp4
    have F4 := fr_two (oa := o3) (ob := o4) F3 N3 k4 (by k_mem) (by k_mem)
    have N4 := news_pool (pre := [_, _]) (tl := []) N3 k4 e41 e42 hpre (fun _ hq => absurd hq List.not_mem_nil)
    rw [List.cons_append, List.cons_append, List.nil_append] at N4
    clear F3 N3
    (repeat' (first | (k_unfold; (try dsimp only)) | ((fail_if_success (with_reducible first | refine (?_ : Exists _) | show wpAny _ _ (exec (Stmt.While _ _ _ _) _) _ _ _ | show wpAny _ _ (exec (Stmt.For _ _ _ _ _) _) _ _ _ | show wpAny _ _ (execs (List.cons (Stmt.Assign (List.cons (PySem.Expr.Name (Str.ofString "altered") _) List.nil) _ _) _) _) _ _ _ | show wpAny _ _ (execs (List.cons (Stmt.For _ _ _ _ _) _) _) _ _ _ | show wpAny _ _ (PySem.call (Value.ref _) _ _) _ _ _ | show wpAny _ _ (PySem.call (Value.type "range") _ _) _ _ _ | show wpAny _ _ (PySem.call (Value.builtin "list.append") _ _) _ _ _ | show wpAny _ _ (PySem.call (Value.builtin "len") _ _) _ _ _ | show wpAny _ _ (setItem (Value.ref _) (Value.str _ _) _) _ _ _ | show wpAny _ _ (exec (Stmt.Raise _ _ _) _) _ _ _ | show wpAny _ _ (compareOp Cmpop.NotIn _ _) _ _ _ | refine (?_ : LCg.CompSrc _ _ _ _ _ _ _ _ _ _ _ _ _ _) | show wpAny _ _ (eval (PySem.Expr.ListComp _ _ _) _) _ _ _ | show wpAny _ _ (compareOp Cmpop.In _ _) _ _ _ | show wpAny _ _ (delItem (Value.ref _) (Value.str _ _)) _ _ _ | show wpAny _ _ (PySem.call (Value.builtin "sorted") _ _) _ _ _ | show wpAny _ _ (PySem.call (Value.builtin "list.insert") _ _) _ _ _ | show wpAny _ _ (setItem (Value.ref _) (Value.int _ _) _) _ _ _ | show wpAny _ _ (execs (List.cons (Stmt.Try _ _ _ _ _) _) _) _ _ _ | show wpAny _ _ (PySem.call (Value.builtin "dict.get") _ _) _ _ _ | show wpAny _ _ (compareOp CmpOp.NotEq (Value.ref _) (Value.ref _)) _ _ _ | show wpAny _ _ (subscriptTail _ _ (Value.ref _) (Value.int _ _)) _ _ _ | show wpAny _ _ (PySem.call (Value.builtin "list.pop") _ _) _ _ _ | show wpAny _ _ (compareOp CmpOp.Eq (Value.ref _) (Value.ref _)) _ _ _ | show wpAny _ _ (subscriptTail _ _ (Value.ref _) (Value.str _ _)) _ _ _)); walk1) | dsimp only | fail "no step"))
    refine draw_call G (C.now B F4).less (Core.mk (C.now B F4) B (News.sub N4 (pick2 (a := (pl, o5)) (b := (cl, o6)) (by k_mem) (by k_mem)))) hne hp4 (by decide) (by decide) ?_
    intro v o7 o8 h5 tk5 tv hv0 hv1 k5 e51 e52 hp5
    have F5 := fr_two (oa := o5) (ob := o6) F4 N4 k5 (by k_mem) (by k_mem)
    have N5 := news_pool (pre := [_, _]) (tl := []) N4 k5 e51 e52 hpre (fun _ hq => absurd hq List.not_mem_nil)
    rw [List.cons_append, List.cons_append, List.nil_append] at N5
    clear F4 N4
    (repeat' (first | (k_unfold; (try dsimp only)) | ((fail_if_success (with_reducible first | refine (?_ : Exists _) | show wpAny _ _ (exec (Stmt.While _ _ _ _) _) _ _ _ | show wpAny _ _ (exec (Stmt.For _ _ _ _ _) _) _ _ _ | show wpAny _ _ (execs (List.cons (Stmt.Assign (List.cons (PySem.Expr.Name (Str.ofString "altered") _) List.nil) _ _) _) _) _ _ _ | show wpAny _ _ (execs (List.cons (Stmt.For _ _ _ _ _) _) _) _ _ _ | show wpAny _ _ (PySem.call (Value.ref _) _ _) _ _ _ | show wpAny _ _ (PySem.call (Value.type "range") _ _) _ _ _ | show wpAny _ _ (PySem.call (Value.builtin "list.append") _ _) _ _ _ | show wpAny _ _ (PySem.call (Value.builtin "len") _ _) _ _ _ | show wpAny _ _ (setItem (Value.ref _) (Value.str _ _) _) _ _ _ | show wpAny _ _ (exec (Stmt.Raise _ _ _) _) _ _ _ | show wpAny _ _ (compareOp Cmpop.NotIn _ _) _ _ _ | refine (?_ : LCg.CompSrc _ _ _ _ _ _ _ _ _ _ _ _ _ _) | show wpAny _ _ (eval (PySem.Expr.ListComp _ _ _) _) _ _ _ | show wpAny _ _ (compareOp Cmpop.In _ _) _ _ _ | show wpAny _ _ (delItem (Value.ref _) (Value.str _ _)) _ _ _ | show wpAny _ _ (PySem.call (Value.builtin "sorted") _ _) _ _ _ | show wpAny _ _ (PySem.call (Value.builtin "list.insert") _ _) _ _ _ | show wpAny _ _ (setItem (Value.ref _) (Value.int _ _) _) _ _ _ | show wpAny _ _ (execs (List.cons (Stmt.Try _ _ _ _ _) _) _) _ _ _ | show wpAny _ _ (PySem.call (Value.builtin "dict.get") _ _) _ _ _ | show wpAny _ _ (compareOp CmpOp.NotEq (Value.ref _) (Value.ref _)) _ _ _ | show wpAny _ _ (subscriptTail _ _ (Value.ref _) (Value.int _ _)) _ _ _ | show wpAny _ _ (PySem.call (Value.builtin "list.pop") _ _) _ _ _ | show wpAny _ _ (compareOp CmpOp.Eq (Value.ref _) (Value.ref _)) _ _ _ | show wpAny _ _ (subscriptTail _ _ (Value.ref _) (Value.str _ _)) _ _ _)); walk1) | dsimp only | fail "no step"))
    refine kl_insert (its := dvs.toArray) F5 N5 (by simp [Builtin.List.listFitsIndex]; omega) rfl (by k_upd) (by rw [sizeLine_eq]; simp; omega) ?_
    intro h6 F6 N6
    (repeat' (first | (k_unfold; (try dsimp only)) | ((fail_if_success (with_reducible first | refine (?_ : Exists _) | show wpAny _ _ (exec (Stmt.While _ _ _ _) _) _ _ _ | show wpAny _ _ (exec (Stmt.For _ _ _ _ _) _) _ _ _ | show wpAny _ _ (execs (List.cons (Stmt.Assign (List.cons (PySem.Expr.Name (Str.ofString "altered") _) List.nil) _ _) _) _) _ _ _ | show wpAny _ _ (execs (List.cons (Stmt.For _ _ _ _ _) _) _) _ _ _ | show wpAny _ _ (PySem.call (Value.ref _) _ _) _ _ _ | show wpAny _ _ (PySem.call (Value.type "range") _ _) _ _ _ | show wpAny _ _ (PySem.call (Value.builtin "list.append") _ _) _ _ _ | show wpAny _ _ (PySem.call (Value.builtin "len") _ _) _ _ _ | show wpAny _ _ (setItem (Value.ref _) (Value.str _ _) _) _ _ _ | show wpAny _ _ (exec (Stmt.Raise _ _ _) _) _ _ _ | show wpAny _ _ (compareOp Cmpop.NotIn _ _) _ _ _ | refine (?_ : LCg.CompSrc _ _ _ _ _ _ _ _ _ _ _ _ _ _) | show wpAny _ _ (eval (PySem.Expr.ListComp _ _ _) _) _ _ _ | show wpAny _ _ (compareOp Cmpop.In _ _) _ _ _ | show wpAny _ _ (delItem (Value.ref _) (Value.str _ _)) _ _ _ | show wpAny _ _ (PySem.call (Value.builtin "sorted") _ _) _ _ _ | show wpAny _ _ (PySem.call (Value.builtin "list.insert") _ _) _ _ _ | show wpAny _ _ (setItem (Value.ref _) (Value.int _ _) _) _ _ _ | show wpAny _ _ (execs (List.cons (Stmt.Try _ _ _ _ _) _) _) _ _ _ | show wpAny _ _ (PySem.call (Value.builtin "dict.get") _ _) _ _ _ | show wpAny _ _ (compareOp CmpOp.NotEq (Value.ref _) (Value.ref _)) _ _ _ | show wpAny _ _ (subscriptTail _ _ (Value.ref _) (Value.int _ _)) _ _ _ | show wpAny _ _ (PySem.call (Value.builtin "list.pop") _ _) _ _ _ | show wpAny _ _ (compareOp CmpOp.Eq (Value.ref _) (Value.ref _)) _ _ _ | show wpAny _ _ (subscriptTail _ _ (Value.ref _) (Value.str _ _)) _ _ _)); walk1) | dsimp only | fail "no step"))
    have hIn : IntsAre (kl_ins dvs i (.int v tv)) ((enc (sortF fs)).take (min i.toNat dvs.length) ++ v :: (enc (sortF fs)).drop (min i.toNat dvs.length)) := by
      unfold kl_ins
      rw [if_neg (by omega)]
      exact IntsAre.append (ints_take hdI _) (.cons _ _ (ints_drop hdI _))
    refine next _ _ _ sp _ _ _ F6 (by simp only [List.forall_mem_cons]; exact ⟨rfl, rfl, fun _ hq => absurd hq List.not_mem_nil⟩) (News.sub N6 (pick2 (.head _) (.tail _ (.head _)))) hIn (fun n hn => ?_) (by rw [List.length_append, List.length_cons, List.length_take, List.length_drop]; omega) hsd
    rcases List.mem_append.mp hn with q | q
    · exact hby n (List.mem_of_mem_take q)
    · rcases List.mem_cons.mp q with rfl | q
      · omega
      · exact hby n (List.mem_of_mem_drop q)
  · rename Fr _ _ _ _ => F3
    rename News _ _ _ _ => N3
    refine len_of (News.isList N3 (.head _)) rfl (by omega) ?_
    (repeat' (first | (k_unfold; (try dsimp only)) | ((fail_if_success (with_reducible first | refine (?_ : Exists _) | show wpAny _ _ (exec (Stmt.While _ _ _ _) _) _ _ _ | show wpAny _ _ (exec (Stmt.For _ _ _ _ _) _) _ _ _ | show wpAny _ _ (execs (List.cons (Stmt.Assign (List.cons (PySem.Expr.Name (Str.ofString "altered") _) List.nil) _ _) _) _) _ _ _ | show wpAny _ _ (execs (List.cons (Stmt.For _ _ _ _ _) _) _) _ _ _ | show wpAny _ _ (PySem.call (Value.ref _) _ _) _ _ _ | show wpAny _ _ (PySem.call (Value.type "range") _ _) _ _ _ | show wpAny _ _ (PySem.call (Value.builtin "list.append") _ _) _ _ _ | show wpAny _ _ (PySem.call (Value.builtin "len") _ _) _ _ _ | show wpAny _ _ (setItem (Value.ref _) (Value.str _ _) _) _ _ _ | show wpAny _ _ (exec (Stmt.Raise _ _ _) _) _ _ _ | show wpAny _ _ (compareOp Cmpop.NotIn _ _) _ _ _ | refine (?_ : LCg.CompSrc _ _ _ _ _ _ _ _ _ _ _ _ _ _) | show wpAny _ _ (eval (PySem.Expr.ListComp _ _ _) _) _ _ _ | show wpAny _ _ (compareOp Cmpop.In _ _) _ _ _ | show wpAny _ _ (delItem (Value.ref _) (Value.str _ _)) _ _ _ | show wpAny _ _ (PySem.call (Value.builtin "sorted") _ _) _ _ _ | show wpAny _ _ (PySem.call (Value.builtin "list.insert") _ _) _ _ _ | show wpAny _ _ (setItem (Value.ref _) (Value.int _ _) _) _ _ _ | show wpAny _ _ (execs (List.cons (Stmt.Try _ _ _ _ _) _) _) _ _ _ | show wpAny _ _ (PySem.call (Value.builtin "dict.get") _ _) _ _ _ | show wpAny _ _ (compareOp CmpOp.NotEq (Value.ref _) (Value.ref _)) _ _ _ | show wpAny _ _ (subscriptTail _ _ (Value.ref _) (Value.int _ _)) _ _ _ | show wpAny _ _ (PySem.call (Value.builtin "list.pop") _ _) _ _ _ | show wpAny _ _ (compareOp CmpOp.Eq (Value.ref _) (Value.ref _)) _ _ _ | show wpAny _ _ (subscriptTail _ _ (Value.ref _) (Value.str _ _)) _ _ _)); walk1) | dsimp only | fail "no step"))
    refine draw_call G (C.now B F3).less (Core.mk (C.now B F3) B (News.sub N3 (pick2 (a := (pl, o3)) (b := (cl, o4)) (by k_mem) (by k_mem)))) hne hp2 (by omega) (by omega) ?_
    intro i o5 o6 h4 tk4 ti hi0 hi1 k4 e41 e42 hp4
    have F4 := fr_two (oa := o3) (ob := o4) F3 N3 k4 (by k_mem) (by k_mem)
    have N4 := news_pool (pre := [_, _]) (tl := []) N3 k4 e41 e42 hpre (fun _ hq => absurd hq List.not_mem_nil)
    rw [List.cons_append, List.cons_append, List.nil_append] at N4
    clear F3 N3
    (repeat' (first | (k_unfold; (try dsimp only)) | ((fail_if_success (with_reducible first | refine (?_ : Exists _) | show wpAny _ _ (exec (Stmt.While _ _ _ _) _) _ _ _ | show wpAny _ _ (exec (Stmt.For _ _ _ _ _) _) _ _ _ | show wpAny _ _ (execs (List.cons (Stmt.Assign (List.cons (PySem.Expr.Name (Str.ofString "altered") _) List.nil) _ _) _) _) _ _ _ | show wpAny _ _ (execs (List.cons (Stmt.For _ _ _ _ _) _) _) _ _ _ | show wpAny _ _ (PySem.call (Value.ref _) _ _) _ _ _ | show wpAny _ _ (PySem.call (Value.type "range") _ _) _ _ _ | show wpAny _ _ (PySem.call (Value.builtin "list.append") _ _) _ _ _ | show wpAny _ _ (PySem.call (Value.builtin "len") _ _) _ _ _ | show wpAny _ _ (setItem (Value.ref _) (Value.str _ _) _) _ _ _ | show wpAny _ _ (exec (Stmt.Raise _ _ _) _) _ _ _ | show wpAny _ _ (compareOp Cmpop.NotIn _ _) _ _ _ | refine (?_ : LCg.CompSrc _ _ _ _ _ _ _ _ _ _ _ _ _ _) | show wpAny _ _ (eval (PySem.Expr.ListComp _ _ _) _) _ _ _ | show wpAny _ _ (compareOp Cmpop.In _ _) _ _ _ | show wpAny _ _ (delItem (Value.ref _) (Value.str _ _)) _ _ _ | show wpAny _ _ (PySem.call (Value.builtin "sorted") _ _) _ _ _ | show wpAny _ _ (PySem.call (Value.builtin "list.insert") _ _) _ _ _ | show wpAny _ _ (setItem (Value.ref _) (Value.int _ _) _) _ _ _ | show wpAny _ _ (execs (List.cons (Stmt.Try _ _ _ _ _) _) _) _ _ _ | show wpAny _ _ (PySem.call (Value.builtin "dict.get") _ _) _ _ _ | show wpAny _ _ (compareOp CmpOp.NotEq (Value.ref _) (Value.ref _)) _ _ _ | show wpAny _ _ (subscriptTail _ _ (Value.ref _) (Value.int _ _)) _ _ _ | show wpAny _ _ (PySem.call (Value.builtin "list.pop") _ _) _ _ _ | show wpAny _ _ (compareOp CmpOp.Eq (Value.ref _) (Value.ref _)) _ _ _ | show wpAny _ _ (subscriptTail _ _ (Value.ref _) (Value.str _ _)) _ _ _)); walk1) | dsimp only | fail "no step"))
    rename Fr _ _ _ _ => F6
    rename News _ _ _ _ => N6
    rename_i D ws h5 hIw hlw hlw2 l6 h6
    refine next h6 _ _ D ws 0 _ F6 (by simp only [List.forall_mem_cons]; exact ⟨rfl, rfl, fun _ hq => absurd hq List.not_mem_nil⟩) (News.sub N6 (pick2 (.head _) (.tail _ (.tail _ (.head _))))) hIw (fun n hn => hby n (List.mem_of_mem_take hn)) (by omega) (Nat.ne_of_gt l6.2.1)
end

section
open PySem PySem.W PyProof.Rows PySem.Calls



variable {w : World} {mean : ExcName → Option Value} {mg mb : Str → Option Value} {base : Heap} {A : Around} {l : List Env} {s : Shared}


/-! sets of texts -/
def SetS (w : World) (h : Heap) (a : Addr) (vs : List Value) (ss : List Str) : Prop :=
  ∃ es ep t, h.get? a = some { cls := .type "set", dict := none, data := .set es ep t, slots := #[] } ∧ ElemsOf (PySem.strKind PR w) es.toList ∧ (es.toList.map (·.2)).Perm vs ∧ StrsAre vs ss ∧
    es.size < 4000 ∧ t.fits es.size = true ∧ t.led = !(w.params.followText "set-order") ∧ (0 < es.size → t.plain = false)

theorem strs_isStr : ∀ {vs : List Value} {ss : List Str}, StrsAre vs ss → ∀ v ∈ vs, ∃ y t, v = .str y t ∧ y ∈ ss
  | _, _, .nil, v, hv => absurd hv List.not_mem_nil
  | _, _, .cons y t r, v, hv => by
    rcases List.mem_cons.mp hv with rfl | hv
    · exact ⟨y, t, rfl, .head _⟩
    · obtain ⟨z, tz, e, hz⟩ := strs_isStr r v hv
      exact ⟨z, tz, e, .tail _ hz⟩
theorem strs_snoc : ∀ {vs : List Value} {ss : List Str}, StrsAre vs ss → ∀ (y : Str) (t : Tok), StrsAre (vs ++ [.str y t]) (ss ++ [y])
  | _, _, .nil, y, t => .cons y t .nil
  | _, _, .cons z tz r, y, t => .cons z tz (strs_snoc r y t)

theorem put_led (t : SetTable) (j : Nat) : (t.put j).1.led = t.led ∧ (t.put j).1.plain = t.plain := ⟨rfl, rfl⟩
theorem orStandIn_led (t : SetTable) (n : Nat) : (t.orStandIn n).led = t.led := by
  unfold SetTable.orStandIn; split <;> rfl
theorem orStandIn_plain (t : SetTable) (n : Nat) (h : t.plain = false) : (t.orStandIn n).plain = false := by
  unfold SetTable.orStandIn; split
  · exact h
  · rfl
theorem layNew_led (t : SetTable) (es : Array (Int × Value)) (h : Int) (x : Value) : (layNew t es h x).2.1.led = t.led ∧ (t.plain = false → (layNew t es h x).2.1.plain = false) := by
  unfold layNew
  split
  · exact ⟨orStandIn_led _ _, fun q => orStandIn_plain _ _ q⟩
  · exact ⟨rfl, fun _ => rfl⟩
theorem laid_led {mask finger moves : Nat} {led plain : Bool} {hs : Array Int} {t : SetTable} {o : Array Nat} (h : SetTable.laid mask finger moves led plain hs = some (t, o)) : t.led = led ∧ t.plain = plain := by
  unfold SetTable.laid at h
  cases hq : SetTable.layClean mask hs with
  | none => rw [hq] at h; cases h
  | some ow => rw [hq] at h; cases h; exact ⟨rfl, rfl⟩
theorem relayAll_led (t : SetTable) (es : Array (Int × Value)) (k : Nat) : (relayAll t es k).2.1.led = t.led ∧ (t.plain = false → (relayAll t es k).2.1.plain = false) := by
  unfold relayAll
  split
  · rename_i t' order hq
    have e := laid_led hq
    dsimp only
    split
    · exact ⟨e.1, fun q => e.2.trans q⟩
    · exact ⟨rfl, fun _ => rfl⟩
  · exact ⟨rfl, fun _ => rfl⟩

section
variable {E : Value → Shared → Prop}
theorem SetS.mk' {h : Heap} {a : Addr} {es : Array (Int × Value)} {ep : Nat} {t : SetTable} {vs : List Value} {ss : List Str} (e : h.get? a = some { cls := .type "set", dict := none, data := .set es ep t, slots := #[] })
    (h1 : ElemsOf (PySem.strKind PR w) es.toList) (h2 : (es.toList.map (·.2)).Perm vs) (h3 : StrsAre vs ss) (h4 : es.size < 4000) (h5 : t.fits es.size = true) (h6 : t.led = !(w.params.followText "set-order")) (h7 : t.plain = false) : SetS w h a vs ss :=
  ⟨es, ep, t, e, h1, h2, h3, h4, h5, h6, fun _ => h7⟩

theorem stored_set {h : Heap} {a : Addr} {es es' : Array (Int × Value)} {ep : Nat} {t t' : SetTable} (e : h.get? a = some { cls := .type "set", dict := none, data := .set es ep t, slots := #[] }) :
    (h.update a (Obj.putSet es' t')).get? a = some { cls := .type "set", dict := none, data := .set es' (ep + 1) t', slots := #[] } :=
  Heap.get?_update_self (Obj.putSet es' t') e rfl

theorem setAdd_new {a : Addr} {vs : List Value} {ss : List Str} {y : Str} {tk : Tok} {Q : Bool → Shared → Prop} (hS : SetS w s.heap a vs ss) (hn : y ∉ ss) (hroom : vs.length + 1 < 4000)
    (h : ∀ h', Heap.SameBut a s.heap h' → SetS w h' a (vs ++ [.str y tk]) (ss ++ [y]) → Q true { s with heap := h', toks := s.toks + 1 }) :
    wpAny (model PR w) A (setAdd a (.str y tk)) Q E s := by
  obtain ⟨es, ep, t, ho, hel, hp, hst, hsz, hf, hled, hpl⟩ := hS
  have hlen : es.size = vs.length := by rw [← Array.length_toList, ← List.length_map (f := (·.2)), hp.length_eq]
  have hsc : (Value.str y tk).scannable = true := rfl
  have hkey : (PySem.strKind PR w).is y (.str y tk) = true := strKind_is _ _ _ _
  unfold setAdd
  refine wpAny_holding (wpAny_bind ((PySem.strKind PR w).pyHash (k := y) hkey ?_))
  have hb : es.size < scanBound := by unfold scanBound; omega
  unfold setAddHashed setAddHashedIn
  refine wpAny_holding (wpAny_bind (wpAny_setState_of (s := { s with toks := s.toks + 1 }) ho rfl hf ?_))
  dsimp only
  rw [byScan_of hsc hb hel]
  simp only [↓reduceIte]
  unfold setAddByScan
  refine wpAny_bind (wpAny_bind (wpAny_rule ?_))
  refine wpAny_bind (wpAny_setScan_of (s := { s with toks := s.toks + 1 }) hkey ho rfl hf hel ?_)
  have hfind : es.toList.findIdx? (fun e => (PySem.strKind PR w).is y e.2) = none := by
    rw [List.findIdx?_eq_none_iff]
    intro e he
    obtain ⟨z, tz, ez, hz⟩ := strs_isStr hst e.2 (hp.mem_iff.mp (List.mem_map_of_mem he))
    rw [ez]
    cases hq : (PySem.strKind PR w).is y (.str z tz) with
    | false => rfl
    | true =>
      have := (PySem.strKind PR w).inj (.str z tz) y z hq (strKind_is _ _ _ _)
      exact absurd (this ▸ hz) hn
  rw [hfind]
  dsimp only
  have hgw : ∀ (b : Bool) {s₁ : Shared} {Q' : Unit → Shared → Prop}, Q' () s₁ → wpAny (model PR w) A (match b with | true => rule "set.scan.the-table-gave-way" | false => pure ()) Q' E s₁ :=
    fun b s₁ Q' hq => by cases b <;> first | exact wpAny_pure hq | exact wpAny_rule hq
  have hperm := layNew_perm t es ((PySem.strKind PR w).hash y) (.str y tk)
  have hfits := layNew_fits t es ((PySem.strKind PR w).hash y) (.str y tk)
  have hl := layNew_led t es ((PySem.strKind PR w).hash y) (.str y tk)
  generalize hL : layNew t es ((PySem.strKind PR w).hash y) (.str y tk) = L at hperm hfits hl ⊢
  obtain ⟨es1, t1, wasDummy, gave⟩ := L
  dsimp only at hperm hfits hl ⊢
  rw [Array.toList_push] at hperm
  have hel1 : ElemsOf (PySem.strKind PR w) es1.toList := (hel.push hkey hsc).perm hperm
  have hsz1 : es1.size = vs.length + 1 := by rw [← Array.length_toList, hperm.length_eq, List.length_append, Array.length_toList, hlen]; rfl
  have hp1 : (es1.toList.map (·.2)).Perm (vs ++ [.str y tk]) := by
    refine (hperm.map _).trans ?_
    rw [List.map_append]
    exact hp.append_right _
  have hst1 := strs_snoc hst y tk
  have fin : ∀ (t2 : SetTable), t2.fits es1.size = true → t2.led = t.led → t2.plain = false →
      wpAny (model PR w) A (do
        storeSet a es1 t2
        if (!wasDummy && t2.tooFull) = true then do
            (match (relayAll t2 es1 (SetTable.grown es1.size)).2.2 with | true => rule "set.scan.the-table-gave-way" | false => pure ())
            storeSet a (relayAll t2 es1 (SetTable.grown es1.size)).1 (relayAll t2 es1 (SetTable.grown es1.size)).2.1
            pure (some true)
          else pure (some true)) (fun r s' => r = some true ∧ ∃ h', Heap.SameBut a s.heap h' ∧ SetS w h' a (vs ++ [.str y tk]) (ss ++ [y]) ∧ s' = { s with heap := h', toks := s.toks + 1 }) E { s with toks := s.toks + 1 } := by
    intro t2 hf2 hl2 hp2
    refine wpAny_bind (wpAny_storeSet_of (s := { s with toks := s.toks + 1 }) ho rfl ?_ (fits_of_scanBound (by unfold scanBound; omega)))
    have ho1 := stored_set (es' := es1) (t' := t2) ho
    split
    · have hq := relayAll_perm t2 es1 (SetTable.grown es1.size)
      have hqf := relayAll_fits t2 es1 (SetTable.grown es1.size)
      have hql := relayAll_led t2 es1 (SetTable.grown es1.size)
      generalize relayAll t2 es1 (SetTable.grown es1.size) = Rl at hq hqf hql ⊢
      obtain ⟨es2, t3, gave2⟩ := Rl
      dsimp only at hq hqf hql ⊢
      have hsz2 : es2.size = es1.size := by rw [← Array.length_toList, hq.length_eq, Array.length_toList]
      refine wpAny_bind (hgw _ ?_)
      refine wpAny_bind (wpAny_storeSet_of ho1 rfl ?_ (fits_of_scanBound (by unfold scanBound; omega)))
      have ho2 := stored_set (es' := es2) (t' := t3) ho1
      exact wpAny_pure ⟨rfl, _, (Heap.SameBut.update s.heap a _).trans (Heap.SameBut.update _ a _), SetS.mk' ho2 (hel1.perm hq) ((hq.map _).trans hp1) hst1 (by omega) hqf (by rw [hql.1, hl2, hled]) (hql.2 hp2), rfl⟩
    · exact wpAny_pure ⟨rfl, _, Heap.SameBut.update s.heap a _, SetS.mk' ho1 hel1 hp1 hst1 (by omega) hf2 (by rw [hl2, hled]) hp2, rfl⟩
  refine wpAny_bind (hgw _ ?_)
  have hpl1 : t.plain = false → t1.plain = false := hl.2
  cases hpt : t1.plain with
  | true =>
    simp only [↓reduceIte]
    refine wpAny_bind ?_
    rw [hashByValue_scannable 8 hsc]
    refine wpAny_pure ?_
    refine wpAny_mono (fin { t1 with plain := false } (SetTable.fits_plain_off hfits) hl.1 rfl) (fun r s' x => ?_) fun _ _ e => e
    obtain ⟨rfl, h', x1, x2, rfl⟩ := x
    exact wpAny_pure (h h' x1 x2)
  | false =>
    simp only [Bool.false_eq_true, ↓reduceIte]
    refine wpAny_bind (wpAny_pure ?_)
    simp only [↓reduceIte]
    refine wpAny_mono (fin t1 hfits hl.1 hpt) (fun r s' x => ?_) fun _ _ e => e
    obtain ⟨rfl, h', x1, x2, rfl⟩ := x
    exact wpAny_pure (h h' x1 x2)
end
end

section
open PySem PySem.W PyProof.Rows PySem.Calls



variable {w : World} {mean : ExcName → Option Value} {mg mb : Str → Option Value} {base : Heap} {A : Around} {l : List Env} {s : Shared}



section
variable {R : Result → Shared → Prop}
theorem set_loop {L D I : Addr} {vs : List Value} {ss : List Str} (hh : A.in1.handled = none) (hst : StrsAre vs ss) (hnd : ss.Nodup) (hb : vs.length < 4000) (hLI : L ≠ I) (hDI : D ≠ I) (hDL : D ≠ L) :
    ∀ (k i : Nat) (s : Shared), vs.length - i = k → i ≤ vs.length → s.heap.IsListIter I L i → s.heap.IsList L vs.toArray → SetS w s.heap D (vs.take i) (ss.take i) →
      (∀ s', Moved [D, I] (fun a b => b = a) s s' → SetS w s'.heap D vs ss → R (.ok (.ret .none)) s') →
      codeAny (model PR w) A (.builtin "set.update.loop" ⟨[.ref D, .ref I], []⟩) R s := by
  have W := (Walks.list (prog := PR) (w := w) hh I L hLI vs.toArray).toS
  have hlen := hst.len_eq
  have hDf : D ∉ [I, L] := by simp only [List.mem_cons, List.not_mem_nil, or_false, not_or]; exact ⟨hDI, hDL⟩
  intro k
  induction k with
  | zero =>
    intro i s hk hi hit hli hS hR
    have hin : i = vs.length := by omega
    subst hin
    rw [List.take_length, hlen, List.take_length] at hS
    refine codeAny_builtin F.entry_set_update_loop ?_
    rw [Around.under_plainId F.plain_set_update_loop _]
    show wpAny _ A.in1 (pyNext (.ref I) >>= _) _ _ s
    refine wpAny_bind (W.done s _ _ ⟨by simpa using hit, hli⟩ fun s' hm => ?_)
    show wpAny _ A.in1 (ret Value.none) _ _ s'
    refine wpAny_pure (hR s' (hm.mono fun b hb => by rw [List.mem_singleton.mp hb]; exact .tail _ (.head _)) ?_)
    obtain ⟨es, ep, t, ho, r⟩ := hS
    exact ⟨es, ep, t, hm.heap D _ (by simpa using hDI) ho, r⟩
  | succ k ih =>
    intro i s hk hi hit hli hS hR
    have hlt : i < vs.length := by omega
    have hls : i < ss.length := by omega
    refine codeAny_builtin F.entry_set_update_loop ?_
    rw [Around.under_plainId F.plain_set_update_loop _]
    show wpAny _ A.in1 (pyNext (.ref I) >>= _) _ _ s
    refine wpAny_bind (W.item i s _ _ (by simpa using hlt) ⟨hit, hli⟩ fun v s' hP hst' hm => ?_)
    have hv : vs[i] = v := by
      have : vs.toArray[i]? = some v := hP
      rw [← Array.getElem?_toList] at this
      simpa [List.getElem?_eq_getElem hlt] using this
    obtain ⟨y, tk, rfl, hy⟩ : ∃ y tk, v = .str y tk ∧ ss[i] = y := by
      obtain ⟨x, t, e1, e2⟩ := strs_get hst (k := i) (v := v) (by rw [List.getElem?_eq_getElem hlt, hv])
      rw [List.getElem?_eq_getElem hls] at e1
      exact ⟨x, t, e2, Option.some.inj e1⟩
    have hS' : SetS w s'.heap D (vs.take i) (ss.take i) := by
      obtain ⟨es, ep, tb, ho, rest⟩ := hS
      exact ⟨es, ep, tb, hm.heap D _ (by simpa using hDI) ho, rest⟩
    show wpAny _ A.in1 (holding [Value.str y tk] (setAdd D (.str y tk)) >>= _) _ _ s'
    refine wpAny_bind (wpAny_holding (setAdd_new hS' ?_ ?_ fun h' hsb hS2 => ?_))
    · rw [← hy]
      intro q
      obtain ⟨j, hj, e⟩ := List.mem_take_iff_getElem.mp q
      exact absurd ((List.getElem_inj hnd).mp e) (by omega)
    · rw [List.length_take]; omega
    · have e1 : vs.take i ++ [.str y tk] = vs.take (i + 1) := by rw [← hv, List.take_append_getElem hlt]
      have e2 : ss.take i ++ [y] = ss.take (i + 1) := by rw [← hy, List.take_append_getElem hls]
      rw [e1, e2] at hS2
      have hst2 := W.frame _ s' h' (s'.toks + 1) hst' (Nat.le_succ _) (fun b hb o e => by
        rw [hsb.2 b (fun q => hDf (q ▸ hb))]; exact e)
      refine wpAny_pure ⟨plainId_quiet F.plain_set_update_loop _, ih (i + 1) _ (by omega) (by omega) hst2.1 hst2.2 hS2 fun s'' hm'' hS'' => ?_⟩
      refine hR s'' (Moved.trans W.gtrans ((hm.mono (wr' := [D, I]) fun b hb => by rw [List.mem_singleton.mp hb]; exact .tail _ (.head _)).then_heap (Nat.le_succ _) fun b o hb e => ?_) hm'') hS''
      rw [hsb.2 b (fun q => hb (by rw [q]; exact .head _))]; exact e
end

section
variable {E : Value → Shared → Prop}
theorem set_new1 (a : Value) {Q₁ : Value → Shared → Prop}
    (h : Q₁ (.ref s.heap.objs.size) { s with heap := s.heap.push { cls := .type "set", dict := none, data := .set #[] 0 (.fresh 0 0 (!(w.params.followText "set-order"))) } }) :
    codeAny (model PR w) A (.call (.builtin "set.__new__") ⟨[.type "set", a], []⟩) (wants Q₁ E) s := by
  refine codeAny_of_tree ?_
  show wpAny _ A.in1 (do checkBuiltinCall "set.__new__" ⟨[.type "set", a], []⟩; again (.builtin "set.__new__" ⟨[.type "set", a], []⟩)) _ _ s
  refine wpAny_bind (wpAny_of_eq (F.newCall_set_1 a) (wpAny_pure ⟨plainId_quiet F.plain_set_new _, codeAny_builtin F.entry_set_new ?_⟩))
  rw [Around.under_plainId F.plain_set_new _]
  unfold Builtin.«set.__new__» Builtin.Frozenset.newClass
  have hsub := sub_set_self
  obtain ⟨hp, g, d, tk, os⟩ := s
  dsimp only
  wp_walk
  refine wpAny_askSetting (wpAny_pure ?_)
  dsimp only
  simp only [newObj]
  refine wpAny_bind (wpAny_alloc (wpAny_pure ?_))
  exact wpAny_pure h

theorem set_call {L : Addr} {vs : List Value} {ss : List Str} {Q : Value → Shared → Prop}
    (hh : A.handled = none) (hl : s.heap.IsList L vs.toArray) (hst : StrsAre vs ss) (hnd : ss.Nodup) (hb : vs.length < 4000)
    (h : ∀ (h' : Heap) (tk : Nat), SetS w h' s.heap.objs.size vs ss →
      (∀ b o, b < s.heap.objs.size → s.heap.get? b = some o → h'.get? b = some o) → Q (.ref s.heap.objs.size) { s with heap := h', toks := tk }) :
    wpAny (model PR w) A (call (.type "set") [.ref L]) Q E s := by
  obtain ⟨c, tl, hmro⟩ := F.called_set.mro
  have hmade := F.called_set.made
  have hsub := F.called_set.sub
  refine wpAny_call (codeAny_of_tree ?_)
  show wpAny _ _ (callAny (.type "set") _) _ _ _
  refine wpAny_pure ⟨Code.quiet_builtin _ (by decide +kernel), codeAny_builtin F.entry_type_call ?_⟩
  rw [Around.under_plain (weight_type_call_type "set" [.ref L] []) rfl]
  have h1 := F.called_set.notType
  have h2 := F.called_set.canCreate
  have hct := F.typeCall_set_1 (.ref L)
  repeat (any_goals (first | assumption | wp_step))
  refine codeAny_mono (set_new1 (.ref L) (E := E) (Q₁ := fun obj s₁ => obj = .ref s.heap.objs.size ∧ s₁ = { s with heap := s.heap.push { cls := .type "set", dict := none, data := .set #[] 0 (.fresh 0 0 (!(w.params.followText "set-order"))) } }) ⟨rfl, rfl⟩) fun r s₁ hr => ?_
  clear h2 hct h1 hmro hmade
  generalize hO : ({ cls := .type "set", dict := none, data := .set #[] 0 (.fresh 0 0 (!(w.params.followText "set-order"))) } : Obj) = O at hr
  have hOf : O.isFreed = false := by rw [← hO]; rfl
  have hOc : O.cls = .type "set" := by rw [← hO]
  cases r with
  | error e => exact hr
  | ok fl =>
    cases fl with
    | ret obj =>
      obtain ⟨rfl, rfl⟩ := hr
      have hS : (s.heap.push O).get? s.heap.objs.size = some O := Heap.get?_push_size _ hOf
      have hT : Shared.TypeIs { s with heap := s.heap.push O } (.ref s.heap.objs.size) "set" := ⟨_, hS, hOc⟩
      have hli := F.called_set.init.lookup
      have hbi := F.called_set.init.bind (.ref s.heap.objs.size)
      repeat (any_goals (first | assumption | wp_step))
      refine codeAny_mono (codeAny_call_builtin (R := wants (fun r s₂ => r = .none ∧ ∃ h' tk, s₂ = { s with heap := h', toks := tk } ∧
          SetS w h' s.heap.objs.size vs ss ∧
          (∀ b o, b < s.heap.objs.size → s.heap.get? b = some o → h'.get? b = some o)) E) F.called_set.init.plain F.entry_set_init (check_set_init_1 hT ?_)) fun r₂ s₂ hr₂ => ?_
      · obtain ⟨ol, hol, hcl, nl, hdl⟩ := hl
        obtain ⟨ocls, odict, odata, oslots⟩ := ol
        simp only at hcl hdl
        subst hcl; subst hdl
        have hol' : (s.heap.push O).get? L = some { cls := .type "list", dict := odict, data := .seq vs.toArray nl, slots := oslots } := Heap.get?_push_of_some _ hol
        have hsls := F.sub_list_set
        have hslf := F.sub_list_frozenset
        have hne : (Value.type "list" == Value.type "dict") = false := by decide
        have hl1 : (s.heap.push O).IsList L vs.toArray := ⟨_, hol', rfl, nl, rfl⟩
        subst hO
        unfold Builtin.«set.__init__» noKeywords Builtin.Frozenset.updateFrom
        generalize hPI : pyIter = PI
        wp_walk
        subst hPI
        refine wpAny_pyIter_list hl1 ?_
        refine wpAny_bind (wpAny_runValue ?_)
        have hlS : L < s.heap.objs.size := Heap.lt_size hol
        have hh3 : A.in1.in1.in1.handled = none := by simp [hh]
        refine set_loop (L := L) (D := s.heap.objs.size) hh3 hst hnd hb ?_ ?_ (Nat.ne_of_gt hlS) vs.length 0 _ (by omega) (Nat.zero_le _) ⟨_, Heap.get?_push_size _ rfl, rfl, rfl⟩ (hl1.push _) ?_ ?_
        · rw [Heap.size_push]; exact Nat.ne_of_lt (Nat.lt_succ_of_lt hlS)
        · rw [Heap.size_push]; exact Nat.ne_of_lt (Nat.lt_succ_self _)
        · exact ⟨#[], 0, _, Heap.get?_push_of_some _ hS, fun e he => absurd he List.not_mem_nil, by rw [List.take_zero]; exact .nil, by rw [List.take_zero, List.take_zero]; exact .nil, by decide, rfl, rfl, fun q => absurd q (Nat.lt_irrefl _)⟩
        · intro s' hm hS'
          obtain ⟨h', g', d', tk', os'⟩ := s'
          have eg : g' = s.gens := hm.gens
          have ed : d' = s.drawn := hm.drawn
          have eo : os' = s.os := hm.os
          subst eg; subst ed; subst eo
          show wpAny _ _ _ _ _ _
          refine wpAny_pure ?_
          show wpAny _ _ (ret Value.none) _ _ _
          refine wpAny_pure ⟨rfl, h', tk', rfl, hS', fun b o hb e => ?_⟩
          refine hm.heap b o ?_ (Heap.get?_push_of_some _ (Heap.get?_push_of_some _ e))
          rw [Heap.size_push]
          simp only [List.mem_cons, List.not_mem_nil, or_false, not_or]
          exact ⟨Nat.ne_of_lt hb, Nat.ne_of_lt (Nat.lt_succ_of_lt hb)⟩
      · cases r₂ with
        | error e => exact hr₂
        | ok fl₂ =>
          cases fl₂ with
          | ret r =>
            obtain ⟨rfl, h', tk, rfl, hS', hk'⟩ := hr₂
            repeat (any_goals (first | assumption | wp_step))
            exact h _ _ hS' hk'
          | _ => exact hr₂.elim
    | _ => exact hr.elim
end
end

section
open PySem PySem.W PyProof.Rows PySem.Calls



variable {w : World} {mean : ExcName → Option Value} {mg mb : Str → Option Value} {base : Heap} {A : Around} {l : List Env} {s : Shared}



/-! walking a set -/
theorem slot_setit_next : Slot "set_iterator" "__next__" "set_iterator.__next__" :=
  .of (owner := "set_iterator") (n := "__next__") (by rw [typeLookup_type, builtinLookup_eq_fast]; kernel_rfl) (by decide +kernel) (by decide +kernel) (by decide +kernel)
    (by first | exact .inl (by decide +kernel) | exact .inr (by decide +kernel)) (by rw [isSubtype_type]; kernel_rfl)
theorem slot_setit_iter : Slot "set_iterator" "__iter__" "set_iterator.__iter__" :=
  .of (owner := "set_iterator") (n := "__iter__") (by rw [typeLookup_type, builtinLookup_eq_fast]; kernel_rfl) (by decide +kernel) (by decide +kernel) (by decide +kernel)
    (by first | exact .inl (by decide +kernel) | exact .inr (by decide +kernel)) (by rw [isSubtype_type]; kernel_rfl)
theorem entry_setit_next : entryFor table "set_iterator.__next__" = some Builtin.«set_iterator.__next__» := by
  first | exact entryFor_of_fast (by kernel_rfl) | exact entryFor_of_tree (by kernel_rfl)
theorem entry_setit_iter : entryFor table "set_iterator.__iter__" = some Builtin.«dict_keyiterator.__iter__» :=
  entryFor_alias (id' := "dict_keyiterator.__iter__") (by kernel_rfl) (by first | rfl | decide +kernel | (unfold String.splitOn; simp +decide [String.splitOnAux])) (by decide +kernel) (by kernel_rfl)
theorem entry_set_iter' : entryFor table "set.__iter__" = some Builtin.«frozenset.__iter__» :=
  entryFor_alias (id' := "frozenset.__iter__") (by kernel_rfl) (by first | rfl | decide +kernel | (unfold String.splitOn; simp +decide [String.splitOnAux])) (by decide +kernel) (by kernel_rfl)
theorem args_setit_next (a : Value) : argsOk "set_iterator.__next__" ⟨[a], []⟩ := by unfold argsOk; kernel_rfl
theorem args_setit_iter (a : Value) : argsOk "set_iterator.__iter__" ⟨[a], []⟩ := by unfold argsOk; kernel_rfl

def sitObj (first : Value) (i : Nat) (D : Addr) (n ep : Nat) : Obj := { cls := .type "set_iterator", dict := none, data := .fields #[first, .int i 0, .ref D, .int n 0, .int ep 0], slots := #[] }

theorem wpAny_choose {M : Model} {E : Value → Shared → Prop} {src : Source} {n : Nat} {Q : Nat → Shared → Prop} (hn : n ≠ 0) (h : ∀ k d, k < n → Q k { s with drawn := d }) : wpAny M A (choose src n) Q E s := fun Γ p _ => by
  show Sem.wp M Γ (.choose src n .pure) _ _ _ _
  rw [Sem.wp_choose]
  exact ⟨hn, h _ _ (Nat.mod_lt _ (Nat.pos_of_ne_zero hn))⟩

theorem cons_erase_perm {α : Type} {l : List α} {k : Nat} (hk : k < l.length) : (l[k] :: l.eraseIdx k).Perm l := by
  have e : l = l.take k ++ l[k] :: l.drop (k + 1) := by rw [List.getElem_cons_drop, List.take_append_drop]
  rw [List.eraseIdx_eq_take_drop_succ]
  refine List.perm_middle.symm.trans ?_
  rw [← e]

theorem wpAny_drawOrder {M : Model} {E : Value → Shared → Prop} {α : Type} : ∀ (n : Nat) (xs : List α) {s : Shared} {Q : List α → Shared → Prop}, xs.length = n → (∀ ys d, ys.Perm xs → Q ys { s with drawn := d }) → wpAny M A (drawOrder n xs) Q E s
  | 0, [], s, Q, _, h => by
    unfold drawOrder
    exact wpAny_pure (h [] s.drawn .nil)
  | 0, x :: xs, s, Q, hl, h => by cases hl
  | n + 1, [], s, Q, hl, h => by cases hl
  | n + 1, x :: xs, s, Q, hl, h => by
    unfold drawOrder
    refine wpAny_bind (wpAny_choose (by simp) fun k d hk => ?_)
    rw [List.getElem?_eq_getElem hk]
    dsimp only
    refine wpAny_bind (wpAny_drawOrder n _ (by rw [List.length_eraseIdx_of_lt hk, hl]; rfl) fun ys d' hp => ?_)
    refine wpAny_pure (h _ d' ?_)
    exact (hp.cons _).trans (cons_erase_perm hk)

theorem pickGo_perm {α : Type} (nx : Nat → Nat) : ∀ (n k : Nat) (left : List α) (out : Array α), left.length = n → (pickOrder.go nx n k left out).toList.Perm (out.toList ++ left)
  | 0, k, [], out, _ => by
    unfold pickOrder.go
    rw [List.append_nil]
  | 0, k, x :: l, out, hl => by cases hl
  | n + 1, k, [], out, hl => by cases hl
  | n + 1, k, x :: l, out, hl => by
    unfold pickOrder.go
    have hk : nx k % (x :: l).length < (x :: l).length := Nat.mod_lt _ (by simp)
    rw [List.getElem?_eq_getElem hk]
    dsimp only
    refine (pickGo_perm nx n (k + 1) _ _ (by rw [List.length_eraseIdx_of_lt hk, hl]; rfl)).trans ?_
    rw [Array.toList_push, List.append_assoc]
    exact (cons_erase_perm hk).append_left _
theorem pick_perm {α : Type} (nx : Nat → Nat) (xs : Array α) : (pickOrder nx xs).toList.Perm xs.toList := by
  have := pickGo_perm nx xs.size 0 xs.toList #[] (by simp)
  simpa [pickOrder] using this

section
variable {E : Value → Shared → Prop} {D I : Addr} {es : Array (Int × Value)} {ep : Nat} {t : SetTable}

theorem setState_at {Q : (Array (Int × Value) × Nat × SetTable) → Shared → Prop} (ho : s.heap.get? D = some { cls := .type "set", dict := none, data := .set es ep t, slots := #[] }) (hf : t.fits es.size = true) (h : Q (es, ep, t) s) :
    wpAny (model PR w) A (setState D) Q E s := wpAny_setState_of ho rfl hf h

/-- the step of a set's iterator, up to the point where it asks the set -/
theorem sit_open {first : Value} {i : Nat} {Q : Option Value → Shared → Prop} {m : Sem Fin}
    (hm : Builtin.«set_iterator.__next__» ⟨[.ref I], []⟩ = m) (hI : s.heap.get? I = some (sitObj first i D es.size ep))
    (hw : wpAny (model PR w) A.in1 m (fun r s' => ∃ v, r = .done (.ret v) ∧ Q (some v) s') (fun e s' => ∃ o, e = .ref o ∧ s'.TypeIs (.ref o) "StopIteration" ∧ Q none s') s) :
    wpAny (model PR w) A (pyNext (.ref I)) Q E s := by
  have hT : s.TypeIs (.ref I) "set_iterator" := ⟨_, hI, rfl⟩
  unfold pyNext
  refine wpAny_bind (wpAny_attempt (wpAny_callSpecial?_slot (name := Str.ofString "__next__") hT slot_setit_next
    (wpAny_call_entry slot_setit_next hT entry_setit_next ?_ (args_setit_next _))))
  rw [hm]
  refine wpAny_mono hw (fun r s' x => ?_) fun e s' x => ?_
  · obtain ⟨v, rfl, hq⟩ := x
    exact ⟨v, rfl, wpAny_pure hq⟩
  · obtain ⟨o, rfl, hT', hq⟩ := x
    refine wpAny_bind (wpAny_isInstance (T := "StopIteration") (b := true) hT' isSubtype_stop ?_)
    exact wpAny_pure hq
end
end

section
open PySem PySem.W PyProof.Rows PySem.Calls



variable {w : World} {mean : ExcName → Option Value} {mg mb : Str → Option Value} {base : Heap} {A : Around} {l : List Env} {s : Shared}



section
variable {E : Value → Shared → Prop} {D I : Addr} {es : Array (Int × Value)} {ep : Nat} {t : SetTable}
def setObj (es : Array (Int × Value)) (ep : Nat) (t : SetTable) : Obj := { cls := .type "set", dict := none, data := .set es ep t, slots := #[] }

theorem below_one0 (p : Nat) : SetTable.below #[p] 0 = 0 := by
  simp [SetTable.below, SetTable.below.go]
theorem below_one1 (p : Nat) : SetTable.below #[p] (((p : Nat) : Int) + 1).toNat = 1 := by
  have e : (((p : Nat) : Int) + 1).toNat = p + 1 := by omega
  rw [e]
  simp [SetTable.below, SetTable.below.go]
theorem wpAny_of_if_pos {M : Model} {α : Type} {c : Bool} {a b : Sem α} {Q : α → Shared → Prop} (hc : c = true) (h : wpAny M A a Q E s) : wpAny M A (if c = true then a else b) Q E s := by rw [if_pos hc]; exact h
theorem wpAny_of_if_neg {M : Model} {α : Type} {c : Bool} {a b : Sem α} {Q : α → Shared → Prop} (hc : c = false) (h : wpAny M A b Q E s) : wpAny M A (if c = true then a else b) Q E s := by rw [if_neg (by rw [hc]; decide)]; exact h

theorem sit_stop {o : Obj} {vs : Array Value} {Q : Option Value → Shared → Prop} (hh : A.handled = none) (ho : s.heap.get? I = some o) (hd : o.data = .fields vs) (hv : vs.size = 5)
    (hQ : ∀ h', Heap.ExtBut I s.heap h' → Q none { s with heap := h' }) :
    wpAny (model PR w) A (do setField (.ref I) 2 .none; raiseNew (← newExc (.type "StopIteration") []) : Sem Fin) (fun r s' => ∃ v, r = .done (.ret v) ∧ Q (some v) s') (fun e s' => ∃ o, e = .ref o ∧ s'.TypeIs (.ref o) "StopIteration" ∧ Q none s') s := by
  refine wpAny_bind (wpAny_setField ho hd (by omega) ?_)
  refine wpAny_bind ?_
  simp only [newExc, newTuple]
  refine wpAny_bind (wpAny_newObj_type ?_ (by size_fits))
  refine wpAny_bind (m := firstArgMember _ _) (wpAny_of_eq (a := Value.none) (by first | rfl | (simp only [firstArgMember]; rfl)) ?_)
  refine wpAny_newObj_type ?_ (by size_fits)
  simp only [raiseNew]
  refine wpAny_bind (wpAny_handled ?_)
  rw [hh]
  refine wpAny_bind (wpAny_pure (wpAny_throw ?_))
  exact ⟨_, rfl, ⟨_, Heap.get?_push_size _ rfl, rfl⟩, hQ _ (((Heap.SameBut.update ..).extBut.push _).push _)⟩

theorem sit_text {slot : Int} {i : Nat} {Q : Option Value → Shared → Prop} (hh : A.handled = none) (hB : w.params.followText "set-order" = true) (hD : s.heap.get? D = some (setObj es ep t)) (hf : t.fits es.size = true)
    (hI : s.heap.get? I = some (sitObj (.int slot 0) i D es.size ep)) (hl : (pickOrder (w.params.setOrder D ep) es).size = es.size)
    (item : ∀ x, (pickOrder (w.params.setOrder D ep) es)[i]? = some x → ∀ h' slot', Heap.SameBut I s.heap h' → h'.get? I = some (sitObj (.int slot' 0) (i + 1) D es.size ep) → Q (some x.2) { s with heap := h' })
    (done : (pickOrder (w.params.setOrder D ep) es)[i]? = none → ∀ h', Heap.ExtBut I s.heap h' → Q none { s with heap := h' }) :
    wpAny (model PR w) A (pyNext (.ref I)) Q E s := by
  refine sit_open rfl hI ?_
  show wpAny _ _ (fieldsOf (.ref I) >>= _) _ _ s
  refine wpAny_bind (wpAny_fieldsOf hI rfl ?_)
  show wpAny _ _ (setEntries D >>= _) _ _ s
  refine wpAny_bind (wpAny_setEntries_of hD rfl hf ?_)
  have e0 : ((es.size : Int) != (es.size : Int)) = false := by simp
  simp only [e0, Bool.false_eq_true, if_false]
  show wpAny _ _ (setNext D slot.toNat (i : Int).toNat (ep : Int).toNat >>= _) _ _ s
  unfold setNext setsByText
  refine wpAny_bind (wpAny_bind (setState_at hD hf ?_))
  refine wpAny_bind (wpAny_bind (wpAny_askSetting (wpAny_pure ?_)))
  dsimp only
  refine wpAny_of_if_pos hB ?_
  have e1 : (ep != (ep : Int).toNat) = false := by simp
  simp only [e1, Bool.false_eq_true, if_false]
  unfold setWalk setsByText
  refine wpAny_bind (wpAny_bind (setState_at hD hf ?_))
  refine wpAny_bind (wpAny_bind (wpAny_askSetting (wpAny_pure ?_)))
  dsimp only
  refine wpAny_of_if_pos hB ?_
  refine wpAny_bind (wpAny_askSetting (wpAny_pure ?_))
  refine wpAny_pure ?_
  have e2 : (i : Int).toNat = i := Int.toNat_natCast i
  rw [e2]
  generalize hq : (pickOrder _ es)[i]? = q
  have hx : (pickOrder (w.params.setOrder D ep) es)[i]? = q := hq
  clear hq
  cases q with
  | none => exact sit_stop hh hI rfl rfl (done hx)
  | some x =>
    dsimp only [Option.map]
    refine wpAny_bind (wpAny_setField hI rfl (by simp) ?_)
    have hI1 := Heap.get?_update_self (Obj.mapFields (·.setIfInBounds 0 (rawInt (slot.toNat : Int)))) hI rfl
    refine wpAny_bind (wpAny_setField hI1 rfl (by simp) ?_)
    have hI2 := Heap.get?_update_self (Obj.mapFields (·.setIfInBounds 1 (rawInt ((i : Int) + 1)))) hI1 rfl
    exact wpAny_pure ⟨_, rfl, item x hx _ _ ((Heap.SameBut.update ..).trans (Heap.SameBut.update ..)) hI2⟩

theorem sit_drawn {T : Addr} {pl : List Nat} {i c : Nat} {Q : Option Value → Shared → Prop} (hh : A.handled = none) (hD : s.heap.get? D = some (setObj es ep t)) (hf : t.fits es.size = true)
    (hI : s.heap.get? I = some (sitObj (.ref T) i D es.size ep)) (hT : s.heap.get? T = some { cls := .type "tuple", dict := none, data := .seq (pl.map fun (k : Nat) => rawInt k).toArray c, slots := #[] }) (hpl : ∀ k ∈ pl, k < es.size)
    (item : ∀ k (hk : k < es.size), pl[i]? = some k → ∀ h', Heap.SameBut I s.heap h' → h'.get? I = some (sitObj (.ref T) (i + 1) D es.size ep) → Q (some es[k].2) { s with heap := h' })
    (done : pl[i]? = none → ∀ h', Heap.ExtBut I s.heap h' → Q none { s with heap := h' }) :
    wpAny (model PR w) A (pyNext (.ref I)) Q E s := by
  refine sit_open rfl hI ?_
  show wpAny _ _ (fieldsOf (.ref I) >>= _) _ _ s
  refine wpAny_bind (wpAny_fieldsOf hI rfl ?_)
  show wpAny _ _ (setEntries D >>= _) _ _ s
  refine wpAny_bind (wpAny_setEntries_of hD rfl hf ?_)
  have e0 : ((es.size : Int) != (es.size : Int)) = false := by simp
  simp only [e0, Bool.false_eq_true, if_false]
  show wpAny _ _ (seqItems? (.ref T) >>= _) _ _ s
  refine wpAny_bind (wpAny_seqItems hT rfl ?_)
  dsimp only
  have e2 : (i : Int).toNat = i := Int.toNat_natCast i
  have e3 : (pl.map fun (k : Nat) => rawInt k).toArray[(i : Int).toNat]? = (pl[i]?).map fun (k : Nat) => rawInt k := by
    rw [e2, List.getElem?_toArray, List.getElem?_map]
  rw [e3]
  cases hx : pl[i]? with
  | none =>
    dsimp only [Option.map]
    refine wpAny_bind (wpAny_setField hI rfl (by simp) ?_)
    have hI1 := Heap.get?_update_self (Obj.mapFields (·.setIfInBounds 0 (rawInt 0))) hI rfl
    exact sit_stop hh hI1 rfl rfl fun h' x => done hx h' fun b o nb e => x b o nb ((Heap.SameBut.update s.heap I _).extBut b o nb e)
  | some k =>
    have hk := hpl k (List.mem_of_getElem? hx)
    show wpAny _ _ (setNextDrawn D (k : Int).toNat (ep : Int).toNat >>= _) _ _ s
    unfold setNextDrawn
    refine wpAny_bind (wpAny_bind (setState_at hD hf ?_))
    have e1 : (ep != ep) = false := by simp
    simp only [Int.toNat_natCast, Array.getElem?_eq_getElem hk, e1, Bool.false_eq_true, if_false]
    refine wpAny_pure ?_
    refine wpAny_bind (wpAny_setField hI rfl (by simp) ?_)
    have hI1 := Heap.get?_update_self (Obj.mapFields (·.setIfInBounds 1 (rawInt ((i : Int) + 1)))) hI rfl
    exact wpAny_pure ⟨_, rfl, item k hk hx _ (Heap.SameBut.update ..) hI1⟩

theorem sit_small {i : Nat} {Q : Option Value → Shared → Prop} (hh : A.handled = none) (hB : w.params.followText "set-order" = false) (hD : s.heap.get? D = some (setObj es ep t)) (hf : t.fits es.size = true) (hled : t.led = true) (hn : es.size ≤ 1)
    (hi : i ≤ es.size) (hI : s.heap.get? I = some (sitObj (.int (if i = 0 then 0 else ((t.place.getD 0 0 : Nat) : Int) + 1) 0) i D es.size ep))
    (item : ∀ (hk : i < es.size), ∀ h', Heap.SameBut I s.heap h' → h'.get? I = some (sitObj (.int (((t.place.getD 0 0 : Nat) : Int) + 1) 0) (i + 1) D es.size ep) → Q (some es[i].2) { s with heap := h' })
    (done : i = es.size → ∀ h', Heap.ExtBut I s.heap h' → Q none { s with heap := h' }) :
    wpAny (model PR w) A (pyNext (.ref I)) Q E s := by
  refine sit_open rfl hI ?_
  show wpAny _ _ (fieldsOf (.ref I) >>= _) _ _ s
  refine wpAny_bind (wpAny_fieldsOf hI rfl ?_)
  show wpAny _ _ (setEntries D >>= _) _ _ s
  refine wpAny_bind (wpAny_setEntries_of hD rfl hf ?_)
  have e0 : ((es.size : Int) != (es.size : Int)) = false := by simp
  simp only [e0, Bool.false_eq_true, if_false]
  show wpAny _ _ (setNext D (if i = 0 then (0 : Int) else ((t.place.getD 0 0 : Nat) : Int) + 1).toNat (i : Int).toNat (ep : Int).toNat >>= _) _ _ s
  unfold setNext setsByText
  refine wpAny_bind (wpAny_bind (setState_at hD hf ?_))
  refine wpAny_bind (wpAny_bind (wpAny_askSetting (wpAny_pure ?_)))
  dsimp only
  refine wpAny_of_if_neg hB ?_
  have hd : (!t.plain && decide (es.size > 1)) = false := by
    rw [show decide (es.size > 1) = false from decide_eq_false (by omega), Bool.and_false]
  refine wpAny_of_if_neg hd ?_
  have hm : (!t.led && !es.isEmpty) = false := by rw [hled]; rfl
  refine wpAny_bind ?_
  show wpAny _ _ (if (!t.led && !es.isEmpty) = true then _ else _) _ _ s
  refine wpAny_of_if_neg hm ?_
  refine wpAny_pure (wpAny_pure ?_)
  have hps : t.place.size = es.size := by
    simp only [SetTable.fits, Bool.and_eq_true, beq_iff_eq] at hf
    exact hf.1
  rcases Nat.lt_or_ge 0 es.size with h0 | h0
  · have h1 : es.size = 1 := by omega
    obtain ⟨p, hp⟩ := Array.size_eq_one_iff.mp (hps.trans h1)
    have hg : t.place.getD 0 0 = p := by rw [hp]; rfl
    rcases Nat.lt_or_ge 0 i with hi0 | hi0
    · have hi1 : i = 1 := by omega
      subst hi1
      have eb : SetTable.below t.place (if (1 : Nat) = 0 then (0 : Int) else ((t.place.getD 0 0 : Nat) : Int) + 1).toNat = 1 := by
        rw [if_neg (by decide), hg, hp]
        exact below_one1 p
      rw [eb, Array.getElem?_eq_none (by omega)]
      exact sit_stop hh hI rfl rfl (done h1.symm)
    · have hi1 : i = 0 := by omega
      subst hi1
      have eb : SetTable.below t.place (if (0 : Nat) = 0 then (0 : Int) else ((t.place.getD 0 0 : Nat) : Int) + 1).toNat = 0 := by
        rw [if_pos rfl, hp]
        exact below_one0 p
      have ep0 : t.place[0]? = some p := by rw [hp]; rfl
      rw [eb, Array.getElem?_eq_getElem h0, ep0]
      dsimp only
      refine wpAny_bind (wpAny_setField hI rfl (by simp) ?_)
      have hI1 := Heap.get?_update_self (Obj.mapFields (·.setIfInBounds 0 (rawInt ((p + 1 : Nat) : Int)))) hI rfl
      refine wpAny_bind (wpAny_setField hI1 rfl (by simp) ?_)
      have hI2 := Heap.get?_update_self (Obj.mapFields (·.setIfInBounds 1 (rawInt (((0 : Nat) : Int) + 1)))) hI1 rfl
      rw [hg] at item
      exact wpAny_pure ⟨_, rfl, item h0 _ ((Heap.SameBut.update ..).trans (Heap.SameBut.update ..)) hI2⟩
  · have eb : ∀ k, es[k]? = none := fun k => Array.getElem?_eq_none (by omega)
    rw [eb]
    exact sit_stop hh hI rfl rfl (done (by omega))
end
end

section
open PySem PySem.W PyProof.Rows PySem.Calls



variable {w : World} {mean : ExcName → Option Value} {mg mb : Str → Option Value} {base : Heap} {A : Around} {l : List Env} {s : Shared}



section
variable {E : Value → Shared → Prop} {D I : Addr} {es : Array (Int × Value)} {ep : Nat} {t : SetTable}

theorem sit_self {o : Obj} {Q : Value → Shared → Prop} (hI : s.heap.get? I = some o) (hc : o.cls = .type "set_iterator") (h : Q (.ref I) s) : wpAny (model PR w) A (pyIter (.ref I)) Q E s := by
  have hT : s.TypeIs (.ref I) "set_iterator" := ⟨_, hI, hc⟩
  refine wpAny_pyIter_slot hT slot_setit_iter (wpAny_call_entry slot_setit_iter hT entry_setit_iter ?_ (args_setit_iter _))
  show wpAny _ _ (ret (.ref I)) _ _ s
  exact wpAny_pure ⟨_, rfl, "set_iterator", _, hT, slot_setit_next.lookup, h⟩

theorem walks_text (hh : A.handled = none) (hB : w.params.followText "set-order" = true) (hf : t.fits es.size = true) (hDI : D ≠ I) :
    Walks PR w A I [I, D, D] [I] es.size (fun i v => ((pickOrder (w.params.setOrder D ep) es).toList.map (·.2))[i]? = some v)
      (fun i h => h.get? D = some (setObj es ep t) ∧ ∃ slot : Int, h.get? I = some (sitObj (.int slot 0) i D es.size ep)) where
  sub := fun b hb => by simp at hb; simp [hb]
  frame := fun i h h' st hk => ⟨hk D (by simp) _ st.1, let ⟨sl, e⟩ := st.2; ⟨sl, hk I (by simp) _ e⟩⟩
  item := fun i s Q E hi st hQ => by
    obtain ⟨hD, sl, hI⟩ := st
    have hps : (pickOrder (w.params.setOrder D ep) es).size = es.size := by
      rw [← Array.length_toList, (pick_perm _ es).length_eq, Array.length_toList]
    refine sit_text hh hB hD hf hI hps (fun x hx h' sl' sb e => ?_) (fun hx => ?_)
    · refine hQ _ h' s.toks ?_ ⟨(sb.2 D hDI).trans hD, sl', e⟩ (fun b o nb q => (sb.2 b (by simpa using nb)).trans q)
      rw [List.getElem?_map, Array.getElem?_toList, hx]; rfl
    · rw [Array.getElem?_eq_none_iff, hps] at hx
      omega
  done := fun s Q E st hQ => by
    obtain ⟨hD, sl, hI⟩ := st
    have hps : (pickOrder (w.params.setOrder D ep) es).size = es.size := by
      rw [← Array.length_toList, (pick_perm _ es).length_eq, Array.length_toList]
    refine sit_text hh hB hD hf hI hps (fun x hx => ?_) (fun hx h' sb => hQ h' s.toks fun b o nb q => sb b o (by simpa using nb) q)
    rw [Array.getElem?_eq_none (by omega)] at hx
    cases hx
  self := fun i s Q E st hQ => let ⟨_, _, e⟩ := st; sit_self e rfl hQ

theorem walks_small (hh : A.handled = none) (hB : w.params.followText "set-order" = false) (hf : t.fits es.size = true) (hled : t.led = true) (hn : es.size ≤ 1) (hDI : D ≠ I) :
    Walks PR w A I [I, D, D] [I] es.size (fun i v => (es.toList.map (·.2))[i]? = some v)
      (fun i h => h.get? D = some (setObj es ep t) ∧ h.get? I = some (sitObj (.int (if i = 0 then 0 else ((t.place.getD 0 0 : Nat) : Int) + 1) 0) i D es.size ep)) where
  sub := fun b hb => by simp at hb; simp [hb]
  frame := fun i h h' st hk => ⟨hk D (by simp) _ st.1, hk I (by simp) _ st.2⟩
  item := fun i s Q E hi st hQ => by
    obtain ⟨hD, hI⟩ := st
    refine sit_small hh hB hD hf hled hn (by omega) hI (fun hk h' sb e => ?_) (fun hx => absurd hx (by omega))
    refine hQ _ h' s.toks ?_ ⟨(sb.2 D hDI).trans hD, e⟩ (fun b o nb q => (sb.2 b (by simpa using nb)).trans q)
    rw [List.getElem?_map, Array.getElem?_toList, Array.getElem?_eq_getElem hk]; rfl
  done := fun s Q E st hQ => by
    obtain ⟨hD, hI⟩ := st
    exact sit_small hh hB hD hf hled hn (Nat.le_refl _) hI (fun hk => absurd hk (by omega)) (fun hx h' sb => hQ h' s.toks fun b o nb q => sb b o (by simpa using nb) q)
  self := fun i s Q E st hQ => sit_self st.2 rfl hQ

theorem walks_drawn {T : Addr} {pl : List Nat} {c : Nat} (hh : A.handled = none) (hf : t.fits es.size = true) (hDI : D ≠ I) (hTI : T ≠ I) (hp : pl.Perm (List.range es.size)) :
    Walks PR w A I [I, D, T] [I] es.size (fun i v => (pl.map fun k => (es.toList.map (·.2)).getD k .none)[i]? = some v)
      (fun i h => h.get? D = some (setObj es ep t) ∧ h.get? I = some (sitObj (.ref T) i D es.size ep) ∧ h.get? T = some { cls := .type "tuple", dict := none, data := .seq (pl.map fun (k : Nat) => rawInt k).toArray c, slots := #[] }) where
  sub := fun b hb => by simp at hb; simp [hb]
  frame := fun i h h' st hk => ⟨hk D (by simp) _ st.1, hk I (by simp) _ st.2.1, hk T (by simp) _ st.2.2⟩
  item := fun i s Q E hi st hQ => by
    obtain ⟨hD, hI, hT⟩ := st
    have hll : pl.length = es.size := by rw [hp.length_eq, List.length_range]
    refine sit_drawn hh hD hf hI hT (fun k hk => List.mem_range.mp (hp.mem_iff.mp hk)) (fun k hk hx h' sb e => ?_) (fun hx => ?_)
    · refine hQ _ h' s.toks ?_ ⟨(sb.2 D hDI).trans hD, e, (sb.2 T hTI).trans hT⟩ (fun b o nb q => (sb.2 b (by simpa using nb)).trans q)
      rw [List.getElem?_map, hx]
      simp [hk]
    · rw [List.getElem?_eq_none_iff, hll] at hx
      omega
  done := fun s Q E st hQ => by
    obtain ⟨hD, hI, hT⟩ := st
    have hll : pl.length = es.size := by rw [hp.length_eq, List.length_range]
    refine sit_drawn hh hD hf hI hT (fun k hk => List.mem_range.mp (hp.mem_iff.mp hk)) (fun k hk hx => ?_) (fun hx h' sb => hQ h' s.toks fun b o nb q => sb b o (by simpa using nb) q)
    rw [List.getElem?_eq_none (by omega)] at hx
    cases hx
  self := fun i s Q E st hQ => sit_self st.2.1 rfl hQ

theorem perm_at (es : Array (Int × Value)) {pl : List Nat} (hp : pl.Perm (List.range es.size)) : (pl.map fun k => (es.toList.map (·.2)).getD k .none).Perm (es.toList.map (·.2)) := by
  refine (hp.map _).trans ?_
  have e : (List.range es.size).map (fun k => (es.toList.map (·.2)).getD k .none) = es.toList.map (·.2) := by
    refine List.ext_getElem (by simp) fun i h1 h2 => ?_
    simp at h1
    simp [h1]
  rw [e]

theorem set_iter {vs : List Value} {ss : List Str} {Q : Value → Shared → Prop} (hS : SetS w s.heap D vs ss)
    (h : ∀ I T h' d (vs' : List Value) (St : Nat → Heap → Prop), vs'.Perm vs → (∀ A' : Around, A'.handled = none → Walks PR w A' I [I, D, T] [I] vs'.length (fun i v => vs'[i]? = some v) St) → St 0 h' →
      (∀ b o, s.heap.get? b = some o → h'.get? b = some o) → s.heap.objs.size ≤ I → (T = D ∨ s.heap.objs.size ≤ T) → Q (.ref I) { s with heap := h', drawn := d }) :
    wpAny (model PR w) A (pyIter (.ref D)) Q E s := by
  obtain ⟨es, ep, t, ho, hel, hp, hst, hsz, hf, hled, hpl⟩ := hS
  have hD : s.heap.get? D = some (setObj es ep t) := ho
  have hDlt : D < s.heap.objs.size := Heap.lt_size ho
  have hT : s.TypeIs (.ref D) "set" := ⟨_, ho, rfl⟩
  refine wpAny_pyIter_slot hT F.slot_set_iter (wpAny_call_entry F.slot_set_iter hT entry_set_iter' ?_ (F.args_set_iter_1 _))
  show wpAny _ _ (Builtin.Frozenset.sizeOf D >>= _) _ _ s
  unfold Builtin.Frozenset.sizeOf
  refine wpAny_bind (wpAny_bind (wpAny_setEntries_of hD rfl hf (wpAny_pure ?_)))
  show wpAny _ _ (setDrawn D >>= _) _ _ s
  unfold setDrawn setsByText
  refine wpAny_bind (wpAny_bind (setState_at hD hf ?_))
  refine wpAny_bind (wpAny_bind (wpAny_askSetting (wpAny_pure ?_)))
  refine wpAny_pure ?_
  by_cases hB : w.params.followText "set-order" = true
  · have hc : (!w.params.followText "set-order" && (!t.plain && decide (es.size > 1))) = false := by rw [hB]; rfl
    refine wpAny_of_if_neg hc ?_
    refine wpAny_bind (wpAny_pure ?_)
    refine wpAny_bind (wpAny_setEpoch_of hD rfl hf ?_)
    refine wpAny_bind (wpAny_newObj_type ?_)
    refine wpAny_pure ⟨_, rfl, "set_iterator", _, ⟨_, Heap.get?_push_size _ rfl, rfl⟩, slot_setit_next.lookup, ?_⟩
    have hpk := pick_perm (w.params.setOrder D ep) es
    refine h _ D _ s.drawn ((pickOrder (w.params.setOrder D ep) es).toList.map (·.2)) (fun i h => h.get? D = some (setObj es ep t) ∧ ∃ slot : Int, h.get? s.heap.objs.size = some (sitObj (.int slot 0) i D es.size ep)) ((hpk.map _).trans hp) (fun A' hh => ?_) ⟨Heap.get?_push_of_some _ hD, 0, Heap.get?_push_size _ rfl⟩ (fun b o q => Heap.get?_push_of_some _ q) (Nat.le_refl _) (.inl rfl)
    rw [List.length_map, hpk.length_eq, Array.length_toList]
    exact walks_text hh hB hf (Nat.ne_of_lt hDlt)
  · have hB' : w.params.followText "set-order" = false := by simpa using hB
    have hled' : t.led = true := by rw [hled, hB']; rfl
    rcases Nat.lt_or_ge 1 es.size with h1 | h1
    · have hc : (!w.params.followText "set-order" && (!t.plain && decide (es.size > 1))) = true := by rw [hB', hpl (by omega)]; simpa using h1
      refine wpAny_of_if_pos hc ?_
      refine wpAny_bind ?_
      refine wpAny_drawOrder es.size (List.range es.size) List.length_range fun pl d hpl2 => ?_
      have hll : pl.length = es.size := by rw [hpl2.length_eq, List.length_range]
      refine wpAny_bind (wpAny_newObj_type ?_ ?_)
      · refine wpAny_bind (wpAny_setEpoch_of (Heap.get?_push_of_some _ hD) rfl hf ?_)
        refine wpAny_bind (wpAny_newObj_type ?_)
        refine wpAny_pure ⟨_, rfl, "set_iterator", _, ⟨_, Heap.get?_push_size _ rfl, rfl⟩, slot_setit_next.lookup, ?_⟩
        have hsz2 : (s.heap.push { cls := .type "tuple", data := .seq (pl.map fun (k : Nat) => rawInt k).toArray }).objs.size = s.heap.objs.size + 1 := Heap.size_push ..
        refine h _ s.heap.objs.size _ d (pl.map fun k => (es.toList.map (·.2)).getD k .none) (fun i h => h.get? D = some (setObj es ep t) ∧ h.get? (s.heap.push { cls := .type "tuple", data := .seq (pl.map fun (k : Nat) => rawInt k).toArray }).objs.size = some (sitObj (.ref s.heap.objs.size) i D es.size ep) ∧ h.get? s.heap.objs.size = some { cls := .type "tuple", dict := none, data := .seq (pl.map fun (k : Nat) => rawInt k).toArray 0, slots := #[] }) ((perm_at es hpl2).trans hp) (fun A' hh => ?_) ⟨Heap.get?_push_of_some _ (Heap.get?_push_of_some _ hD), Heap.get?_push_size _ rfl, Heap.get?_push_of_some _ (Heap.get?_push_size _ rfl)⟩ (fun b o q => Heap.get?_push_of_some _ (Heap.get?_push_of_some _ q)) ?_ (.inr (Nat.le_refl _))
        · rw [List.length_map, hll]
          exact walks_drawn hh hf (by rw [hsz2]; exact Nat.ne_of_lt (Nat.lt_succ_of_lt hDlt)) (by rw [hsz2]; exact Nat.ne_of_lt (Nat.lt_succ_self _)) hpl2
        · rw [hsz2]; exact Nat.le_succ _
      · show (pl.map _).toArray.size ≤ sizeLine
        rw [List.size_toArray, List.length_map, hll, sizeLine_eq]; omega
    · have hc : (!w.params.followText "set-order" && (!t.plain && decide (es.size > 1))) = false := by rw [show decide (es.size > 1) = false from decide_eq_false (by omega), Bool.and_false, Bool.and_false]
      refine wpAny_of_if_neg hc ?_
      refine wpAny_bind (wpAny_pure ?_)
      refine wpAny_bind (wpAny_setEpoch_of hD rfl hf ?_)
      refine wpAny_bind (wpAny_newObj_type ?_)
      refine wpAny_pure ⟨_, rfl, "set_iterator", _, ⟨_, Heap.get?_push_size _ rfl, rfl⟩, slot_setit_next.lookup, ?_⟩
      refine h _ D _ s.drawn (es.toList.map (·.2)) (fun i h => h.get? D = some (setObj es ep t) ∧ h.get? s.heap.objs.size = some (sitObj (.int (if i = 0 then 0 else ((t.place.getD 0 0 : Nat) : Int) + 1) 0) i D es.size ep)) hp (fun A' hh => ?_) ⟨Heap.get?_push_of_some _ hD, Heap.get?_push_size _ rfl⟩ (fun b o q => Heap.get?_push_of_some _ q) (Nat.le_refl _) (.inl rfl)
      rw [List.length_map, Array.length_toList]
      exact walks_small hh hB' hf hled' h1 (Nat.ne_of_lt hDlt)
end
end

section
open PySem PySem.W PyProof.Rows PySem.Calls PyProof.V PySem.Spec



variable {w : World} {mean : ExcName → Option Value} {mg mb : Str → Option Value} {base : Heap} {A : Around} {l : List Env} {s : Shared}



section
variable {E : Value → Shared → Prop} {D : Addr}

theorem hint_set (hT : s.TypeIs (.ref D) "set") {Q : Bool → Shared → Prop} (h : Q false s) : wpAny (model PR w) A (Builtin.List.listLengthHint (.ref D)) Q E s := by
  unfold Builtin.List.listLengthHint
  refine wpAny_bind (wpAny_specialOf hT PySem.F.slot_set_len.lookup ?_)
  generalize hid : ("set.__len__" : String) = id0
  wp_delta
  rw [show splitId id0 = some ("set", "__len__") from by subst hid; decide +kernel]
  subst hid
  refine wpAny_bind (wpAny_isInstance (T := "set") (b := true) hT (by rw [isSubtype_type]; kernel_rfl) ?_)
  refine wpAny_ite_split (fun hab => absurd hab (by decide)) (fun _ => ?_)
  refine wpAny_ite_split (fun _ => ?_) (fun hab => absurd (by decide +kernel) hab)
  refine wpAny_bind (wpAny_typeOf hT ?_)
  exact wpAny_pure h

theorem SetS.at' {h h' : Heap} {vs : List Value} {ss : List Str} (x : SetS w h D vs ss) (k : ∀ o, h.get? D = some o → h'.get? D = some o) : SetS w h' D vs ss :=
  let ⟨es, ep, t, ho, r⟩ := x
  ⟨es, ep, t, k _ ho, r⟩
theorem SetS.type {vs : List Value} {ss : List Str} (x : SetS w s.heap D vs ss) : s.TypeIs (.ref D) "set" :=
  let ⟨_, _, _, ho, _⟩ := x
  ⟨_, ho, rfl⟩
theorem SetS.lt {vs : List Value} {ss : List Str} (x : SetS w s.heap D vs ss) : D < s.heap.objs.size :=
  let ⟨_, _, _, ho, _⟩ := x
  Heap.lt_size ho

theorem set_extend {S : Addr} {vs : List Value} {ss : List Str} {res : Value} {R : Result → Shared → Prop} (hh : A.handled = none) (hS : SetS w s.heap D vs ss) (hv : vs.length < 4000) (hSD : S ≠ D) (hL : s.heap.get? S = some { cls := .type "list", dict := none, data := .seq #[] 0, slots := #[] })
    (hR : ∀ h' tk d (vs' : List Value) c', vs'.Perm vs → (∀ b o, b ≠ S → s.heap.get? b = some o → h'.get? b = some o) → h'.get? S = some { cls := .type "list", dict := none, data := .seq vs'.toArray c', slots := #[] } → R (.ok (.ret res)) { s with heap := h', toks := tk, drawn := d }) :
    wpAny (model PR w) A.in1 (Builtin.List.listExtendWith (.ref S) (.ref D) res)
      (fun fin s' => match fin with | .done f => R (.ok f) s' | .again c' => c'.quiet = true ∧ codeAny (model PR w) A c' R s') (fun e s' => R (.error e) s') s := by
  have hSlt : S < s.heap.objs.size := Heap.lt_size hL
  unfold Builtin.List.listExtendWith
  refine wpAny_bind (wpAny_typeOf (T := "set") hS.type ?_)
  have h1 : Builtin.List.listSameRef (.ref S) (.ref D) = false := by simp [Builtin.List.listSameRef, hSD]
  have h2 : (Value.type "set" == Value.type "list") = false := by decide
  have h3 : (Value.type "set" == Value.type "tuple") = false := by decide
  simp only [h1, h2, h3, Bool.or_false, Bool.false_eq_true, if_false]
  refine wpAny_bind (set_iter hS fun I T h₁ d vs' St hp W hst kp hI hT => ?_)
  have hSI : S ≠ I := Nat.ne_of_lt (Nat.lt_of_lt_of_le hSlt hI)
  have hST : S ≠ T := by
    rcases hT with e | e
    · rw [e]; exact hSD
    · exact Nat.ne_of_lt (Nat.lt_of_lt_of_le hSlt e)
  have hSf : S ∉ [I, D, T] := by simp only [List.mem_cons, List.not_mem_nil, or_false, not_or]; exact ⟨hSI, hSD, hST⟩
  have W0 := W A.in1 hh
  have hll : vs'.length = vs.length := hp.length_eq
  have hS₁ := kp _ _ hL
  have key : ∀ (h : Heap) (c₁ tk : Nat), St 0 h → (∀ b o, b ≠ S → s.heap.get? b = some o → h.get? b = some o) →
      h.get? S = some { cls := .type "list", dict := none, data := .seq #[] c₁, slots := #[] } → codeAny (model PR w) A (.builtin "list.extend.loop" ⟨[.ref S, .ref I, res], []⟩) R { s with heap := h, toks := tk, drawn := d } := by
    intro h c₁ tk hst hk hS₁
    refine codeAny_extend_loopS W0.toS (by rw [sizeLine_eq]; omega) S hSf res vs'.length 0 _ #[] c₁ rfl (Nat.zero_le _) hst hS₁ (ItemsOf.nil _) fun s' acc' c' hm hS' hacc => ?_
    have e : acc' = vs'.toArray := by
      refine Array.ext (by rw [hacc.1, List.size_toArray]) fun i hi1 hi2 => ?_
      have : vs'[i]? = some acc'[i] := hacc.2 i acc'[i] (Array.getElem?_eq_getElem hi1)
      rw [List.getElem?_eq_getElem (by simpa using hi2)] at this
      simpa using (Option.some.inj this).symm
    subst e
    rw [Moved.eq_with hm]
    refine hR s'.heap s'.toks d vs' c' hp (fun b o hb e => hm.heap b o (fun hmem => ?_) (hk b o hb e)) hS'
    rcases List.mem_cons.mp hmem with e' | hmem
    · exact hb e'
    · exact absurd (Heap.lt_size e) (Nat.not_lt.mpr (by rw [List.mem_singleton.mp hmem]; exact hI))
  refine wpAny_bind (wpAny_holding (hint_set (s := { s with heap := h₁, drawn := d }) (SetS.type (s := { s with heap := h₁, drawn := d }) (hS.at' fun o q => kp _ _ q)) ?_))
  refine wpAny_ite_split (fun _ => ?_) (fun _ => wpAny_pure ⟨plainId_quiet PySem.F.plain_extend_loop _, key _ 0 _ hst (fun b o _ e => kp b o e) hS₁⟩)
  refine wpAny_bind (wpAny_rule ?_)
  refine wpAny_bind ?_
  show wpAny _ _ (updateSeq S (·.push .none) >>= fun _ => updateSeq S (·.pop)) _ _ _
  refine wpAny_bind (wpAny_updateSeq hS₁ rfl ?_)
  have hS₂ := Heap.get?_update_self (Obj.mapSeq (·.push Value.none)) hS₁ rfl
  refine wpAny_updateSeq (hz := by seq_fits) hS₂ rfl ?_
  have hS₃ := Heap.get?_update_self (Obj.mapSeq (·.pop)) hS₂ rfl
  refine wpAny_pure ⟨plainId_quiet PySem.F.plain_extend_loop _, key _ _ _ ?_ (fun b o hb e => ?_) hS₃⟩
  · refine W0.frame 0 _ _ hst fun b hb o e => ?_
    have hbS : b ≠ S := fun h => hSf (h ▸ hb)
    exact (Heap.get?_update_other _ _ (Ne.symm hbS)).trans ((Heap.get?_update_other _ _ (Ne.symm hbS)).trans e)
  · exact (Heap.get?_update_other _ _ (Ne.symm hb)).trans ((Heap.get?_update_other _ _ (Ne.symm hb)).trans (kp b o e))

theorem strs_perm {vs vs' : List Value} {ss : List Str} (hst : StrsAre vs ss) (hp : vs'.Perm vs) : ∃ ss', StrsAre vs' ss' ∧ ss'.Perm ss := by
  induction hp generalizing ss with
  | nil => cases hst; exact ⟨[], .nil, .nil⟩
  | cons x _ ih =>
    cases hst with
    | cons y t r =>
      obtain ⟨s', a, b⟩ := ih r
      exact ⟨y :: s', .cons y t a, b.cons y⟩
  | swap x y l =>
    cases hst with
    | cons y1 t1 r =>
      cases r with
      | cons y2 t2 r => exact ⟨_, .cons y2 t2 (.cons y1 t1 r), .swap ..⟩
  | trans _ _ ih1 ih2 =>
    obtain ⟨s1, a, b⟩ := ih2 hst
    obtain ⟨s2, c, d⟩ := ih1 a
    exact ⟨s2, c, d.trans b⟩

theorem set_collect {vs : List Value} {ss : List Str} {R : List Value → Shared → Prop} (hh : A.handled = none) (hS : SetS w s.heap D vs ss) (hv : vs.length < 4000)
    (h : ∀ h' tk d (vs' : List Value), vs'.Perm vs → (∀ b o, s.heap.get? b = some o → h'.get? b = some o) → R vs' { s with heap := h', toks := tk, drawn := d }) :
    wpAny (model PR w) A (collect (.ref D)) R E s := by
  have hlt := hS.lt
  unfold collect
  refine wpAny_bind (wpAny_runValue (codeAny_builtin entry_proto_collect' ?_))
  rw [Around.under_plainId PySem.F.plain_proto_collect _]
  show wpAny _ A.in1 (newList [] >>= fun l => again (.builtin "list.__iadd__" ⟨[l, .ref D], []⟩)) _ _ s
  refine wpAny_bind (wpAny_newObj_type ?_)
  refine wpAny_pure ⟨plainId_quiet PySem.F.plain_list_iadd _, codeAny_builtin entry_list_iadd' ?_⟩
  rw [Around.under_plainId PySem.F.plain_list_iadd _]
  have hS₁ : (s.heap.push { cls := .type "list", data := .seq ([] : List Value).toArray }).get? s.heap.objs.size = some { cls := .type "list", dict := none, data := .seq #[] 0, slots := #[] } := Heap.get?_push_size _ rfl
  show wpAny _ A.in1 (Builtin.List.listExtendWith (.ref s.heap.objs.size) (.ref D) (.ref s.heap.objs.size)) _ _ _
  have key := set_extend (A := A) (s := { s with heap := s.heap.push { cls := .type "list", data := .seq ([] : List Value).toArray } }) (S := s.heap.objs.size) (res := .ref s.heap.objs.size)
    (R := fun (q : Result) (s' : Shared) => ∃ (h' : Heap) (tk : Nat) (d : Drawn) (vs' : List Value) (c' : Nat), q = .ok (.ret (.ref s.heap.objs.size)) ∧ s' = { s with heap := h', toks := tk, drawn := d } ∧ vs'.Perm vs ∧
      (∀ b o, s.heap.get? b = some o → h'.get? b = some o) ∧ h'.get? s.heap.objs.size = some { cls := .type "list", dict := none, data := .seq vs'.toArray c', slots := #[] })
    hh (hS.at' fun o q => Heap.get?_push_of_some _ q) hv (Nat.ne_of_gt hlt) hS₁
    (fun h' tk d vs' c' hp hk hS' => ⟨h', tk, d, vs', c', rfl, rfl, hp, fun b o e => hk b o (Nat.ne_of_lt (Heap.lt_size e)) (Heap.get?_push_of_some _ e), hS'⟩)
  refine wpAny_mono key (fun fin s' x => ?_) fun e s' x => ?_
  · cases fin with
    | done f =>
      obtain ⟨h', tk, d, vs', c', e, rfl, hp, hk, hS'⟩ := x
      cases e
      show wpAny _ A (load s.heap.objs.size >>= _) _ _ _
      refine wpAny_bind (wpAny_load hS' ?_)
      exact wpAny_pure (h h' tk d vs' hp hk)
    | again c₁ =>
      refine ⟨x.1, codeAny_mono x.2 fun q s₂ y => ?_⟩
      obtain ⟨h', tk, d, vs', c', rfl, rfl, hp, hk, hS'⟩ := y
      show wpAny _ A (load s.heap.objs.size >>= _) _ _ _
      refine wpAny_bind (wpAny_load hS' ?_)
      exact wpAny_pure (h h' tk d vs' hp hk)
  · obtain ⟨_, _, _, _, _, e', _⟩ := x
    cases e'

theorem set_sorted {vs : List Value} {ss : List Str} {Q : Value → Shared → Prop} (hh : A.handled = none) (hS : SetS w s.heap D vs ss) (hst : StrsAre vs ss) (hn : ss.Nodup) (hv : vs.length < 64)
    (h : ∀ Z h' tk d lv ss' ep, (∀ b o, s.heap.get? b = some o → h'.get? b = some o) → StrsAre lv ss' → ss'.Perm ss → asc ss' → h'.get? Z = some (W.listOf lv.toArray ep) → s.heap.get? Z = none → Q (.ref Z) { s with heap := h', toks := tk, drawn := d }) :
    wpAny (model PR w) A (call (.builtin "sorted") [.ref D]) Q E s := by
  refine call_function_entry kind_sorted plain_sorted entry_sorted (args_sorted1 _) ?_
  unfold Builtin.«sorted»
  refine wpAny_bind (m := checkCount "sorted" 1 1 _) (wpAny_pure ?_)
  refine wpAny_bind (set_collect (A := A.in1) hh hS (by omega) fun h' tk d vs' hp hk => ?_)
  have hl : vs'.length = vs.length := hp.length_eq
  obtain ⟨ss', hst', hp'⟩ := strs_perm hst hp
  refine wpAny_bind (wpAny_newList ?_ (by rw [hl, sizeLine_eq]; omega))
  have hz : s.heap.get? h'.objs.size = none := by
    cases hq : s.heap.get? h'.objs.size with
    | none => rfl
    | some o => exact absurd (Heap.lt_size (hk _ _ hq)) (Nat.lt_irrefl _)
  refine wpAny_bind (wpAny_holding ?_)
  refine list_sort_strs (n := 0) (ss := ss') (Heap.get?_push_size _ rfl) hst' (by omega) fun h2 vs2 ss2 ep2 k2 hS2 hp2 hs2 e2 => ?_
  exact wpAny_pure ⟨_, rfl, h _ h2 tk d vs2 ss2 ep2 (fun b o q => k2.2 b o (Heap.get?_push_of_some _ (hk b o q)) (by rw [List.mem_singleton]; exact Nat.ne_of_lt (Heap.lt_size (hk b o q)))) hS2 (hp2.trans hp') (asc_of hs2 ((hp2.trans hp').nodup_iff.mpr hn)) e2 hz⟩
end
end

section
open PySem PySem.W PyProof.Rows PySem.Calls



variable {w : World} {mean : ExcName → Option Value} {mg mb : Str → Option Value} {base : Heap} {A : Around} {l : List Env} {s : Shared}


theorem pCodes_ok : ∀ {k : Nat} {r : List Int} {cs : List Nat} {r' : List Int}, pCodes k r = some (cs, r') → ∀ c ∈ cs, c < 0x110000
  | 0, r, cs, r', h, c, hc => by rw [pCodes] at h; cases h; cases hc
  | k + 1, r, cs, r', h, c, hc => by
    rw [pCodes] at h
    split at h
    · cases h
    · rename_i c0 r2 h2
      split at h
      · cases h
      · rename_i hq
        obtain ⟨⟨cs2, r3⟩, h3, h4⟩ := Option.map_eq_some_iff.mp h
        simp only [Prod.mk.injEq] at h4
        rw [← h4.1] at hc
        rcases List.mem_cons.mp hc with rfl | hc
        · omega
        · exact pCodes_ok h3 c hc
theorem pText_ok {r r' : List Int} {x : Str} (h : pText r = some (x, r')) : PyData.strOk x = true := by
  unfold pText at h
  split at h
  · cases h
  · obtain ⟨⟨cs, r3⟩, h3, h4⟩ := Option.map_eq_some_iff.mp h
    simp only [Prod.mk.injEq] at h4
    rw [← h4.1]
    unfold PyData.strOk
    rw [Array.all_eq_true_iff_forall_mem]
    intro c hc
    have := pCodes_ok h3 c (by simpa using hc)
    simpa using this
theorem pDir_ok : ∀ {k : Nat} {last : Option Str} {r : List Int} {es : List (Str × Int)} {r' : List Int}, pDir k last r = some (es, r') → ∀ e ∈ es, PyData.strOk e.1 = true
  | 0, last, r, es, r', h, e, he => by rw [pDir] at h; cases h; cases he
  | k + 1, last, r, es, r', h, e, he => by
    rw [pDir] at h
    split at h
    · cases h
    · rename_i x r1 h1
      split at h
      · cases h
      · split at h
        · cases h
        · obtain ⟨⟨es2, r3⟩, h3, h4⟩ := Option.map_eq_some_iff.mp h
          simp only [Prod.mk.injEq] at h4
          rw [← h4.1] at he
          rcases List.mem_cons.mp he with rfl | he
          · exact pText_ok h1
          · exact pDir_ok h3 e he
theorem parse_strs {ns : List Int} {ps : List (Str × Int × Int)} (h : parse ns = some ps) : ∀ x ∈ ps.map (·.1), PyData.strOk x = true := by
  unfold parse at h
  split at h
  · cases h
  · split at h
    · cases h
    · rename_i es r2 h2
      rw [pParts_keys h]
      intro x hx
      obtain ⟨e, he, rfl⟩ := List.mem_map.mp hx
      exact pDir_ok h2 e he

theorem law5 {n : Nat} {L a : Addr} {name qual : Str} {params : Arguments} {body : List Stmt} {scope : Scope} {dV kV doc pm cdv cdv' ct oc : Value} {an odd : Option Addr} {osl : Array (Option Value)} {Q : Flow → Shared → Prop} {E : Value → Shared → Prop}
    {m : Str → Option Value} {sp dd : Addr} {svs dvs : List Value} {sns dns : List Int} {sep dep : Nat} {pd : List (Str × Int × Int)}
    (G : Gr w mean mg mb base) (ho : (hd.heap_1 w.params).lookup 259 = some ⟨oc, odd, .func (fnOf name qual params body scope dV kV doc pm an cdv ct), osl⟩)
    (C : At base (A.deeper (envOf qual scope L a cdv')) (envOf qual scope L a cdv' :: l) 20 s.heap) (B : Below A base l base)
    (F : Fr base L s.heap m)
    (hm : ∀ z ∈ [(Str.ofString "spoiled", Value.ref sp), (Str.ofString "data", Value.ref dd)], m z.1 = some z.2)
    (N : News base L s.heap [(sp, W.listOf svs.toArray sep), (dd, W.listOf dvs.toArray dep)]) (hI : IntsAre svs sns) (hby : ∀ n ∈ sns, 0 ≤ n ∧ n ≤ 255) (hl : sns.length ≤ 122) (hsd : sp ≠ dd)
    (hdI : IntsAre dvs dns) (hdl : dns.length ≤ 200) (hdp : parse dns = some pd)
    (ok : ∀ h' tk d m', Fr base L h' m' → Q (.ret (.bool true)) { s with heap := h', toks := tk, drawn := d }) :
    wpAny (model PR w) (A.deeper (envOf qual scope L a cdv')) (execs (body.drop 15) (envOf qual scope L a cdv')) Q E s := by
  obtain ⟨rfl, rfl, rfl⟩ := fn_inj (same_obj ho (by k_is))
  have F0 := Fr.known F hm
  have X := G.K
  have TT := G.T
  have hul := C.units
  have hcl9 : cLine = 9900 := rfl
  have hul64 := Nat.lt_of_lt_of_le (Nat.lt_of_le_of_lt (Nat.add_le_add_left (show 64 ≤ 60 * 20 by decide) _) hul) (Nat.le_of_eq hcl9.symm)
  clear F
  dsimp only [List.drop]
  refine (?_ : wpAny (model PR w) _ _ _ _ _)
  refine wpAny_execs_cons ?_
  refine wpAny_Try_except ?_
  refine wpAny_execs_cons ?_
  (repeat' (first | (k_unfold; (try dsimp only)) | ((fail_if_success (with_reducible first | refine (?_ : Exists _) | show wpAny _ _ (exec (Stmt.While _ _ _ _) _) _ _ _ | show wpAny _ _ (exec (Stmt.For _ _ _ _ _) _) _ _ _ | show wpAny _ _ (execs (List.cons (Stmt.Assign (List.cons (PySem.Expr.Name (Str.ofString "altered") _) List.nil) _ _) _) _) _ _ _ | show wpAny _ _ (execs (List.cons (Stmt.For _ _ _ _ _) _) _) _ _ _ | show wpAny _ _ (PySem.call (Value.ref _) _ _) _ _ _ | show wpAny _ _ (PySem.call (Value.type "range") _ _) _ _ _ | show wpAny _ _ (PySem.call (Value.type "set") _ _) _ _ _ | show wpAny _ _ (PySem.call (Value.builtin "list.append") _ _) _ _ _ | show wpAny _ _ (PySem.call (Value.builtin "len") _ _) _ _ _ | show wpAny _ _ (setItem (Value.ref _) (Value.str _ _) _) _ _ _ | show wpAny _ _ (exec (Stmt.Raise _ _ _) _) _ _ _ | show wpAny _ _ (compareOp Cmpop.NotIn _ _) _ _ _ | refine (?_ : LCg.CompSrc _ _ _ _ _ _ _ _ _ _ _ _ _ _) | show wpAny _ _ (eval (PySem.Expr.ListComp _ _ _) _) _ _ _ | show wpAny _ _ (compareOp Cmpop.In _ _) _ _ _ | show wpAny _ _ (delItem (Value.ref _) (Value.str _ _)) _ _ _ | show wpAny _ _ (PySem.call (Value.builtin "sorted") _ _) _ _ _ | show wpAny _ _ (PySem.call (Value.builtin "list.insert") _ _) _ _ _ | show wpAny _ _ (setItem (Value.ref _) (Value.int _ _) _) _ _ _ | show wpAny _ _ (execs (List.cons (Stmt.Try _ _ _ _ _) _) _) _ _ _ | show wpAny _ _ (PySem.call (Value.builtin "dict.get") _ _) _ _ _ | show wpAny _ _ (compareOp CmpOp.NotEq (Value.ref _) (Value.ref _)) _ _ _ | show wpAny _ _ (subscriptTail _ _ (Value.ref _) (Value.int _ _)) _ _ _ | show wpAny _ _ (PySem.call (Value.builtin "list.pop") _ _) _ _ _ | show wpAny _ _ (compareOp CmpOp.Eq (Value.ref _) (Value.ref _)) _ _ _ | show wpAny _ _ (subscriptTail _ _ (Value.ref _) (Value.str _ _)) _ _ _)); walk1) | dsimp only | fail "no step"))
  refine amake_call G C.less (News.isList N (.head _)) hI (by omega) hby ?_ ?_
  case refine_2 =>
    intro e h1 tk1 hpn x
    obtain ⟨⟨a0, hfl⟩, up⟩ := x
    have up0 : s.heap.UpToSlots h1 := fun b o q hd => up b o q List.not_mem_nil hd
    refine wpAny_looks_onW (Around.frames_deeper B.stack) rfl hfl fun h4 hheld4 hsm4 => ?_
    refine wpAny_landsW hheld4 fun h5 hfl5 hsm5 => ?_
    have up5 := (up0.trans hsm4).trans hsm5
    have F5 := PyProof.Rows.Fr.of_stays F0 hfl5.1 up5
    obtain ⟨ob, hob, hobc⟩ := hfl5.there
    refine wpAny_handleBy_cons (codeAny_handlers_test (name_K F5 X (topRead_of TT) (v := .ref 51) (by k_is) ?_)) (by intro q; cases q)
    obtain ⟨k0, k1, k2, k3, k5, hC⟩ := fmt_cls (X.keeps F5.keep)
    refine wpAny_excMatches_sub_self hC hob hobc ((fmt_tail (X.keeps F5.keep)).hasType (by decide)) (codeAny_handlers_suite ?_)
    refine lands_againW hfl5 fun h6 hfl6 hsm6 => ?_
    have up6 := up5.trans hsm6
    have F6 := PyProof.Rows.Fr.of_stays F0 hfl6.1 up6
    have hs6 : h6.IsList sp svs.toArray := by
      obtain ⟨sl, e1⟩ := up6 sp _ (N _ (.head _)).1 (fun vs q => by cases q)
      exact ⟨_, e1, rfl, sep, rfl⟩
    have hd6 : h6.IsList dd dvs.toArray := by
      obtain ⟨sl, e1⟩ := up6 dd _ (N _ (.tail _ (.head _))).1 (fun vs q => by cases q)
      exact ⟨_, e1, rfl, dep, rfl⟩
    have hne : sns ≠ dns := by
      rintro rfl
      rw [hpn] at hdp; cases hdp
    clear F0 F5 N hC hob
    refine (?_ : wpAny (model PR w) _ _ _ _ _)
    (repeat' (first | (k_unfold; (try dsimp only)) | ((fail_if_success (with_reducible first | refine (?_ : Exists _) | show wpAny _ _ (exec (Stmt.While _ _ _ _) _) _ _ _ | show wpAny _ _ (exec (Stmt.For _ _ _ _ _) _) _ _ _ | show wpAny _ _ (execs (List.cons (Stmt.Assign (List.cons (PySem.Expr.Name (Str.ofString "altered") _) List.nil) _ _) _) _) _ _ _ | show wpAny _ _ (execs (List.cons (Stmt.For _ _ _ _ _) _) _) _ _ _ | show wpAny _ _ (PySem.call (Value.ref _) _ _) _ _ _ | show wpAny _ _ (PySem.call (Value.type "range") _ _) _ _ _ | show wpAny _ _ (PySem.call (Value.type "set") _ _) _ _ _ | show wpAny _ _ (PySem.call (Value.builtin "list.append") _ _) _ _ _ | show wpAny _ _ (PySem.call (Value.builtin "len") _ _) _ _ _ | show wpAny _ _ (setItem (Value.ref _) (Value.str _ _) _) _ _ _ | show wpAny _ _ (exec (Stmt.Raise _ _ _) _) _ _ _ | show wpAny _ _ (compareOp Cmpop.NotIn _ _) _ _ _ | refine (?_ : LCg.CompSrc _ _ _ _ _ _ _ _ _ _ _ _ _ _) | show wpAny _ _ (eval (PySem.Expr.ListComp _ _ _) _) _ _ _ | show wpAny _ _ (compareOp Cmpop.In _ _) _ _ _ | show wpAny _ _ (delItem (Value.ref _) (Value.str _ _)) _ _ _ | show wpAny _ _ (PySem.call (Value.builtin "sorted") _ _) _ _ _ | show wpAny _ _ (PySem.call (Value.builtin "list.insert") _ _) _ _ _ | show wpAny _ _ (setItem (Value.ref _) (Value.int _ _) _) _ _ _ | show wpAny _ _ (execs (List.cons (Stmt.Try _ _ _ _ _) _) _) _ _ _ | show wpAny _ _ (PySem.call (Value.builtin "dict.get") _ _) _ _ _ | show wpAny _ _ (compareOp CmpOp.NotEq (Value.ref _) (Value.ref _)) _ _ _ | show wpAny _ _ (subscriptTail _ _ (Value.ref _) (Value.int _ _)) _ _ _ | show wpAny _ _ (PySem.call (Value.builtin "list.pop") _ _) _ _ _ | show wpAny _ _ (compareOp CmpOp.Eq (Value.ref _) (Value.ref _)) _ _ _ | show wpAny _ _ (subscriptTail _ _ (Value.ref _) (Value.str _ _)) _ _ _)); walk1) | dsimp only | fail "no step"))
    refine ne_intsK hs6 hI hd6 hdI hul64 ?_
    rw [decide_eq_false hne]
    (repeat' (first | (k_unfold; (try dsimp only)) | ((fail_if_success (with_reducible first | refine (?_ : Exists _) | show wpAny _ _ (exec (Stmt.While _ _ _ _) _) _ _ _ | show wpAny _ _ (exec (Stmt.For _ _ _ _ _) _) _ _ _ | show wpAny _ _ (execs (List.cons (Stmt.Assign (List.cons (PySem.Expr.Name (Str.ofString "altered") _) List.nil) _ _) _) _) _ _ _ | show wpAny _ _ (execs (List.cons (Stmt.For _ _ _ _ _) _) _) _ _ _ | show wpAny _ _ (PySem.call (Value.ref _) _ _) _ _ _ | show wpAny _ _ (PySem.call (Value.type "range") _ _) _ _ _ | show wpAny _ _ (PySem.call (Value.type "set") _ _) _ _ _ | show wpAny _ _ (PySem.call (Value.builtin "list.append") _ _) _ _ _ | show wpAny _ _ (PySem.call (Value.builtin "len") _ _) _ _ _ | show wpAny _ _ (setItem (Value.ref _) (Value.str _ _) _) _ _ _ | show wpAny _ _ (exec (Stmt.Raise _ _ _) _) _ _ _ | show wpAny _ _ (compareOp Cmpop.NotIn _ _) _ _ _ | refine (?_ : LCg.CompSrc _ _ _ _ _ _ _ _ _ _ _ _ _ _) | show wpAny _ _ (eval (PySem.Expr.ListComp _ _ _) _) _ _ _ | show wpAny _ _ (compareOp Cmpop.In _ _) _ _ _ | show wpAny _ _ (delItem (Value.ref _) (Value.str _ _)) _ _ _ | show wpAny _ _ (PySem.call (Value.builtin "sorted") _ _) _ _ _ | show wpAny _ _ (PySem.call (Value.builtin "list.insert") _ _) _ _ _ | show wpAny _ _ (setItem (Value.ref _) (Value.int _ _) _) _ _ _ | show wpAny _ _ (execs (List.cons (Stmt.Try _ _ _ _ _) _) _) _ _ _ | show wpAny _ _ (PySem.call (Value.builtin "dict.get") _ _) _ _ _ | show wpAny _ _ (compareOp CmpOp.NotEq (Value.ref _) (Value.ref _)) _ _ _ | show wpAny _ _ (subscriptTail _ _ (Value.ref _) (Value.int _ _)) _ _ _ | show wpAny _ _ (PySem.call (Value.builtin "list.pop") _ _) _ _ _ | show wpAny _ _ (compareOp CmpOp.Eq (Value.ref _) (Value.ref _)) _ _ _ | show wpAny _ _ (subscriptTail _ _ (Value.ref _) (Value.str _ _)) _ _ _)); walk1) | dsimp only | fail "no step"))
    exact ok h6 _ s.drawn _ F6
  intro ar al ps h1 tk1 hps k1 hal hled
  have F1 := fr_kp F0 k1
  have N1 := news_al F0 N k1 hled
  have hsp0 := (N _ (.head _)).1
  clear F0 N
  (repeat' (first | (k_unfold; (try dsimp only)) | ((fail_if_success (with_reducible first | refine (?_ : Exists _) | show wpAny _ _ (exec (Stmt.While _ _ _ _) _) _ _ _ | show wpAny _ _ (exec (Stmt.For _ _ _ _ _) _) _ _ _ | show wpAny _ _ (execs (List.cons (Stmt.Assign (List.cons (PySem.Expr.Name (Str.ofString "altered") _) List.nil) _ _) _) _) _ _ _ | show wpAny _ _ (execs (List.cons (Stmt.For _ _ _ _ _) _) _) _ _ _ | show wpAny _ _ (PySem.call (Value.ref _) _ _) _ _ _ | show wpAny _ _ (PySem.call (Value.type "range") _ _) _ _ _ | show wpAny _ _ (PySem.call (Value.type "set") _ _) _ _ _ | show wpAny _ _ (PySem.call (Value.builtin "list.append") _ _) _ _ _ | show wpAny _ _ (PySem.call (Value.builtin "len") _ _) _ _ _ | show wpAny _ _ (setItem (Value.ref _) (Value.str _ _) _) _ _ _ | show wpAny _ _ (exec (Stmt.Raise _ _ _) _) _ _ _ | show wpAny _ _ (compareOp Cmpop.NotIn _ _) _ _ _ | refine (?_ : LCg.CompSrc _ _ _ _ _ _ _ _ _ _ _ _ _ _) | show wpAny _ _ (eval (PySem.Expr.ListComp _ _ _) _) _ _ _ | show wpAny _ _ (compareOp Cmpop.In _ _) _ _ _ | show wpAny _ _ (delItem (Value.ref _) (Value.str _ _)) _ _ _ | show wpAny _ _ (PySem.call (Value.builtin "sorted") _ _) _ _ _ | show wpAny _ _ (PySem.call (Value.builtin "list.insert") _ _) _ _ _ | show wpAny _ _ (setItem (Value.ref _) (Value.int _ _) _) _ _ _ | show wpAny _ _ (execs (List.cons (Stmt.Try _ _ _ _ _) _) _) _ _ _ | show wpAny _ _ (PySem.call (Value.builtin "dict.get") _ _) _ _ _ | show wpAny _ _ (compareOp CmpOp.NotEq (Value.ref _) (Value.ref _)) _ _ _ | show wpAny _ _ (subscriptTail _ _ (Value.ref _) (Value.int _ _)) _ _ _ | show wpAny _ _ (PySem.call (Value.builtin "list.pop") _ _) _ _ _ | show wpAny _ _ (compareOp CmpOp.Eq (Value.ref _) (Value.ref _)) _ _ _ | show wpAny _ _ (subscriptTail _ _ (Value.ref _) (Value.str _ _)) _ _ _)); walk1) | dsimp only | fail "no step"))
  rename Fr _ _ _ _ => F2
  rename News _ _ _ _ => N2
  obtain ⟨da, lo', pd', t1, t2, t3, har, had, hna⟩ := arled_two hal
  obtain ⟨hasc, hbd, hsum, hlen2⟩ := parse_tells hps
  have hpl : ps.length ≤ 61 := by omega
  have hndp : (ps.map (·.1)).Nodup := asc_nodup hasc
  have N3 := News.sub (news' := (ar, instObj 224 da) :: (da, arDict w t1 t2 t3 sp lo' pd') :: (sp, W.listOf svs.toArray sep) :: al) N2 fun p hp => by
    rcases List.mem_cons.mp hp with rfl | hp
    · exact List.mem_append_left _ har
    rcases List.mem_cons.mp hp with rfl | hp
    · exact List.mem_append_left _ had
    rcases List.mem_cons.mp hp with rfl | hp
    · exact List.mem_append_right _ (.head _)
    · exact List.mem_append_left _ hp
  have hald : ∀ p ∈ al, p.1 ≠ sp := fun p hp => fresh_ne (hled p hp).2 hsp0
  clear N2
  refine wpAny_execs_cons ?_
  refine wpAny_For ?_
  (repeat' (first | (k_unfold; (try dsimp only)) | ((fail_if_success (with_reducible first | refine (?_ : Exists _) | show wpAny _ _ (exec (Stmt.While _ _ _ _) _) _ _ _ | show wpAny _ _ (exec (Stmt.For _ _ _ _ _) _) _ _ _ | show wpAny _ _ (execs (List.cons (Stmt.Assign (List.cons (PySem.Expr.Name (Str.ofString "altered") _) List.nil) _ _) _) _) _ _ _ | show wpAny _ _ (execs (List.cons (Stmt.For _ _ _ _ _) _) _) _ _ _ | show wpAny _ _ (PySem.call (Value.ref _) _ _) _ _ _ | show wpAny _ _ (PySem.call (Value.type "range") _ _) _ _ _ | show wpAny _ _ (PySem.call (Value.type "set") _ _) _ _ _ | show wpAny _ _ (PySem.call (Value.builtin "list.append") _ _) _ _ _ | show wpAny _ _ (PySem.call (Value.builtin "len") _ _) _ _ _ | show wpAny _ _ (setItem (Value.ref _) (Value.str _ _) _) _ _ _ | show wpAny _ _ (exec (Stmt.Raise _ _ _) _) _ _ _ | show wpAny _ _ (compareOp Cmpop.NotIn _ _) _ _ _ | refine (?_ : LCg.CompSrc _ _ _ _ _ _ _ _ _ _ _ _ _ _) | show wpAny _ _ (eval (PySem.Expr.ListComp _ _ _) _) _ _ _ | show wpAny _ _ (compareOp Cmpop.In _ _) _ _ _ | show wpAny _ _ (delItem (Value.ref _) (Value.str _ _)) _ _ _ | show wpAny _ _ (PySem.call (Value.builtin "sorted") _ _) _ _ _ | show wpAny _ _ (PySem.call (Value.builtin "list.insert") _ _) _ _ _ | show wpAny _ _ (setItem (Value.ref _) (Value.int _ _) _) _ _ _ | show wpAny _ _ (execs (List.cons (Stmt.Try _ _ _ _ _) _) _) _ _ _ | show wpAny _ _ (PySem.call (Value.builtin "dict.get") _ _) _ _ _ | show wpAny _ _ (compareOp CmpOp.NotEq (Value.ref _) (Value.ref _)) _ _ _ | show wpAny _ _ (subscriptTail _ _ (Value.ref _) (Value.int _ _)) _ _ _ | show wpAny _ _ (PySem.call (Value.builtin "list.pop") _ _) _ _ _ | show wpAny _ _ (compareOp CmpOp.Eq (Value.ref _) (Value.ref _)) _ _ _ | show wpAny _ _ (subscriptTail _ _ (Value.ref _) (Value.str _ _)) _ _ _)); walk1) | dsimp only | fail "no step"))
  refine names_call G (C.now B F2).less hal (Core.mk (C.now B F2) B (News.sub N3 fun p hp => .tail _ (.tail _ (.tail _ hp)))) (by omega) ?_
  intro b lv ep h3 tk3 k3 hb hS eb
  dsimp only at k3 hb eb
  have F3 := fr_kp F2 k3
  have N4 := News.made F2 N3 k3 hb eb
  clear F2 N3
  (repeat' (first | (k_unfold; (try dsimp only)) | ((fail_if_success (with_reducible first | refine (?_ : Exists _) | show wpAny _ _ (exec (Stmt.While _ _ _ _) _) _ _ _ | show wpAny _ _ (exec (Stmt.For _ _ _ _ _) _) _ _ _ | show wpAny _ _ (execs (List.cons (Stmt.Assign (List.cons (PySem.Expr.Name (Str.ofString "altered") _) List.nil) _ _) _) _) _ _ _ | show wpAny _ _ (execs (List.cons (Stmt.For _ _ _ _ _) _) _) _ _ _ | show wpAny _ _ (PySem.call (Value.ref _) _ _) _ _ _ | show wpAny _ _ (PySem.call (Value.type "range") _ _) _ _ _ | show wpAny _ _ (PySem.call (Value.type "set") _ _) _ _ _ | show wpAny _ _ (PySem.call (Value.builtin "list.append") _ _) _ _ _ | show wpAny _ _ (PySem.call (Value.builtin "len") _ _) _ _ _ | show wpAny _ _ (setItem (Value.ref _) (Value.str _ _) _) _ _ _ | show wpAny _ _ (exec (Stmt.Raise _ _ _) _) _ _ _ | show wpAny _ _ (compareOp Cmpop.NotIn _ _) _ _ _ | refine (?_ : LCg.CompSrc _ _ _ _ _ _ _ _ _ _ _ _ _ _) | show wpAny _ _ (eval (PySem.Expr.ListComp _ _ _) _) _ _ _ | show wpAny _ _ (compareOp Cmpop.In _ _) _ _ _ | show wpAny _ _ (delItem (Value.ref _) (Value.str _ _)) _ _ _ | show wpAny _ _ (PySem.call (Value.builtin "sorted") _ _) _ _ _ | show wpAny _ _ (PySem.call (Value.builtin "list.insert") _ _) _ _ _ | show wpAny _ _ (setItem (Value.ref _) (Value.int _ _) _) _ _ _ | show wpAny _ _ (execs (List.cons (Stmt.Try _ _ _ _ _) _) _) _ _ _ | show wpAny _ _ (PySem.call (Value.builtin "dict.get") _ _) _ _ _ | show wpAny _ _ (compareOp CmpOp.NotEq (Value.ref _) (Value.ref _)) _ _ _ | show wpAny _ _ (subscriptTail _ _ (Value.ref _) (Value.int _ _)) _ _ _ | show wpAny _ _ (PySem.call (Value.builtin "list.pop") _ _) _ _ _ | show wpAny _ _ (compareOp CmpOp.Eq (Value.ref _) (Value.ref _)) _ _ _ | show wpAny _ _ (subscriptTail _ _ (Value.ref _) (Value.str _ _)) _ _ _)); walk1) | dsimp only | fail "no step"))
  refine list_iter (News.isList N4 (.head _)) ?_
  intro I h5 k5 hI5 e5
  dsimp only at hI5 k5
  have hIn : h3.get? I = none := none_of_le hI5
  have F5 := fr_kp F3 k5
  have N5 := News.made F3 N4 k5 hIn e5
  obtain ⟨hIL, hIg⟩ := fr_new F3 hIn
  have hIne : ∀ p ∈ (b, W.listOf lv.toArray ep) :: (ar, instObj 224 da) :: (da, arDict w t1 t2 t3 sp lo' pd') :: (sp, W.listOf svs.toArray sep) :: al, p.1 ≠ I := fun p hp => (ne_none hIn (N4 p hp).1).symm
  clear F3 N4
  refine loop_list (ll := b) (items := lv) (C.now B F5).calm (fun (k : Nat) (s' : Shared) => Box (∀ PP : Prop, (∀ (tk'' : Tok) (m : Str → Option Value) (h'' : Heap) (o : Obj) (tw : Tok), s' = { s with heap := h'', toks := tk'' } → Fr base L h'' m → ((∀ z ∈ [(Str.ofString "spoiled", Value.ref sp), (Str.ofString "odd", Value.ref ar), (Str.ofString "whole_size", Value.int ((ps.take k).map fun p => p.2.2 - p.2.1).sum tw)], m z.1 = some z.2)) → News base L h'' ((I, o) :: (b, W.listOf lv.toArray ep) :: (ar, instObj 224 da) :: (da, arDict w t1 t2 t3 sp lo' pd') :: (sp, W.listOf svs.toArray sep) :: al) → o.cls = .type "list_iterator" → o.data = .fields #[.ref b, .int k 0] → PP) → PP)) ?_ ?_ ?_ ?_
  · rintro k s' xx
    refine unbox xx _ fun tk'' m h'' o tw es F7 hm N7 ho1 ho2 => ?_
    subst es
    exact ⟨⟨o, (N7 _ (.head _)).1, ho1, ho2⟩, News.isList N7 (.tail _ (.head _))⟩
  · rintro k s' h7 v hv xx ⟨o', ho', hc', hd'⟩ hs7
    refine unbox xx _ fun tk'' m h'' o tw es F7 hm N7 ho1 ho2 => ?_
    subst es
    obtain ⟨x, tx, hx, rfl⟩ := strs_get hS hv
    have K7 := same_kp hs7
    have F8 := Fr.known (K7.fr F7 (by simpa using hIL.symm) (by simpa using hIg)) hm
    have N8 := News.cons ho' hIL hIg (K7.news (News.tail N7) (fun p hp => by simpa using hIne p hp))
    clear F7 N7 F5 N5
    obtain ⟨pa, pb, hpk⟩ : ∃ pa pb, ps[k]? = some (x, pa, pb) := by
      rw [List.getElem?_map] at hx
      cases q : ps[k]? with
      | none => rw [q] at hx; cases hx
      | some p => obtain ⟨y, pa, pb⟩ := p; rw [q] at hx; cases hx; exact ⟨pa, pb, rfl⟩
    have hpm : (x, pa, pb) ∈ ps := List.mem_of_getElem? hpk
    have hlk : look ps x = some (pa, pb) := look_mem hndp hpm
    obtain ⟨hb1, hb2, hb3⟩ := hbd _ hpm
    dsimp only at hb1 hb2 hb3
    dsimp only
    refine (?_ : wpAny (model PR w) _ _ _ _ _)
    (repeat' (first | (k_unfold; (try dsimp only)) | ((fail_if_success (with_reducible first | refine (?_ : Exists _) | show wpAny _ _ (exec (Stmt.While _ _ _ _) _) _ _ _ | show wpAny _ _ (exec (Stmt.For _ _ _ _ _) _) _ _ _ | show wpAny _ _ (execs (List.cons (Stmt.Assign (List.cons (PySem.Expr.Name (Str.ofString "altered") _) List.nil) _ _) _) _) _ _ _ | show wpAny _ _ (execs (List.cons (Stmt.For _ _ _ _ _) _) _) _ _ _ | show wpAny _ _ (PySem.call (Value.ref _) _ _) _ _ _ | show wpAny _ _ (PySem.call (Value.type "range") _ _) _ _ _ | show wpAny _ _ (PySem.call (Value.type "set") _ _) _ _ _ | show wpAny _ _ (PySem.call (Value.builtin "list.append") _ _) _ _ _ | show wpAny _ _ (PySem.call (Value.builtin "len") _ _) _ _ _ | show wpAny _ _ (setItem (Value.ref _) (Value.str _ _) _) _ _ _ | show wpAny _ _ (exec (Stmt.Raise _ _ _) _) _ _ _ | show wpAny _ _ (compareOp Cmpop.NotIn _ _) _ _ _ | refine (?_ : LCg.CompSrc _ _ _ _ _ _ _ _ _ _ _ _ _ _) | show wpAny _ _ (eval (PySem.Expr.ListComp _ _ _) _) _ _ _ | show wpAny _ _ (compareOp Cmpop.In _ _) _ _ _ | show wpAny _ _ (delItem (Value.ref _) (Value.str _ _)) _ _ _ | show wpAny _ _ (PySem.call (Value.builtin "sorted") _ _) _ _ _ | show wpAny _ _ (PySem.call (Value.builtin "list.insert") _ _) _ _ _ | show wpAny _ _ (setItem (Value.ref _) (Value.int _ _) _) _ _ _ | show wpAny _ _ (execs (List.cons (Stmt.Try _ _ _ _ _) _) _) _ _ _ | show wpAny _ _ (PySem.call (Value.builtin "dict.get") _ _) _ _ _ | show wpAny _ _ (compareOp CmpOp.NotEq (Value.ref _) (Value.ref _)) _ _ _ | show wpAny _ _ (subscriptTail _ _ (Value.ref _) (Value.int _ _)) _ _ _ | show wpAny _ _ (PySem.call (Value.builtin "list.pop") _ _) _ _ _ | show wpAny _ _ (compareOp CmpOp.Eq (Value.ref _) (Value.ref _)) _ _ _ | show wpAny _ _ (subscriptTail _ _ (Value.ref _) (Value.str _ _)) _ _ _)); walk1) | dsimp only | fail "no step"))
    rename Fr _ _ _ _ => F9
    rename News _ _ _ _ => N9
    have hsb : ∀ p ∈ al, p ∈ (I, o') :: (b, W.listOf lv.toArray ep) :: (ar, instObj 224 da) :: (da, arDict w t1 t2 t3 sp lo' pd') :: (sp, W.listOf svs.toArray sep) :: al := fun p hp => .tail _ (.tail _ (.tail _ (.tail _ (.tail _ hp))))
    refine size_call G (C.now B F9).less hal (Core.mk (C.now B F9) B (News.sub N9 hsb)) ?_
    intro h10 tk10 t10 k10
    rw [hlk]
    dsimp only at k10 ⊢
    have F10 := fr_kp F9 k10
    have N10 := k10.news N9 (by simp)
    clear F9 N9
    (repeat' (first | (k_unfold; (try dsimp only)) | ((fail_if_success (with_reducible first | refine (?_ : Exists _) | show wpAny _ _ (exec (Stmt.While _ _ _ _) _) _ _ _ | show wpAny _ _ (exec (Stmt.For _ _ _ _ _) _) _ _ _ | show wpAny _ _ (execs (List.cons (Stmt.Assign (List.cons (PySem.Expr.Name (Str.ofString "altered") _) List.nil) _ _) _) _) _ _ _ | show wpAny _ _ (execs (List.cons (Stmt.For _ _ _ _ _) _) _) _ _ _ | show wpAny _ _ (PySem.call (Value.ref _) _ _) _ _ _ | show wpAny _ _ (PySem.call (Value.type "range") _ _) _ _ _ | show wpAny _ _ (PySem.call (Value.type "set") _ _) _ _ _ | show wpAny _ _ (PySem.call (Value.builtin "list.append") _ _) _ _ _ | show wpAny _ _ (PySem.call (Value.builtin "len") _ _) _ _ _ | show wpAny _ _ (setItem (Value.ref _) (Value.str _ _) _) _ _ _ | show wpAny _ _ (exec (Stmt.Raise _ _ _) _) _ _ _ | show wpAny _ _ (compareOp Cmpop.NotIn _ _) _ _ _ | refine (?_ : LCg.CompSrc _ _ _ _ _ _ _ _ _ _ _ _ _ _) | show wpAny _ _ (eval (PySem.Expr.ListComp _ _ _) _) _ _ _ | show wpAny _ _ (compareOp Cmpop.In _ _) _ _ _ | show wpAny _ _ (delItem (Value.ref _) (Value.str _ _)) _ _ _ | show wpAny _ _ (PySem.call (Value.builtin "sorted") _ _) _ _ _ | show wpAny _ _ (PySem.call (Value.builtin "list.insert") _ _) _ _ _ | show wpAny _ _ (setItem (Value.ref _) (Value.int _ _) _) _ _ _ | show wpAny _ _ (execs (List.cons (Stmt.Try _ _ _ _ _) _) _) _ _ _ | show wpAny _ _ (PySem.call (Value.builtin "dict.get") _ _) _ _ _ | show wpAny _ _ (compareOp CmpOp.NotEq (Value.ref _) (Value.ref _)) _ _ _ | show wpAny _ _ (subscriptTail _ _ (Value.ref _) (Value.int _ _)) _ _ _ | show wpAny _ _ (PySem.call (Value.builtin "list.pop") _ _) _ _ _ | show wpAny _ _ (compareOp CmpOp.Eq (Value.ref _) (Value.ref _)) _ _ _ | show wpAny _ _ (subscriptTail _ _ (Value.ref _) (Value.str _ _)) _ _ _)); walk1) | dsimp only | fail "no step"))
    rename Fr _ _ _ _ => F11
    rename News _ _ _ _ => N11
    refine read_call G (C.now B F11).less hal (Core.mk (C.now B F11) B (News.sub N11 hsb)) (News.isList N11 (.tail _ (.tail _ (.tail _ (.tail _ (.head _)))))) hald hI (by omega) (fun a b q => parse_look hps q) (fun q => by rw [hlk] at q; cases q) ?_
    intro pa' pb' hlk' d dvs2 dep2 h12 tk12 k12 hdn hdI2 ed
    rw [hlk] at hlk'
    cases hlk'
    dsimp only at k12 hdn ed
    have F12 := fr_kp F11 k12
    have N12 := News.made F11 N11 k12 hdn ed
    clear F11 N11
    have hdl2 : dvs2.length = (pb - pa).toNat := by
      rw [hdI2.length, List.length_take, List.length_drop]
      omega
    (repeat' (first | (k_unfold; (try dsimp only)) | ((fail_if_success (with_reducible first | refine (?_ : Exists _) | show wpAny _ _ (exec (Stmt.While _ _ _ _) _) _ _ _ | show wpAny _ _ (exec (Stmt.For _ _ _ _ _) _) _ _ _ | show wpAny _ _ (execs (List.cons (Stmt.Assign (List.cons (PySem.Expr.Name (Str.ofString "altered") _) List.nil) _ _) _) _) _ _ _ | show wpAny _ _ (execs (List.cons (Stmt.For _ _ _ _ _) _) _) _ _ _ | show wpAny _ _ (PySem.call (Value.ref _) _ _) _ _ _ | show wpAny _ _ (PySem.call (Value.type "range") _ _) _ _ _ | show wpAny _ _ (PySem.call (Value.type "set") _ _) _ _ _ | show wpAny _ _ (PySem.call (Value.builtin "list.append") _ _) _ _ _ | show wpAny _ _ (PySem.call (Value.builtin "len") _ _) _ _ _ | show wpAny _ _ (setItem (Value.ref _) (Value.str _ _) _) _ _ _ | show wpAny _ _ (exec (Stmt.Raise _ _ _) _) _ _ _ | show wpAny _ _ (compareOp Cmpop.NotIn _ _) _ _ _ | refine (?_ : LCg.CompSrc _ _ _ _ _ _ _ _ _ _ _ _ _ _) | show wpAny _ _ (eval (PySem.Expr.ListComp _ _ _) _) _ _ _ | show wpAny _ _ (compareOp Cmpop.In _ _) _ _ _ | show wpAny _ _ (delItem (Value.ref _) (Value.str _ _)) _ _ _ | show wpAny _ _ (PySem.call (Value.builtin "sorted") _ _) _ _ _ | show wpAny _ _ (PySem.call (Value.builtin "list.insert") _ _) _ _ _ | show wpAny _ _ (setItem (Value.ref _) (Value.int _ _) _) _ _ _ | show wpAny _ _ (execs (List.cons (Stmt.Try _ _ _ _ _) _) _) _ _ _ | show wpAny _ _ (PySem.call (Value.builtin "dict.get") _ _) _ _ _ | show wpAny _ _ (compareOp CmpOp.NotEq (Value.ref _) (Value.ref _)) _ _ _ | show wpAny _ _ (subscriptTail _ _ (Value.ref _) (Value.int _ _)) _ _ _ | show wpAny _ _ (PySem.call (Value.builtin "list.pop") _ _) _ _ _ | show wpAny _ _ (compareOp CmpOp.Eq (Value.ref _) (Value.ref _)) _ _ _ | show wpAny _ _ (subscriptTail _ _ (Value.ref _) (Value.str _ _)) _ _ _)); walk1) | dsimp only | fail "no step"))
    refine len_of (News.isList N12 (.head _)) hdl2 (by omega) ?_
    (repeat' (first | (k_unfold; (try dsimp only)) | ((fail_if_success (with_reducible first | refine (?_ : Exists _) | show wpAny _ _ (exec (Stmt.While _ _ _ _) _) _ _ _ | show wpAny _ _ (exec (Stmt.For _ _ _ _ _) _) _ _ _ | show wpAny _ _ (execs (List.cons (Stmt.Assign (List.cons (PySem.Expr.Name (Str.ofString "altered") _) List.nil) _ _) _) _) _ _ _ | show wpAny _ _ (execs (List.cons (Stmt.For _ _ _ _ _) _) _) _ _ _ | show wpAny _ _ (PySem.call (Value.ref _) _ _) _ _ _ | show wpAny _ _ (PySem.call (Value.type "range") _ _) _ _ _ | show wpAny _ _ (PySem.call (Value.type "set") _ _) _ _ _ | show wpAny _ _ (PySem.call (Value.builtin "list.append") _ _) _ _ _ | show wpAny _ _ (PySem.call (Value.builtin "len") _ _) _ _ _ | show wpAny _ _ (setItem (Value.ref _) (Value.str _ _) _) _ _ _ | show wpAny _ _ (exec (Stmt.Raise _ _ _) _) _ _ _ | show wpAny _ _ (compareOp Cmpop.NotIn _ _) _ _ _ | refine (?_ : LCg.CompSrc _ _ _ _ _ _ _ _ _ _ _ _ _ _) | show wpAny _ _ (eval (PySem.Expr.ListComp _ _ _) _) _ _ _ | show wpAny _ _ (compareOp Cmpop.In _ _) _ _ _ | show wpAny _ _ (delItem (Value.ref _) (Value.str _ _)) _ _ _ | show wpAny _ _ (PySem.call (Value.builtin "sorted") _ _) _ _ _ | show wpAny _ _ (PySem.call (Value.builtin "list.insert") _ _) _ _ _ | show wpAny _ _ (setItem (Value.ref _) (Value.int _ _) _) _ _ _ | show wpAny _ _ (execs (List.cons (Stmt.Try _ _ _ _ _) _) _) _ _ _ | show wpAny _ _ (PySem.call (Value.builtin "dict.get") _ _) _ _ _ | show wpAny _ _ (compareOp CmpOp.NotEq (Value.ref _) (Value.ref _)) _ _ _ | show wpAny _ _ (subscriptTail _ _ (Value.ref _) (Value.int _ _)) _ _ _ | show wpAny _ _ (PySem.call (Value.builtin "list.pop") _ _) _ _ _ | show wpAny _ _ (compareOp CmpOp.Eq (Value.ref _) (Value.ref _)) _ _ _ | show wpAny _ _ (subscriptTail _ _ (Value.ref _) (Value.str _ _)) _ _ _)); walk1) | dsimp only | fail "no step"))
    refine size_call G (C.now B F12).less hal (Core.mk (C.now B F12) B (News.sub N12 fun p hp => .tail _ (hsb p hp))) ?_
    intro h13 tk13 t13 k13
    rw [hlk]
    dsimp only at k13 ⊢
    have F13 := fr_kp F12 k13
    have N13 := k13.news N12 (by simp)
    clear F12 N12
    (repeat' (first | (k_unfold; (try dsimp only)) | ((fail_if_success (with_reducible first | refine (?_ : Exists _) | show wpAny _ _ (exec (Stmt.While _ _ _ _) _) _ _ _ | show wpAny _ _ (exec (Stmt.For _ _ _ _ _) _) _ _ _ | show wpAny _ _ (execs (List.cons (Stmt.Assign (List.cons (PySem.Expr.Name (Str.ofString "altered") _) List.nil) _ _) _) _) _ _ _ | show wpAny _ _ (execs (List.cons (Stmt.For _ _ _ _ _) _) _) _ _ _ | show wpAny _ _ (PySem.call (Value.ref _) _ _) _ _ _ | show wpAny _ _ (PySem.call (Value.type "range") _ _) _ _ _ | show wpAny _ _ (PySem.call (Value.type "set") _ _) _ _ _ | show wpAny _ _ (PySem.call (Value.builtin "list.append") _ _) _ _ _ | show wpAny _ _ (PySem.call (Value.builtin "len") _ _) _ _ _ | show wpAny _ _ (setItem (Value.ref _) (Value.str _ _) _) _ _ _ | show wpAny _ _ (exec (Stmt.Raise _ _ _) _) _ _ _ | show wpAny _ _ (compareOp Cmpop.NotIn _ _) _ _ _ | refine (?_ : LCg.CompSrc _ _ _ _ _ _ _ _ _ _ _ _ _ _) | show wpAny _ _ (eval (PySem.Expr.ListComp _ _ _) _) _ _ _ | show wpAny _ _ (compareOp Cmpop.In _ _) _ _ _ | show wpAny _ _ (delItem (Value.ref _) (Value.str _ _)) _ _ _ | show wpAny _ _ (PySem.call (Value.builtin "sorted") _ _) _ _ _ | show wpAny _ _ (PySem.call (Value.builtin "list.insert") _ _) _ _ _ | show wpAny _ _ (setItem (Value.ref _) (Value.int _ _) _) _ _ _ | show wpAny _ _ (execs (List.cons (Stmt.Try _ _ _ _ _) _) _) _ _ _ | show wpAny _ _ (PySem.call (Value.builtin "dict.get") _ _) _ _ _ | show wpAny _ _ (compareOp CmpOp.NotEq (Value.ref _) (Value.ref _)) _ _ _ | show wpAny _ _ (subscriptTail _ _ (Value.ref _) (Value.int _ _)) _ _ _ | show wpAny _ _ (PySem.call (Value.builtin "list.pop") _ _) _ _ _ | show wpAny _ _ (compareOp CmpOp.Eq (Value.ref _) (Value.ref _)) _ _ _ | show wpAny _ _ (subscriptTail _ _ (Value.ref _) (Value.str _ _)) _ _ _)); walk1) | dsimp only | fail "no step"))
    · exfalso; omega
    · have esum : ((ps.take (k + 1)).map fun p => p.2.2 - p.2.1).sum = ((ps.take k).map fun p => p.2.2 - p.2.1).sum + (pb - pa) := by
        rw [List.take_add_one, hpk, List.map_append, List.sum_append]
        simp
      refine box fun PP kk => kk _ _ h13 o' ?tw rfl F13 ?nm (News.tail N13) hc' hd'
      case nm =>
        simp only [List.forall_mem_cons]
        exact ⟨rfl, rfl, by rw [esum]; rfl, fun _ hq => absurd hq List.not_mem_nil⟩
  · rintro s' h' xx ext
    refine unbox xx _ fun tk'' m h'' o tw es F7 hm N7 ho1 ho2 => ?_
    subst es
    have hll : lv.length = ps.length := by rw [hS.len_eq, List.length_map]
    rw [hll, List.take_length] at hm
    have F8 := Fr.known (Fr.ext F7 ext hIL hIg) hm
    have N8 := News.ext (News.tail N7) ext hIne
    clear F7 N7 F5 N5
    dsimp only at ext F8 N8 ⊢
    refine (?_ : wpAny (model PR w) _ _ _ _ _)
    (repeat' (first | (k_unfold; (try dsimp only)) | ((fail_if_success (with_reducible first | refine (?_ : Exists _) | show wpAny _ _ (exec (Stmt.While _ _ _ _) _) _ _ _ | show wpAny _ _ (exec (Stmt.For _ _ _ _ _) _) _ _ _ | show wpAny _ _ (execs (List.cons (Stmt.Assign (List.cons (PySem.Expr.Name (Str.ofString "altered") _) List.nil) _ _) _) _) _ _ _ | show wpAny _ _ (execs (List.cons (Stmt.For _ _ _ _ _) _) _) _ _ _ | show wpAny _ _ (PySem.call (Value.ref _) _ _) _ _ _ | show wpAny _ _ (PySem.call (Value.type "range") _ _) _ _ _ | show wpAny _ _ (PySem.call (Value.type "set") _ _) _ _ _ | show wpAny _ _ (PySem.call (Value.builtin "list.append") _ _) _ _ _ | show wpAny _ _ (PySem.call (Value.builtin "len") _ _) _ _ _ | show wpAny _ _ (setItem (Value.ref _) (Value.str _ _) _) _ _ _ | show wpAny _ _ (exec (Stmt.Raise _ _ _) _) _ _ _ | show wpAny _ _ (compareOp Cmpop.NotIn _ _) _ _ _ | refine (?_ : LCg.CompSrc _ _ _ _ _ _ _ _ _ _ _ _ _ _) | show wpAny _ _ (eval (PySem.Expr.ListComp _ _ _) _) _ _ _ | show wpAny _ _ (compareOp Cmpop.In _ _) _ _ _ | show wpAny _ _ (delItem (Value.ref _) (Value.str _ _)) _ _ _ | show wpAny _ _ (PySem.call (Value.builtin "sorted") _ _) _ _ _ | show wpAny _ _ (PySem.call (Value.builtin "list.insert") _ _) _ _ _ | show wpAny _ _ (setItem (Value.ref _) (Value.int _ _) _) _ _ _ | show wpAny _ _ (execs (List.cons (Stmt.Try _ _ _ _ _) _) _) _ _ _ | show wpAny _ _ (PySem.call (Value.builtin "dict.get") _ _) _ _ _ | show wpAny _ _ (compareOp CmpOp.NotEq (Value.ref _) (Value.ref _)) _ _ _ | show wpAny _ _ (subscriptTail _ _ (Value.ref _) (Value.int _ _)) _ _ _ | show wpAny _ _ (PySem.call (Value.builtin "list.pop") _ _) _ _ _ | show wpAny _ _ (compareOp CmpOp.Eq (Value.ref _) (Value.ref _)) _ _ _ | show wpAny _ _ (subscriptTail _ _ (Value.ref _) (Value.str _ _)) _ _ _)); walk1) | dsimp only | fail "no step"))
    refine len_of (News.isList N8 (.tail _ (.tail _ (.tail _ (.head _))))) hI.length (by omega) ?_
    (repeat' (first | (k_unfold; (try dsimp only)) | ((fail_if_success (with_reducible first | refine (?_ : Exists _) | show wpAny _ _ (exec (Stmt.While _ _ _ _) _) _ _ _ | show wpAny _ _ (exec (Stmt.For _ _ _ _ _) _) _ _ _ | show wpAny _ _ (execs (List.cons (Stmt.Assign (List.cons (PySem.Expr.Name (Str.ofString "altered") _) List.nil) _ _) _) _) _ _ _ | show wpAny _ _ (execs (List.cons (Stmt.For _ _ _ _ _) _) _) _ _ _ | show wpAny _ _ (PySem.call (Value.ref _) _ _) _ _ _ | show wpAny _ _ (PySem.call (Value.type "range") _ _) _ _ _ | show wpAny _ _ (PySem.call (Value.type "set") _ _) _ _ _ | show wpAny _ _ (PySem.call (Value.builtin "list.append") _ _) _ _ _ | show wpAny _ _ (PySem.call (Value.builtin "len") _ _) _ _ _ | show wpAny _ _ (setItem (Value.ref _) (Value.str _ _) _) _ _ _ | show wpAny _ _ (exec (Stmt.Raise _ _ _) _) _ _ _ | show wpAny _ _ (compareOp Cmpop.NotIn _ _) _ _ _ | refine (?_ : LCg.CompSrc _ _ _ _ _ _ _ _ _ _ _ _ _ _) | show wpAny _ _ (eval (PySem.Expr.ListComp _ _ _) _) _ _ _ | show wpAny _ _ (compareOp Cmpop.In _ _) _ _ _ | show wpAny _ _ (delItem (Value.ref _) (Value.str _ _)) _ _ _ | show wpAny _ _ (PySem.call (Value.builtin "sorted") _ _) _ _ _ | show wpAny _ _ (PySem.call (Value.builtin "list.insert") _ _) _ _ _ | show wpAny _ _ (setItem (Value.ref _) (Value.int _ _) _) _ _ _ | show wpAny _ _ (execs (List.cons (Stmt.Try _ _ _ _ _) _) _) _ _ _ | show wpAny _ _ (PySem.call (Value.builtin "dict.get") _ _) _ _ _ | show wpAny _ _ (compareOp CmpOp.NotEq (Value.ref _) (Value.ref _)) _ _ _ | show wpAny _ _ (subscriptTail _ _ (Value.ref _) (Value.int _ _)) _ _ _ | show wpAny _ _ (PySem.call (Value.builtin "list.pop") _ _) _ _ _ | show wpAny _ _ (compareOp CmpOp.Eq (Value.ref _) (Value.ref _)) _ _ _ | show wpAny _ _ (subscriptTail _ _ (Value.ref _) (Value.str _ _)) _ _ _)); walk1) | dsimp only | fail "no step"))
    have hsb : ∀ p ∈ al, p ∈ (b, W.listOf lv.toArray ep) :: (ar, instObj 224 da) :: (da, arDict w t1 t2 t3 sp lo' pd') :: (sp, W.listOf svs.toArray sep) :: al := fun p hp => .tail _ (.tail _ (.tail _ (.tail _ hp)))
    refine names_call G (C.now B F8).less hal (Core.mk (C.now B F8) B (News.sub N8 hsb)) (by omega) ?_
    intro b2 lv2 ep2 h9 tk9 k9 hb2 hS2 eb2
    dsimp only at k9 hb2 eb2
    have F9 := fr_kp F8 k9
    have N9 := News.made F8 N8 k9 hb2 eb2
    clear F8 N8
    (repeat' (first | (k_unfold; (try dsimp only)) | ((fail_if_success (with_reducible first | refine (?_ : Exists _) | show wpAny _ _ (exec (Stmt.While _ _ _ _) _) _ _ _ | show wpAny _ _ (exec (Stmt.For _ _ _ _ _) _) _ _ _ | show wpAny _ _ (execs (List.cons (Stmt.Assign (List.cons (PySem.Expr.Name (Str.ofString "altered") _) List.nil) _ _) _) _) _ _ _ | show wpAny _ _ (execs (List.cons (Stmt.For _ _ _ _ _) _) _) _ _ _ | show wpAny _ _ (PySem.call (Value.ref _) _ _) _ _ _ | show wpAny _ _ (PySem.call (Value.type "range") _ _) _ _ _ | show wpAny _ _ (PySem.call (Value.type "set") _ _) _ _ _ | show wpAny _ _ (PySem.call (Value.builtin "list.append") _ _) _ _ _ | show wpAny _ _ (PySem.call (Value.builtin "len") _ _) _ _ _ | show wpAny _ _ (setItem (Value.ref _) (Value.str _ _) _) _ _ _ | show wpAny _ _ (exec (Stmt.Raise _ _ _) _) _ _ _ | show wpAny _ _ (compareOp Cmpop.NotIn _ _) _ _ _ | refine (?_ : LCg.CompSrc _ _ _ _ _ _ _ _ _ _ _ _ _ _) | show wpAny _ _ (eval (PySem.Expr.ListComp _ _ _) _) _ _ _ | show wpAny _ _ (compareOp Cmpop.In _ _) _ _ _ | show wpAny _ _ (delItem (Value.ref _) (Value.str _ _)) _ _ _ | show wpAny _ _ (PySem.call (Value.builtin "sorted") _ _) _ _ _ | show wpAny _ _ (PySem.call (Value.builtin "list.insert") _ _) _ _ _ | show wpAny _ _ (setItem (Value.ref _) (Value.int _ _) _) _ _ _ | show wpAny _ _ (execs (List.cons (Stmt.Try _ _ _ _ _) _) _) _ _ _ | show wpAny _ _ (PySem.call (Value.builtin "dict.get") _ _) _ _ _ | show wpAny _ _ (compareOp CmpOp.NotEq (Value.ref _) (Value.ref _)) _ _ _ | show wpAny _ _ (subscriptTail _ _ (Value.ref _) (Value.int _ _)) _ _ _ | show wpAny _ _ (PySem.call (Value.builtin "list.pop") _ _) _ _ _ | show wpAny _ _ (compareOp CmpOp.Eq (Value.ref _) (Value.ref _)) _ _ _ | show wpAny _ _ (subscriptTail _ _ (Value.ref _) (Value.str _ _)) _ _ _)); walk1) | dsimp only | fail "no step"))
    refine names_call G (C.now B F9).less hal (Core.mk (C.now B F9) B (News.sub N9 fun p hp => .tail _ (hsb p hp))) (by omega) ?_
    intro b3 lv3 ep3 h10 tk10 k10 hb3 hS3 eb3
    dsimp only at k10 hb3 eb3
    have F10 := fr_kp F9 k10
    have N10 := News.made F9 N9 k10 hb3 eb3
    clear F9 N9
    (repeat' (first | (k_unfold; (try dsimp only)) | ((fail_if_success (with_reducible first | refine (?_ : Exists _) | show wpAny _ _ (exec (Stmt.While _ _ _ _) _) _ _ _ | show wpAny _ _ (exec (Stmt.For _ _ _ _ _) _) _ _ _ | show wpAny _ _ (execs (List.cons (Stmt.Assign (List.cons (PySem.Expr.Name (Str.ofString "altered") _) List.nil) _ _) _) _) _ _ _ | show wpAny _ _ (execs (List.cons (Stmt.For _ _ _ _ _) _) _) _ _ _ | show wpAny _ _ (PySem.call (Value.ref _) _ _) _ _ _ | show wpAny _ _ (PySem.call (Value.type "range") _ _) _ _ _ | show wpAny _ _ (PySem.call (Value.type "set") _ _) _ _ _ | show wpAny _ _ (PySem.call (Value.builtin "list.append") _ _) _ _ _ | show wpAny _ _ (PySem.call (Value.builtin "len") _ _) _ _ _ | show wpAny _ _ (setItem (Value.ref _) (Value.str _ _) _) _ _ _ | show wpAny _ _ (exec (Stmt.Raise _ _ _) _) _ _ _ | show wpAny _ _ (compareOp Cmpop.NotIn _ _) _ _ _ | refine (?_ : LCg.CompSrc _ _ _ _ _ _ _ _ _ _ _ _ _ _) | show wpAny _ _ (eval (PySem.Expr.ListComp _ _ _) _) _ _ _ | show wpAny _ _ (compareOp Cmpop.In _ _) _ _ _ | show wpAny _ _ (delItem (Value.ref _) (Value.str _ _)) _ _ _ | show wpAny _ _ (PySem.call (Value.builtin "sorted") _ _) _ _ _ | show wpAny _ _ (PySem.call (Value.builtin "list.insert") _ _) _ _ _ | show wpAny _ _ (setItem (Value.ref _) (Value.int _ _) _) _ _ _ | show wpAny _ _ (execs (List.cons (Stmt.Try _ _ _ _ _) _) _) _ _ _ | show wpAny _ _ (PySem.call (Value.builtin "dict.get") _ _) _ _ _ | show wpAny _ _ (compareOp CmpOp.NotEq (Value.ref _) (Value.ref _)) _ _ _ | show wpAny _ _ (subscriptTail _ _ (Value.ref _) (Value.int _ _)) _ _ _ | show wpAny _ _ (PySem.call (Value.builtin "list.pop") _ _) _ _ _ | show wpAny _ _ (compareOp CmpOp.Eq (Value.ref _) (Value.ref _)) _ _ _ | show wpAny _ _ (subscriptTail _ _ (Value.ref _) (Value.str _ _)) _ _ _)); walk1) | dsimp only | fail "no step"))
    have hl3 : lv3.length = ps.length := by rw [hS3.len_eq, List.length_map]
    refine set_call (C.now B F10).calm (isList_of eb3) hS3 hndp (by omega) ?_
    intro h11 tk11 hSet kp11
    dsimp only at hSet kp11
    have F11 := F10.keeps fun b o q => kp11 b o (Heap.lt_size q) q
    have e211 := kp11 _ _ (Heap.lt_size (N10 _ (.tail _ (.head _))).1) (N10 _ (.tail _ (.head _))).1
    clear F10 N10
    (repeat' (first | (k_unfold; (try dsimp only)) | ((fail_if_success (with_reducible first | refine (?_ : Exists _) | show wpAny _ _ (exec (Stmt.While _ _ _ _) _) _ _ _ | show wpAny _ _ (exec (Stmt.For _ _ _ _ _) _) _ _ _ | show wpAny _ _ (execs (List.cons (Stmt.Assign (List.cons (PySem.Expr.Name (Str.ofString "altered") _) List.nil) _ _) _) _) _ _ _ | show wpAny _ _ (execs (List.cons (Stmt.For _ _ _ _ _) _) _) _ _ _ | show wpAny _ _ (PySem.call (Value.ref _) _ _) _ _ _ | show wpAny _ _ (PySem.call (Value.type "range") _ _) _ _ _ | show wpAny _ _ (PySem.call (Value.type "set") _ _) _ _ _ | show wpAny _ _ (PySem.call (Value.builtin "list.append") _ _) _ _ _ | show wpAny _ _ (PySem.call (Value.builtin "len") _ _) _ _ _ | show wpAny _ _ (setItem (Value.ref _) (Value.str _ _) _) _ _ _ | show wpAny _ _ (exec (Stmt.Raise _ _ _) _) _ _ _ | show wpAny _ _ (compareOp Cmpop.NotIn _ _) _ _ _ | refine (?_ : LCg.CompSrc _ _ _ _ _ _ _ _ _ _ _ _ _ _) | show wpAny _ _ (eval (PySem.Expr.ListComp _ _ _) _) _ _ _ | show wpAny _ _ (compareOp Cmpop.In _ _) _ _ _ | show wpAny _ _ (delItem (Value.ref _) (Value.str _ _)) _ _ _ | show wpAny _ _ (PySem.call (Value.builtin "sorted") _ _) _ _ _ | show wpAny _ _ (PySem.call (Value.builtin "list.insert") _ _) _ _ _ | show wpAny _ _ (setItem (Value.ref _) (Value.int _ _) _) _ _ _ | show wpAny _ _ (execs (List.cons (Stmt.Try _ _ _ _ _) _) _) _ _ _ | show wpAny _ _ (PySem.call (Value.builtin "dict.get") _ _) _ _ _ | show wpAny _ _ (compareOp CmpOp.NotEq (Value.ref _) (Value.ref _)) _ _ _ | show wpAny _ _ (subscriptTail _ _ (Value.ref _) (Value.int _ _)) _ _ _ | show wpAny _ _ (PySem.call (Value.builtin "list.pop") _ _) _ _ _ | show wpAny _ _ (compareOp CmpOp.Eq (Value.ref _) (Value.ref _)) _ _ _ | show wpAny _ _ (subscriptTail _ _ (Value.ref _) (Value.str _ _)) _ _ _)); walk1) | dsimp only | fail "no step"))
    refine set_sorted (C.now B F11).calm hSet hS3 hndp (by omega) ?_
    intro Z h12 tk12 d12 lv4 ss4 ep4 kp12 hS4 hp4 ha4 eZ nZ
    dsimp only at kp12
    have F12 := F11.keeps kp12
    have e212 := kp12 _ _ e211
    clear F11
    cases asc_uniq hp4 ha4 hasc
    (repeat' (first | (k_unfold; (try dsimp only)) | ((fail_if_success (with_reducible first | refine (?_ : Exists _) | show wpAny _ _ (exec (Stmt.While _ _ _ _) _) _ _ _ | show wpAny _ _ (exec (Stmt.For _ _ _ _ _) _) _ _ _ | show wpAny _ _ (execs (List.cons (Stmt.Assign (List.cons (PySem.Expr.Name (Str.ofString "altered") _) List.nil) _ _) _) _) _ _ _ | show wpAny _ _ (execs (List.cons (Stmt.For _ _ _ _ _) _) _) _ _ _ | show wpAny _ _ (PySem.call (Value.ref _) _ _) _ _ _ | show wpAny _ _ (PySem.call (Value.type "range") _ _) _ _ _ | show wpAny _ _ (PySem.call (Value.type "set") _ _) _ _ _ | show wpAny _ _ (PySem.call (Value.builtin "list.append") _ _) _ _ _ | show wpAny _ _ (PySem.call (Value.builtin "len") _ _) _ _ _ | show wpAny _ _ (setItem (Value.ref _) (Value.str _ _) _) _ _ _ | show wpAny _ _ (exec (Stmt.Raise _ _ _) _) _ _ _ | show wpAny _ _ (compareOp Cmpop.NotIn _ _) _ _ _ | refine (?_ : LCg.CompSrc _ _ _ _ _ _ _ _ _ _ _ _ _ _) | show wpAny _ _ (eval (PySem.Expr.ListComp _ _ _) _) _ _ _ | show wpAny _ _ (compareOp Cmpop.In _ _) _ _ _ | show wpAny _ _ (delItem (Value.ref _) (Value.str _ _)) _ _ _ | show wpAny _ _ (PySem.call (Value.builtin "sorted") _ _) _ _ _ | show wpAny _ _ (PySem.call (Value.builtin "list.insert") _ _) _ _ _ | show wpAny _ _ (setItem (Value.ref _) (Value.int _ _) _) _ _ _ | show wpAny _ _ (execs (List.cons (Stmt.Try _ _ _ _ _) _) _) _ _ _ | show wpAny _ _ (PySem.call (Value.builtin "dict.get") _ _) _ _ _ | show wpAny _ _ (compareOp CmpOp.NotEq (Value.ref _) (Value.ref _)) _ _ _ | show wpAny _ _ (subscriptTail _ _ (Value.ref _) (Value.int _ _)) _ _ _ | show wpAny _ _ (PySem.call (Value.builtin "list.pop") _ _) _ _ _ | show wpAny _ _ (compareOp CmpOp.Eq (Value.ref _) (Value.ref _)) _ _ _ | show wpAny _ _ (subscriptTail _ _ (Value.ref _) (Value.str _ _)) _ _ _)); walk1) | dsimp only | fail "no step"))
    refine eq_strs (isList_of e212) hS2 (isList_of eZ) hS4 (parse_strs hps) (parse_strs hps) hul64 ?_
    rw [decide_eq_true rfl]
    (repeat' (first | (k_unfold; (try dsimp only)) | ((fail_if_success (with_reducible first | refine (?_ : Exists _) | show wpAny _ _ (exec (Stmt.While _ _ _ _) _) _ _ _ | show wpAny _ _ (exec (Stmt.For _ _ _ _ _) _) _ _ _ | show wpAny _ _ (execs (List.cons (Stmt.Assign (List.cons (PySem.Expr.Name (Str.ofString "altered") _) List.nil) _ _) _) _) _ _ _ | show wpAny _ _ (execs (List.cons (Stmt.For _ _ _ _ _) _) _) _ _ _ | show wpAny _ _ (PySem.call (Value.ref _) _ _) _ _ _ | show wpAny _ _ (PySem.call (Value.type "range") _ _) _ _ _ | show wpAny _ _ (PySem.call (Value.type "set") _ _) _ _ _ | show wpAny _ _ (PySem.call (Value.builtin "list.append") _ _) _ _ _ | show wpAny _ _ (PySem.call (Value.builtin "len") _ _) _ _ _ | show wpAny _ _ (setItem (Value.ref _) (Value.str _ _) _) _ _ _ | show wpAny _ _ (exec (Stmt.Raise _ _ _) _) _ _ _ | show wpAny _ _ (compareOp Cmpop.NotIn _ _) _ _ _ | refine (?_ : LCg.CompSrc _ _ _ _ _ _ _ _ _ _ _ _ _ _) | show wpAny _ _ (eval (PySem.Expr.ListComp _ _ _) _) _ _ _ | show wpAny _ _ (compareOp Cmpop.In _ _) _ _ _ | show wpAny _ _ (delItem (Value.ref _) (Value.str _ _)) _ _ _ | show wpAny _ _ (PySem.call (Value.builtin "sorted") _ _) _ _ _ | show wpAny _ _ (PySem.call (Value.builtin "list.insert") _ _) _ _ _ | show wpAny _ _ (setItem (Value.ref _) (Value.int _ _) _) _ _ _ | show wpAny _ _ (execs (List.cons (Stmt.Try _ _ _ _ _) _) _) _ _ _ | show wpAny _ _ (PySem.call (Value.builtin "dict.get") _ _) _ _ _ | show wpAny _ _ (compareOp CmpOp.NotEq (Value.ref _) (Value.ref _)) _ _ _ | show wpAny _ _ (subscriptTail _ _ (Value.ref _) (Value.int _ _)) _ _ _ | show wpAny _ _ (PySem.call (Value.builtin "list.pop") _ _) _ _ _ | show wpAny _ _ (compareOp CmpOp.Eq (Value.ref _) (Value.ref _)) _ _ _ | show wpAny _ _ (subscriptTail _ _ (Value.ref _) (Value.str _ _)) _ _ _)); walk1) | dsimp only | fail "no step"))
    exact ok h12 _ d12 _ F12
  · refine box fun PP kk => kk _ _ h5 _ ?tw2 rfl F5 ?nm2 N5 rfl rfl
    case nm2 =>
      simp only [List.forall_mem_cons]
      exact ⟨rfl, rfl, by rw [List.take_zero]; rfl, fun _ hq => absurd hq List.not_mem_nil⟩
end

section
open PySem PySem.W PyProof.Rows PySem.Calls



variable {w : World} {mean : ExcName → Option Value} {mg mb : Str → Option Value} {base : Heap} {A : Around} {l : List Env} {s : Shared}


theorem at_first {L a n : Nat} {name : Str} {scope : Scope} {cd : Value} {h : Heap} {m : Str → Option Value} (B : Below A base l base) (F : Fr base L h m) (hk : scope.kind = .function)
    (hc : (A.deeper (envOf name scope L a cd)).handled = none) (hr : (A.deeper (envOf name scope L a cd)).depth + 3 * n < 1000) (hu : (A.deeper (envOf name scope L a cd)).units + 60 * n < 9900) :
    At base (A.deeper (envOf name scope L a cd)) (envOf name scope L a cd :: l) n h :=
  let P := B.push (name := name) (scope := scope) (a := a) (cd := cd) F hk
  ⟨P.stack, hc, hr, hu, P.stays, P.frames⟩

/-- the whole of the law's body -/
theorem law_all {n : Nat} {L a sc : Addr} {name qual : Str} {params : Arguments} {body : List Stmt} {scope : Scope} {dV kV doc pm cdv cdv' ct oc : Value} {an od : Option Addr} {osl : Array (Option Value)} {vs : List Value} {ns : List Int} {Q : Flow → Shared → Prop} {E : Value → Shared → Prop}
    (G : Gr w mean mg mb base) (ho : (hd.heap_1 w.params).lookup 259 = some ⟨oc, od, .func (fnOf name qual params body scope dV kV doc pm an cdv ct), osl⟩)
    (C0 : At base (A.deeper (envOf qual scope L a cdv')) (envOf qual scope L a cdv' :: l) 20 s.heap) (B : Below A base l base)
    (F : Fr base L s.heap fun x => List.lookup x [(Str.ofString "script", Value.ref sc)]) (hl : base.IsList sc vs.toArray) (hI : IntsAre vs ns) (hsz : ns.length ≤ 63)
    (hk : scope.kind = .function)
    (ok : ∀ h' tk d m', Fr base L h' m' → Q (.ret (.bool true)) { s with heap := h', toks := tk, drawn := d }) :
    wpAny (model PR w) (A.deeper (envOf qual scope L a cdv')) (execs body (envOf qual scope L a cdv')) Q E s := by
  have cn : ∀ {h' : Heap} {m' : Str → Option Value}, Fr base L h' m' → At base (A.deeper (envOf qual scope L a cdv')) (envOf qual scope L a cdv' :: l) 20 h' := fun F' => C0.now B F' hk
  refine law1 (n := n) (g := base) G ho C0 B G.K G.T F hl hI hsz ?_
  intro h1 tk1 m1 fs pl cl o1 o2 fd dd ar ld tl ps al od kvs dvs lvs dep lep S F1 hm1 N1 hp1 hne htp
  refine law2 (n := n) (g := base) (s := { s with heap := h1, toks := tk1 }) G ho (cn F1) B G.K G.T S F1 hm1 N1 ?_
  intro h2 tk2 m2 F2 hm2 N2
  refine law3a (n := n) (g := base) (s := { s with heap := h2, toks := tk2 }) G ho (cn F2) B G.K G.T S F2 hm2 N2 hp1 hne htp ?_
  intro h3 tk3 m3 o13 o23 tl3 x tx cv cnt F3 hm3 S3 hx hc N3 hp3 htp3
  refine law3b (n := n) (g := base) (s := { s with heap := h3, toks := tk3 }) G ho (cn F3) B G.K G.T S3 F3 hm3 hx hc N3 ?_
  intro h4 tk4 m4 D od2 kvs2 F4 hm4 N4 hod2 hsm2 hfs2
  refine law3c (n := n) (g := base) (s := { s with heap := h4, toks := tk4 }) G ho (cn F4) B G.K G.T S3 F4 hm4 hx hc N4 hod2 hsm2 hfs2 ?_
  intro h5 tk5 m5 F5 hm5 N5
  refine law4 (n := n) (g := base) (s := { s with heap := h5, toks := tk5 }) G ho (cn F5) B G.K G.T S3 F5 hm5 N5 hp3 hne htp3 ?_
  intro h6 tk6 m6 sp svs sep sns F6 hm6 N6 hI6 hby hl6 hsd
  have hok' : ∀ f ∈ sortF fs, FileOk f := fun f hf => S3.ok f ((sortF_perm fs).mem_iff.mp hf)
  have hsl : (sortF fs).length = fs.length := (sortF_perm fs).length_eq
  have hfew := S3.few
  have hel2 := enc_small hok' (by omega)
  obtain ⟨pd, hpd, _⟩ := parse_enc hok' (sortF_asc S3.nodup)
  refine law5 (n := n) (s := { s with heap := h6, toks := tk6 }) G ho (cn F6) B F6 hm6 N6 hI6 hby hl6 hsd S3.dints (by omega) hpd ?_
  intro h7 tk7 d7 m7 F7
  exact ok h7 tk7 d7 m7 F7
theorem cuth {B C D : Prop} (hw : B) (hc : C) (main : D) : D := main
def fin.tw10098057777631523497 : Nat := 0
def fin.tw1014637456484912126 : Nat := 0
def fin.tw10147658903529517814 : Nat := 0
def fin.tw10196768644732416780 : Nat := 0
def fin.tw10242451874928486539 : Nat := 0
def fin.tw10329872625359487480 : Nat := 0
def fin.tw10383673109516279431 : Nat := 0
def fin.tw1043818155931952813 : Nat := 0
def fin.tw10452893891524789634 : Nat := 0
def fin.tw10580198807604790814 : Nat := 0
def fin.tw10599938827571368224 : Nat := 0
def fin.tw10646294883077511625 : Nat := 0
def fin.tw10807920368746810246 : Nat := 0
def fin.tw10852849658779182186 : Nat := 0
def fin.tw10874316729293906858 : Nat := 0
def fin.tw10875463905939285979 : Nat := 0
def fin.tw10891054232620793217 : Nat := 0
def fin.tw10895054467252067526 : Nat := 0
def fin.tw10925335251469727208 : Nat := 0
def fin.tw10936777179133785780 : Nat := 0
def fin.tw11079828417688620724 : Nat := 0
def fin.tw11112386831996348380 : Nat := 0
def fin.tw11151619158091525091 : Nat := 0
def fin.tw11154830654865731599 : Nat := 0
def fin.tw11192643925408225281 : Nat := 0
def fin.tw11298980531735778240 : Nat := 0
def fin.tw11336253725339858928 : Nat := 0
def fin.tw11414674201277728305 : Nat := 0
def fin.tw11466478281803324712 : Nat := 0
def fin.tw11587955951900863698 : Nat := 0
def fin.tw11615019562542576733 : Nat := 0
def fin.tw12118000046449163591 : Nat := 0
def fin.tw12118954789763847428 : Nat := 0
def fin.tw12135189313929291683 : Nat := 0
def fin.tw12141802397888321627 : Nat := 0
def fin.tw12180539936304867106 : Nat := 0
def fin.tw12212933522069011988 : Nat := 0
def fin.tw12237877928780879103 : Nat := 0
def fin.tw12284014389350100970 : Nat := 0
def fin.tw12355744275394475900 : Nat := 0
def fin.tw12409915417874342407 : Nat := 0
def fin.tw12448240930570709186 : Nat := 0
def fin.tw12464766053444552404 : Nat := 0
def fin.tw12494888245299231016 : Nat := 0
def fin.tw1252854909445205041 : Nat := 0
def fin.tw12550770813317053977 : Nat := 0
def fin.tw12567809125941998234 : Nat := 0
def fin.tw12629903358213643309 : Nat := 0
def fin.tw12649782002744950493 : Nat := 0
def fin.tw12696600883282566439 : Nat := 0
def fin.tw12711679700452659978 : Nat := 0
def fin.tw12740692763255036000 : Nat := 0
def fin.tw12829507556594621215 : Nat := 0
def fin.tw12869217540446652890 : Nat := 0
def fin.tw12876064707754696378 : Nat := 0
def fin.tw12876116671307685997 : Nat := 0
def fin.tw12977279227502587607 : Nat := 0
def fin.tw12996517811204074000 : Nat := 0
def fin.tw13008499658501844635 : Nat := 0
def fin.tw13162651487661262736 : Nat := 0
def fin.tw13177410634674063896 : Nat := 0
def fin.tw13337293482115323266 : Nat := 0
def fin.tw13360279666012451719 : Nat := 0
def fin.tw13383306551100868464 : Nat := 0
def fin.tw13417537044503426608 : Nat := 0
def fin.tw13467322939085005891 : Nat := 0
def fin.tw13516622038369049944 : Nat := 0
def fin.tw13647521368782130326 : Nat := 0
def fin.tw13724452099449386491 : Nat := 0
def fin.tw13790858721211988464 : Nat := 0
def fin.tw13870153662132920491 : Nat := 0
def fin.tw13925877587632400325 : Nat := 0
def fin.tw13929302177132474383 : Nat := 0
def fin.tw1397303283331804279 : Nat := 0
def fin.tw14109310954907245088 : Nat := 0
def fin.tw14139026862911339306 : Nat := 0
def fin.tw14210890002308233579 : Nat := 0
def fin.tw14245171486683049214 : Nat := 0
def fin.tw14365839007642131201 : Nat := 0
def fin.tw14431720936831517352 : Nat := 0
def fin.tw14497727239971306367 : Nat := 0
def fin.tw14560573928864763818 : Nat := 0
def fin.tw14574801432027512755 : Nat := 0
def fin.tw14578271805448956485 : Nat := 0
def fin.tw14742833531483963666 : Nat := 0
def fin.tw14814673180317915700 : Nat := 0
def fin.tw14856888987745899463 : Nat := 0
def fin.tw15149952090015108872 : Nat := 0
def fin.tw15201286185872193147 : Nat := 0
def fin.tw15205425988870721313 : Nat := 0
def fin.tw15309079848183770524 : Nat := 0
def fin.tw15344004072050561172 : Nat := 0
def fin.tw1535588207084551279 : Nat := 0
def fin.tw15373703851562958014 : Nat := 0
def fin.tw15533503492667675913 : Nat := 0
def fin.tw15564276425815640635 : Nat := 0
def fin.tw15566928917628492161 : Nat := 0
def fin.tw15583698165555649274 : Nat := 0
def fin.tw15688172546075569117 : Nat := 0
def fin.tw15815952407149668801 : Nat := 0
def fin.tw15817517455608058901 : Nat := 0
def fin.tw15832999045522443761 : Nat := 0
def fin.tw15948179056623087040 : Nat := 0
def fin.tw15989303212955285315 : Nat := 0
def fin.tw16103849850496634939 : Nat := 0
def fin.tw16109372258727991565 : Nat := 0
def fin.tw16115155874713506467 : Nat := 0
def fin.tw1613116972386908190 : Nat := 0
def fin.tw16139429863287430422 : Nat := 0
def fin.tw16175276709679454751 : Nat := 0
def fin.tw16196181902256332553 : Nat := 0
def fin.tw16229209127682248589 : Nat := 0
def fin.tw16237762584071213788 : Nat := 0
def fin.tw1625080806587739848 : Nat := 0
def fin.tw16252508478716706905 : Nat := 0
def fin.tw16275787546110486726 : Nat := 0
def fin.tw16285329926789087883 : Nat := 0
def fin.tw16401934584784274106 : Nat := 0
def fin.tw16496857829328116044 : Nat := 0
def fin.tw16510490156224867327 : Nat := 0
def fin.tw16530489862217454893 : Nat := 0
def fin.tw16540275574145912595 : Nat := 0
def fin.tw16656299143469825513 : Nat := 0
def fin.tw1666694428299288667 : Nat := 0
def fin.tw16934629359412608497 : Nat := 0
def fin.tw16958243865122950064 : Nat := 0
def fin.tw17067295170570645592 : Nat := 0
def fin.tw17197158672614542318 : Nat := 0
def fin.tw17204297501091165112 : Nat := 0
def fin.tw17362494058136835672 : Nat := 0
def fin.tw17416127249078093707 : Nat := 0
def fin.tw17449020081951674710 : Nat := 0
def fin.tw17570709534508481193 : Nat := 0
def fin.tw17628183408451194143 : Nat := 0
def fin.tw17656766251404061198 : Nat := 0
def fin.tw17662344363894024548 : Nat := 0
def fin.tw17717364068325071970 : Nat := 0
def fin.tw17743408960866722510 : Nat := 0
def fin.tw17801579834951734752 : Nat := 0
def fin.tw17821466097196317003 : Nat := 0
def fin.tw17861066769153400444 : Nat := 0
def fin.tw17896612028031085017 : Nat := 0
def fin.tw17933470926392208243 : Nat := 0
def fin.tw17963964198891936676 : Nat := 0
def fin.tw18105285910621931680 : Nat := 0
def fin.tw18105942590061964161 : Nat := 0
def fin.tw1819255440876223710 : Nat := 0
def fin.tw18195182924450695511 : Nat := 0
def fin.tw18230178534529381785 : Nat := 0
def fin.tw18295790063311454060 : Nat := 0
def fin.tw18373065035072037172 : Nat := 0
def fin.tw1887099378405440850 : Nat := 0
def fin.tw1963134401048803436 : Nat := 0
def fin.tw1976505206021243879 : Nat := 0
def fin.tw1982079694162106894 : Nat := 0
def fin.tw216489041496292469 : Nat := 0
def fin.tw2304379251839397102 : Nat := 0
def fin.tw2305881189932309285 : Nat := 0
def fin.tw2321816554428607280 : Nat := 0
def fin.tw2367325634123391141 : Nat := 0
def fin.tw2415902012162501839 : Nat := 0
def fin.tw2462912638960843985 : Nat := 0
def fin.tw2512408688544751470 : Nat := 0
def fin.tw251868834278440796 : Nat := 0
def fin.tw2656788454239962097 : Nat := 0
def fin.tw2866121171748074186 : Nat := 0
def fin.tw2910385600587045654 : Nat := 0
def fin.tw3105451386036433885 : Nat := 0
def fin.tw3125960719983571848 : Nat := 0
def fin.tw3173534031939492945 : Nat := 0
def fin.tw3263211703599914710 : Nat := 0
def fin.tw3343445320678177929 : Nat := 0
def fin.tw3404873503106905745 : Nat := 0
def fin.tw3459265974087741279 : Nat := 0
def fin.tw357486453476387696 : Nat := 0
def fin.tw3598329298470268980 : Nat := 0
def fin.tw3599858809825778643 : Nat := 0
def fin.tw3683778510129048087 : Nat := 0
def fin.tw380778119907437045 : Nat := 0
def fin.tw3810338749695602999 : Nat := 0
def fin.tw3810570522144960214 : Nat := 0
def fin.tw3975253019698251321 : Nat := 0
def fin.tw4170516301191304579 : Nat := 0
def fin.tw4171678462856256454 : Nat := 0
def fin.tw4209717502836232480 : Nat := 0
def fin.tw4218790737952374519 : Nat := 0
def fin.tw428092273266315144 : Nat := 0
def fin.tw4312942655851389009 : Nat := 0
def fin.tw4326780796455107134 : Nat := 0
def fin.tw452842511749404161 : Nat := 0
def fin.tw4570111826955561243 : Nat := 0
def fin.tw4588413851689716618 : Nat := 0
def fin.tw4598667867955821814 : Nat := 0
def fin.tw4640724917100965312 : Nat := 0
def fin.tw4684940682943077961 : Nat := 0
def fin.tw4719063310657182621 : Nat := 0
def fin.tw4759752924163587094 : Nat := 0
def fin.tw4768634762848416435 : Nat := 0
def fin.tw4769821431679368130 : Nat := 0
def fin.tw4785532116021230833 : Nat := 0
def fin.tw4788878847521262168 : Nat := 0
def fin.tw480829909506669009 : Nat := 0
def fin.tw4868334931027891882 : Nat := 0
def fin.tw4878226113927451544 : Nat := 0
def fin.tw4879674094562380441 : Nat := 0
def fin.tw4924110625330727750 : Nat := 0
def fin.tw4928979718650693569 : Nat := 0
def fin.tw4950403968356008110 : Nat := 0
def fin.tw5098551885099359569 : Nat := 0
def fin.tw5102460946473063141 : Nat := 0
def fin.tw5293390819737331289 : Nat := 0
def fin.tw544173102793226557 : Nat := 0
def fin.tw5486226609284752418 : Nat := 0
def fin.tw5678346346211369953 : Nat := 0
def fin.tw5734618986648460908 : Nat := 0
def fin.tw5776136370200156792 : Nat := 0
def fin.tw5805905742469029177 : Nat := 0
def fin.tw5863258528049689039 : Nat := 0
def fin.tw5897612983314593646 : Nat := 0
def fin.tw5901363791540438844 : Nat := 0
def fin.tw6068950659093879613 : Nat := 0
def fin.tw6081921254191324426 : Nat := 0
def fin.tw6127190174262240918 : Nat := 0
def fin.tw612862322836996645 : Nat := 0
def fin.tw6144012678527597917 : Nat := 0
def fin.tw6207176494656529804 : Nat := 0
def fin.tw6454446336052903152 : Nat := 0
def fin.tw6455845175183424153 : Nat := 0
def fin.tw6498334528663615478 : Nat := 0
def fin.tw6515953530934532768 : Nat := 0
def fin.tw6567050819087999508 : Nat := 0
def fin.tw6634307039904815820 : Nat := 0
def fin.tw6650461044873433052 : Nat := 0
def fin.tw6667815254911646788 : Nat := 0
def fin.tw670465573061467203 : Nat := 0
def fin.tw6707113841082798463 : Nat := 0
def fin.tw6712194924023145494 : Nat := 0
def fin.tw6766378078585498003 : Nat := 0
def fin.tw6956187926921108005 : Nat := 0
def fin.tw6968583824967984638 : Nat := 0
def fin.tw7000300075881102575 : Nat := 0
def fin.tw7055459427971326715 : Nat := 0
def fin.tw7380833856163905736 : Nat := 0
def fin.tw744865244796547220 : Nat := 0
def fin.tw7472291436863326401 : Nat := 0
def fin.tw7522001649326652513 : Nat := 0
def fin.tw757079261281740938 : Nat := 0
def fin.tw7613857476909055813 : Nat := 0
def fin.tw7613945582906998725 : Nat := 0
def fin.tw7675655780812522254 : Nat := 0
def fin.tw7976502392129159676 : Nat := 0
def fin.tw799341379326975648 : Nat := 0
def fin.tw7995362448368537469 : Nat := 0
def fin.tw8025084765662995669 : Nat := 0
def fin.tw807531904560671035 : Nat := 0
def fin.tw8119881530291889089 : Nat := 0
def fin.tw8269367382603917829 : Nat := 0
def fin.tw8272817396058243321 : Nat := 0
def fin.tw8303820723863979226 : Nat := 0
def fin.tw8352470293576582857 : Nat := 0
def fin.tw8383268338085895543 : Nat := 0
def fin.tw8399098705505230059 : Nat := 0
def fin.tw8408514402456403777 : Nat := 0
def fin.tw8416529770105884409 : Nat := 0
def fin.tw846297522682114974 : Nat := 0
def fin.tw8559517257967667466 : Nat := 0
def fin.tw8577089030196625639 : Nat := 0
def fin.tw8590288500278120515 : Nat := 0
def fin.tw8643116662766533202 : Nat := 0
def fin.tw8656503046869711584 : Nat := 0
def fin.tw876206183137641144 : Nat := 0
def fin.tw891787732878383699 : Nat := 0
def fin.tw8919302590299486024 : Nat := 0
def fin.tw8947099994592609211 : Nat := 0
def fin.tw895571856199123645 : Nat := 0
def fin.tw9001875181463519149 : Nat := 0
def fin.tw9113340658982188547 : Nat := 0
def fin.tw9218923581257491847 : Nat := 0
def fin.tw9357874355931990178 : Nat := 0
def fin.tw9363291351745731410 : Nat := 0
def fin.tw9387745189664136937 : Nat := 0
def fin.tw9722632081671974098 : Nat := 0
def fin.tw9735714214384596553 : Nat := 0
def fin.tw9746214513668125432 : Nat := 0
def fin.tw9746901515087519452 : Nat := 0
def fin.tw9913140749668108558 : Nat := 0
def fin.tw999798209818781672 : Nat := 0
set_option Elab.async true in
theorem fin : PySem.Challenge.rw_nu0321_01.Holds := by
  w_on; o_law
  apply cuth
  case main => o_head (kHook hd.heap_1 [2, 3, 15, 17, 18, 20, 21, 22, 29, 30, 31, 32, 35, 42, 44, 45, 47, 48, 49, 50, 51, 61, 63, 64, 66, 67, 68, 70, 71, 73, 74, 75, 77, 78, 80, 81, 82, 84, 85, 87, 88, 89, 91, 92, 94, 95, 96, 97, 98, 99, 100, 110, 112, 113, 115, 116, 117, 119, 120, 122, 123, 124, 126, 127, 129, 130, 131, 133, 134, 136, 137, 138, 140, 141, 143, 144, 145, 147, 148, 150, 151, 152, 154, 155, 157, 158, 159, 161, 162, 164, 165, 166, 167, 168, 169, 170, 173, 175, 176, 178, 179, 187, 189, 190, 192, 193, 194, 196, 197, 199, 200, 201, 203, 204, 206, 207, 208, 210, 211, 213, 214, 215, 217, 218, 220, 221, 222, 223, 224, 225, 226, 229, 231, 232, 234, 235, 236, 238, 239, 241, 242, 243, 246, 247, 248, 251, 252, 253, 255, 256, 258, 259] (fun _ => by kernel_rfl))
  case hw => w_witness2
  case hc =>
    k_go0
    rename Below _ _ _ _ => K0
    rename Fr _ _ _ _ => F0
    rename IntsAre _ _ => hI
    rename Top _ _ _ _ _ _ => T0
    rename Heap.IsList _ _ _ => hL0
    rename Frag.In _ _ => KX0
    refine law_all (n := 0) (sc := _) (vs := _) ⟨KX0, T0⟩ (by k_is) ?_ K0 F0 hL0 hI ?_ ?_ ?_
    · exact at_first K0 F0 rfl rfl (of_decide_eq_true rfl) (of_decide_eq_true rfl)
    · omega
    · rfl
    · intro h' tk d m' F'
      k_end
      wrow_close
end
end Mine
theorem PySem.Challenge.cw_nu0321_01_holds : PySem.Challenge.rw_nu0321_01.Holds := by
  exact Mine.fin
