import PyProof.Rows.All
import Wide.All
import OpenK.AllK
import Wide.FinOn
import Lean
import PySem.Challenge.RW_pq0744_01
set_option Elab.async false
section
open PySem PySem.W PyProof.Rows
set_option maxRecDepth 100000
set_option maxHeartbeats 8000000
namespace Mine
open_top hd for PySem.Challenge.rw_pq0744_01
end Mine
end
section
open PySem PySem.W PySem.Calls PyProof.Rows
set_option maxRecDepth 100000
namespace Mine

section
variable {prog : Program} {w : World} {A A₀ : Around} {s : Shared} {K : Frag} {L : Addr} {h₀ base : Heap} {m mg mb : Str → Option Value} {p : Program} {loose : List Str} {mean : ExcName → Option Value}

theorem enter_flat {env : Env} {outer : List Env} {R : Result → Shared → Prop} {name qual : Str} {params : Arguments} {body : List Stmt} {scope : Scope} {dV kV doc pm cdv ct oc : Value} {an od : Option Addr} {osl : Array (Option Value)} {f : Addr} {args : Args} {binds : List (Str × Value)}
    (B : Below A₀ base outer h₀) (F : Fr h₀ L s.heap m) (X₀ : K.In h₀) (T : Top p loose mean mg mb h₀) (hA : A.frames = some (env :: outer)) (hf : env.frame = some L) (hke : env.scope.kind = .function)
    (ho : K.lookup f = some ⟨oc, od, .func (fnOf name qual params body scope dV kV doc pm an cdv ct), osl⟩) (hcd : codeIn K cdv qual = true) (hroom : A.depth < recursionLimit)
    (hbind : BindsTo s (fnOf name qual params body scope dV kV doc pm an cdv ct) args binds) (hloc : ∀ y ∈ binds, scope.names.lookup y.1 = some .local)
    (h : ∀ g L' h₁, g = s.heap → Fr g L' h₁ (fun y => binds.reverse.lookup y) → News g L' h₁ [] → Below A base (env :: outer) g → K.In g → Top p loose mean mg mb g →
      wpAny (model prog w) (A.deeper (envOf qual scope L' f cdv)) (execs body (envOf qual scope L' f cdv))
        (fun fl s' => LeaveK h₀ L m g R (match fl with | .ret v => v | _ => .none) s')
        (fun e s' => wpAny (model prog w) (A.deeper (envOf qual scope L' f cdv)) (leaving (envOf qual scope L' f cdv) e) (fun _ s'' => R (.error e) s'') (fun e' s'' => R (.error e') s'') s')
        { s with heap := h₁, toks := s.toks + binds.length })
    (hco : scope.isCoroutine = false) (hgen : scope.isGenerator = false) (hk : scope.kind = .function)
    (hcell : ∀ x ∈ scope.names, x.2 ≠ .cell) : codeAny (model prog w) A (.call (.ref f) args) R s := by
  obtain ⟨FG, BG, st, lv⟩ := groundX (R := R) B F (News.nil : News h₀ L s.heap []) hA hf hke
  refine codeAny_call_def (fd := fnX name qual params body scope [] dV kV doc pm an cdv ct) (body := body) (binds := binds) hroom ((X₀.keeps F.keep) _ _ ho) rfl (T.nolimit.keeps F.keep) (codeRec_of (X₀.keeps F.keep) hcd) rfl hbind hcell hloc (fun h₁ hns hk₁ => ?_) hco hgen hk
  exact wpAny_mono (h _ s.heap.objs.size h₁ rfl ⟨hns, fun b o e => hk₁ b o e, Nat.le_refl _⟩ News.nil BG (X₀.keeps F.keep) (T.keeps F.keep)) (fun fl s' hl => lv _ _ hl) fun _ _ y => y

theorem enter_news {env : Env} {outer : List Env} {R : Result → Shared → Prop} {name qual : Str} {params : Arguments} {body : List Stmt} {scope : Scope} {dV kV doc pm cdv ct oc : Value} {an od : Option Addr} {osl : Array (Option Value)} {f : Addr} {args : Args} {binds : List (Str × Value)} {news : List (Addr × Obj)}
    (B : Below A₀ base outer h₀) (F : Fr h₀ L s.heap m) (X₀ : K.In h₀) (N : News h₀ L s.heap news) (T : Top p loose mean mg mb h₀) (hA : A.frames = some (env :: outer)) (hf : env.frame = some L) (hke : env.scope.kind = .function)
    (ho : K.lookup f = some ⟨oc, od, .func (fnOf name qual params body scope dV kV doc pm an cdv ct), osl⟩) (hcd : codeIn K cdv qual = true) (hroom : A.depth < recursionLimit)
    (hbind : BindsTo s (fnOf name qual params body scope dV kV doc pm an cdv ct) args binds) (hloc : ∀ y ∈ binds, scope.names.lookup y.1 = some .local)
    (h : ∀ g L' h₁, (∀ b o, s.heap.get? b = some o → (∀ p ∈ news, p.1 ≠ b) → g.get? b = some o) → Fr g L' h₁ (fun y => binds.reverse.lookup y) → News g L' h₁ news → Below A base (env :: outer) g → K.In g → Top p loose mean mg mb g →
      wpAny (model prog w) (A.deeper (envOf qual scope L' f cdv)) (execs body (envOf qual scope L' f cdv))
        (fun fl s' => LeaveK h₀ L m g R (match fl with | .ret v => v | _ => .none) s')
        (fun e s' => wpAny (model prog w) (A.deeper (envOf qual scope L' f cdv)) (leaving (envOf qual scope L' f cdv) e) (fun _ s'' => R (.error e) s'') (fun e' s'' => R (.error e') s'') s')
        { s with heap := h₁, toks := s.toks + binds.length })
    (hco : scope.isCoroutine = false) (hgen : scope.isGenerator = false) (hk : scope.kind = .function)
    (hcell : ∀ x ∈ scope.names, x.2 ≠ .cell) : codeAny (model prog w) A (.call (.ref f) args) R s := by
  obtain ⟨FG, BG, st, lv⟩ := groundX (R := R) B F N hA hf hke
  refine codeAny_call_def (fd := fnX name qual params body scope [] dV kV doc pm an cdv ct) (body := body) (binds := binds) hroom ((X₀.keeps F.keep) _ _ ho) rfl (T.nolimit.keeps F.keep) (codeRec_of (X₀.keeps F.keep) hcd) rfl hbind hcell hloc (fun h₁ hns hk₁ => ?_) hco hgen hk
  refine wpAny_mono (h _ s.heap.objs.size h₁ (fun b o e hn => hideAll_get _ e fun q => ?_) ⟨hns, fun b o e => hk₁ b o (of_hideAll _ e), Nat.le_of_eq (hideAll_size _ _)⟩
    (fun p hp => ⟨hk₁ _ _ (N p hp).1, Nat.ne_of_lt (Heap.lt_size (N p hp).1), hideAll_none _ (List.mem_map_of_mem hp)⟩) BG (X₀.keeps st) (T.keeps st)) (fun fl s' hl => lv _ _ hl) fun _ _ y => y
  obtain ⟨p, hp, e⟩ := List.mem_map.mp q
  exact hn p hp e
end
end Mine
end
section
open PySem PySem.W PySem.Calls PyProof.Rows
set_option maxRecDepth 100000
namespace Mine
def ckStep (v b : Int) : Int := (v * 257 + b + 1) % 2305843009213693951
def ckn (ns : List Int) : Int := ns.foldl ckStep 1

theorem ckn_start : (0 : Int) ≤ 1 ∧ (1 : Int) < 2305843009213693951 ∧ 1 = ckn [] := ⟨by decide, by decide, rfl⟩
theorem ckn_state {v b : Int} {pre : List Int} (_h0 : 0 ≤ v) (_h1 : v < 2305843009213693951) (h2 : v = ckn pre) :
    0 ≤ (v * 257 + b + 1).fmod 2305843009213693951 ∧ (v * 257 + b + 1).fmod 2305843009213693951 < 2305843009213693951 ∧ (v * 257 + b + 1).fmod 2305843009213693951 = ckn (pre ++ [b]) := by
  rw [Int.fmod_eq_emod_of_nonneg _ (by decide)]
  refine ⟨Int.emod_nonneg _ (by decide), Int.emod_lt_of_pos _ (by decide), ?_⟩
  subst h2
  simp only [ckn, List.foldl_append, List.foldl_cons, List.foldl_nil, ckStep]

set_option maxHeartbeats 8000000 in
theorem cn_call {w : World} {mg mb : Str → Option Value} {loose : List Str} {mean : ExcName → Option Value} {dp un : Nat} {gd : Option (List Code)} {cn : Str} {cs : Scope} {L a : Addr} {ccd : Value} {cl : List (Str × Addr)} {outer : List Env}
    {A₀ : Around} {base h₀ : Heap} {m : Str → Option Value} {s : Shared} {Q E : Value → Shared → Prop} {l : Addr} {vs : List Value} {ns : List Int}
    (B : Below A₀ base outer h₀) (F : Fr h₀ L s.heap m) (X : (Mine.hd.heap_39 w.params).In h₀) (T : Top Mine.hd.view_39 loose mean mg mb h₀) (hk : cs.kind = .function)
    (hl : s.heap.IsList l vs.toArray) (hi : IntsAre vs ns) (hlen : ns.length < 1000) (hb : ∀ b ∈ ns, 0 ≤ b ∧ b < 256) (hd : dp + 2 < recursionLimit) (hu : un + 16 < cLine)
    (ret : ∀ t h' tk', Fr h₀ L h' m → (∀ b o, s.heap.get? b = some o → h'.get? b = some o) → Q (.int (ckn ns) t) { s with heap := h', toks := tk' }) :
    wpAny (model PySem.Challenge.rw_pq0744_01.row.prog w) (ktrTop dp un gd cn cs L a ccd cl outer) (call (.ref 60) [.ref l]) Q E s := by
  w_top off
  revert X; k_fill; intro X
  refine wpAny_call ?_
  (refine' enter_flat ?k1 ?k2 ?k3 ?k5 ?kA ?kF ?kK ?k6 ?k7 ?k8 ?k9 ?kB ?_ ?c2 ?c3 ?c4 ?c5; (case kA => exact rfl); (case kF => exact rfl); (case kK => assumption); (case k1 => assumption); (case k2 => assumption); (case k3 => assumption); (case k5 => assumption); (case k6 => k_is); (case k7 => k_is); (case k8 => ktr_room); (case k9 => exact BindsTo.of_eq rfl); (case c5 => decide); (case kB => exact locs rfl); (case c2 => exact rfl); (case c3 => exact rfl); (case c4 => exact rfl))
  intro g' L' h' hg F' N' B' X' T'
  subst hg
  k_with_none
  k_with "state" => first | exact ckn_start | exact ckn_state (by assumption) (by assumption) (by assumption)
  k_with "pyIter ref" => k_state (fun pre v => 0 ≤ v ∧ v < 2305843009213693951 ∧ v = ckn pre) "value"
  (try dsimp only); (try k_fold)
  k_steps
  (with_reducible rename _ = ckn ns => hv); subst hv
  exact ret _ _ _ (by assumption) (Fr.keep (by assumption))
end Mine
end
section
open PySem PySem.W PySem.Calls PyProof.Rows
set_option maxRecDepth 100000
namespace Mine

/-- every object of h stands in h' with the dict that it had -/
def SD (h h' : Heap) : Prop := ∀ b o, h.get? b = some o → ∃ o', h'.get? b = some o' ∧ o'.dict = o.dict
theorem SD.refl (h : Heap) : SD h h := fun _ o e => ⟨o, e, rfl⟩
theorem SD.trans {h₁ h₂ h₃ : Heap} (x : SD h₁ h₂) (y : SD h₂ h₃) : SD h₁ h₃ := fun b o e => by
  obtain ⟨o₁, e₁, d₁⟩ := x b o e
  obtain ⟨o₂, e₂, d₂⟩ := y b o₁ e₁
  exact ⟨o₂, e₂, d₂.trans d₁⟩
theorem SD.keeps {h h' : Heap} (k : ∀ b o, h.get? b = some o → h'.get? b = some o) : SD h h' := fun b o e => ⟨o, k b o e, rfl⟩
theorem SD.push (h : Heap) (o : Obj) : SD h (h.push o) := SD.keeps fun _ _ e => Heap.get?_push_of_some _ e
theorem SD.upd (h : Heap) (a : Addr) (f : Obj → Obj) (hf : ∀ o, (f o).dict = o.dict ∧ (o.isFreed = false → (f o).isFreed = false)) : SD h (h.update a f) := fun b o e => by
  by_cases q : a = b
  · subst q
    exact ⟨_, Heap.get?_update_self f e ((hf o).2 (Heap.get?_some_iff.mp e).2), (hf o).1⟩
  · exact ⟨o, (Heap.get?_update_other h f q).trans e, rfl⟩

/-- a tree of plain commands that leaves every object's dict pointer as it is -/
inductive Still {α : Type} : Sem α → Prop
  | pure (a : α) : Still (.pure a)
  | raise (e : Value) : Still (.raise e)
  | unsupported (w : String) : Still (.unsupported w)
  | rule {t : String} {k : Unit → Sem α} : (∀ x, Still (k x)) → Still (.rule t k)
  | load {a : Addr} {p : Option Value} {k : Obj → Sem α} : (∀ x, Still (k x)) → Still (.load a p k)
  | update {a : Addr} {p : Option Value} {f : Obj → Obj} {k : Unit → Sem α} : (∀ o, (f o).dict = o.dict ∧ (o.isFreed = false → (f o).isFreed = false)) → (∀ x, Still (k x)) → Still (.update a p f k)
  | alloc {o : Obj} {k : Addr → Sem α} : (∀ x, Still (k x)) → Still (.alloc o k)
  | register {a : Addr} {k : Unit → Sem α} : (∀ x, Still (k x)) → Still (.register a k)
  | stack {k : List (Code × Pos) → Sem α} : (∀ x, Still (k x)) → Still (.stack k)

theorem Still.wp {α : Type} {t : Sem α} (S : Still t) {M : Model} {Γ : Ctx} : ∀ {Q : α → Pos → Shared → Prop} {E : Value → Pos → Shared → Prop} {p : Pos} {s : Shared}, Sem.wp M Γ t Q E p s → Sem.wp M Γ t (fun a p' s' => Q a p' s' ∧ SD s.heap s'.heap) E p s := by
  induction S with
  | pure a => intro Q E p s h; rw [Sem.wp] at h ⊢; exact ⟨h, SD.refl _⟩
  | raise e => intro Q E p s h; rw [Sem.wp] at h ⊢; exact h
  | unsupported w => intro Q E p s h; rw [Sem.wp] at h; exact h.elim
  | rule _ ih => intro Q E p s h; rw [Sem.wp] at h ⊢; exact ih _ h
  | load _ ih => intro Q E p s h; rw [Sem.wp] at h ⊢; obtain ⟨o, ho, h⟩ := h; exact ⟨o, ho, ih _ h⟩
  | update hf _ ih => intro Q E p s h; rw [Sem.wp] at h ⊢; exact ⟨h.1, Sem.wp_mono _ _ _ (fun a p' s' q => ⟨q.1, (SD.upd _ _ _ hf).trans q.2⟩) (fun _ _ _ x => x) _ _ (ih _ h.2)⟩
  | alloc _ ih => intro Q E p s h; rw [Sem.wp] at h ⊢; exact Sem.wp_mono _ _ _ (fun a p' s' q => ⟨q.1, (SD.push _ _).trans q.2⟩) (fun _ _ _ x => x) _ _ (ih _ h)
  | register _ ih => intro Q E p s h; rw [Sem.wp] at h; exact h.elim
  | stack _ ih => intro Q E p s h; rw [Sem.wp] at h ⊢; exact ih _ h

theorem Still.any {α : Type} {t : Sem α} (S : Still t) {M : Model} {A : Around} {Q : α → Shared → Prop} {E : Value → Shared → Prop} {s : Shared} (h : wpAny M A t Q E s) : wpAny M A t (fun a s' => Q a s' ∧ SD s.heap s'.heap) E s :=
  fun Γ p hΓ => S.wp (h Γ p hΓ)

theorem Still.bind {α β : Type} {m : Sem α} {f : α → Sem β} (S : Still m) (T : ∀ a, Still (f a)) : Still (m >>= f) := by
  show Still (m.bind f)
  induction S with
  | pure a => exact T a
  | raise e => exact .raise e
  | unsupported w => exact .unsupported w
  | rule _ ih => exact .rule ih
  | load _ ih => exact .load ih
  | update hf _ ih => exact .update hf ih
  | alloc _ ih => exact .alloc ih
  | register _ ih => exact .register ih
  | stack _ ih => exact .stack ih

theorem still_pure {α : Type} (a : α) : Still (Pure.pure a : Sem α) := .pure a
theorem still_load (a : Addr) : Still (load a) := .load fun _ => .pure _
theorem still_unsup {α : Type} (w : String) : Still (unsupported w : Sem α) := .unsupported w
theorem still_stack : Still stack := .stack fun _ => .pure _
theorem still_fieldsOf (v : Value) : Still (fieldsOf v) := by
  unfold fieldsOf
  split
  · refine (still_load _).bind fun o => ?_
    split
    · exact still_pure _
    · exact still_unsup _
  · exact still_unsup _
theorem still_field (v : Value) (i : Nat) : Still (field v i) := by
  unfold field
  refine (still_fieldsOf v).bind fun o => ?_
  split
  · exact still_pure _
  · exact still_unsup _
theorem mapFields_dict (g : Array Value → Array Value) (o : Obj) : (Obj.mapFields g o).dict = o.dict ∧ (o.isFreed = false → (Obj.mapFields g o).isFreed = false) := by
  obtain ⟨c, d, dt, sl⟩ := o
  cases dt <;> exact ⟨rfl, fun h => h⟩
theorem still_setField (v : Value) (i : Nat) (x : Value) : Still (setField v i x) := by
  unfold setField
  split
  · unfold updateField
    refine (still_load _).bind fun o => ?_
    split
    · split
      · exact .update (fun o => mapFields_dict _ o) fun _ => .pure _
      · exact still_unsup _
    · exact still_unsup _
  · exact still_unsup _
theorem still_setFlight (e : Value) (f : Option Addr) : Still (setFlight e f) := by
  unfold setFlight
  refine (still_field _ _).bind fun tb => ?_
  split
  · exact still_setField _ _ _
  · exact still_pure _
theorem still_behind (env : Env) (outer : List Env) : Still (behindIsImport env outer) := by
  unfold behindIsImport
  split
  · exact still_pure _
  · by_cases q : (env.code == Value.none) = true
    · rw [if_pos q]
      exact still_pure _
    · rw [if_neg q]
      exact (still_field _ _).bind fun _ => still_pure _
theorem still_under : Still underTheClaimsCaller := by
  unfold underTheClaimsCaller
  exact still_stack.bind fun _ => still_pure _
theorem still_keptBack (env : Env) (b : Bool) (l : List Env) : Still (keptBack env b l) := by
  unfold keptBack
  split
  · split
    · exact still_pure _
    · exact still_under.bind fun _ => still_pure _
  · exact still_pure _
theorem still_ready : ∀ l : List Env, Still (readyFrames l)
  | [] => still_pure _
  | env :: outer => by
    unfold readyFrames
    split
    · refine (still_load _).bind fun o => ?_
      split
      · exact still_pure _
      · refine (still_behind _ _).bind fun _ => (still_keptBack _ _ _).bind fun _ => Still.bind (.update (fun o => ⟨rfl, fun h => (kts_isFreed o _).trans h⟩) fun _ => .pure _) fun _ => still_ready outer
    · exact still_unsup _
theorem still_frameObject (l : List Env) : Still (frameObject l) := by
  unfold frameObject
  split
  · exact still_pure _
  · exact (still_ready _).bind fun _ => still_pure _
theorem still_frameOf (env : Env) : Still (PySem.frameOf env) := by
  unfold PySem.frameOf frameEnvs
  refine Still.bind (Still.bind still_stack fun _ => still_pure _) fun l => (still_frameObject _).bind fun r => ?_
  split
  · exact still_pure _
  · exact still_unsup _
theorem still_place (f : Addr) (b : Bool) : Still (entryPlaceOf f b) := by
  unfold entryPlaceOf
  refine still_stack.bind fun acts => ?_
  split
  · exact still_pure _
  · exact still_pure _
theorem still_hasDel (c : Addr) : Still (classHasDel c) := by
  unfold classHasDel
  refine (still_load _).bind fun o => ?_
  split
  · exact still_pure _
  · exact still_pure _
theorem still_made (o : Obj) : Still (do let a ← alloc o; Pure.pure (Value.ref a) : Sem Value) := Still.bind (.alloc fun _ => .pure _) fun _ => still_pure _
theorem still_newFields (ty : String) (vs : List Value) : Still (newFields ty vs) := by
  unfold newFields newObj newObjAsIs
  dsimp only
  by_cases q : vs.toArray.size > sizeLine + 2
  · rw [if_pos q]
    exact (still_unsup _).bind fun _ => still_made _
  · rw [if_neg q]
    exact still_made _
theorem still_newEntry (a b c d e : Value) (l : List Value) : Still (EntryCells.newEntry a b c d e l) := still_newFields _ _
theorem still_note (e : Value) (env : Env) : Still (noteFrame e env) := by
  unfold noteFrame
  split
  · refine (still_field _ _).bind fun head => ?_
    have tail : ∀ b, Still (do let a ← PySem.frameOf env; let pl ← entryPlaceOf ‹Addr› b; let n ← EntryCells.newEntry head a .none (rawInt ‹Addr›) .none pl; setField e 1 n) := fun b =>
      (still_frameOf _).bind fun _ => (still_place _ _).bind fun _ => (still_newEntry _ _ _ _ _ _).bind fun _ => still_setField _ _ _
    split
    · refine (still_field _ _).bind fun x => ?_
      split
      · exact still_pure _
      · exact (still_setField _ _ _).bind fun _ => tail _
    · exact tail _
  · exact still_unsup _
theorem still_leaving (env : Env) (e : Value) : Still (leaving env e) := (still_note _ _).bind fun _ => still_setFlight _ _
end Mine
end
section
open PySem PySem.W PySem.Spec PySem.Calls PyProof.Rows
set_option maxRecDepth 100000
namespace Mine

/-- e is in flight past the frames l, its own dict is d -/
def FlD (base G : Heap) (l : List Env) (e : Addr) (cls : Value) (d : Addr) (news : List (Addr × Obj)) (h : Heap) : Prop :=
  RaisedSN base G l e cls news h ∧ ∃ oe, h.get? e = some oe ∧ oe.dict = some d

section
variable {M : Model} {A : Around} {E : Value → Shared → Prop} {s' : Shared} {base g : Heap} {outer : List Env} {L a e d : Addr} {m : Str → Option Value} {name : Str} {scope : Scope} {cd : Value} {Q : Unit → Shared → Prop} {news : List (Addr × Obj)}

theorem leave_D {cls a0 : Value} {oe : Obj} {vs : Array Value} (K : Below A base outer g) (F : Fr g L s'.heap m) (N : News g L s'.heap news) (hne : ∀ q ∈ news, q.1 ≠ e)
    (he : s'.heap.get? e = some oe) (hge : g.get? e = none) (hcls : oe.cls = cls) (hd : oe.data = .fields vs) (h1 : vs[1]? = some .none) (h0 : vs[0]? = some a0) (hdd : oe.dict = some d)
    (hQ : ∀ h', FlD base g outer e cls d news h' → g.UpToSlots h' → Q () { s' with heap := h' }) (hk : scope.kind = .function) :
    wpAny M (A.deeper (envOf name scope L a cd)) (leaving (envOf name scope L a cd) (.ref e)) Q E s' := by
  have K' := K.push (name := name) (a := a) (cd := cd) F hk
  have hin : ∀ env ∈ (envOf name scope L a cd :: outer), ∀ b, env.frame = some b → b ∈ (envOf name scope L a cd :: outer).filterMap (·.frame) := fun env he b hb => List.mem_filterMap.mpr ⟨env, he, hb⟩
  have hbe : base.get? e = none := kts_none K.stays hge
  have up : ∀ b o, s'.heap.get? b = some o → b ≠ e → (s'.heap.hide e).get? b = some o := fun b o q n => (Heap.hide_ne _ n).trans q
  have st : base.StaysIn (hideAll (s'.heap.hide e) ((envOf name scope L a cd :: outer).filterMap (·.frame))) := fun b o q => hideAll_get _ (up _ _ (K'.stays b o q) fun z => by rw [z, hbe] at q; cases q) fun hm => by
    rw [(K'.frames.mem hm).1] at q; cases q
  have sg : ∀ b o, g.get? b = some o → b ∉ outer.filterMap (·.frame) → (hideAll (s'.heap.hide e) ((envOf name scope L a cd :: outer).filterMap (·.frame))).get? b = some o := fun b o q nm => hideAll_get _ (up _ _ (F.keep b o q) fun z => by rw [z, hge] at q; cases q) fun hm => by
    rcases kts_mem hm with z | z
    · rw [z, kts_self F] at q
      cases q
    · exact nm z
  have hl : ∀ q ∈ news, (hideAll (s'.heap.hide e) ((envOf name scope L a cd :: outer).filterMap (·.frame))).get? q.1 = some q.2 ∧ g.get? q.1 = none ∧ base.get? q.1 = none := fun q hq => by
    refine ⟨hideAll_get _ (up _ _ (N q hq).1 (hne q hq)) fun hm => ?_, (N q hq).2.2, fresh_of_stays K.stays (N q hq).2.2⟩
    obtain ⟨env, he, hf⟩ := List.mem_filterMap.mp hm
    rcases List.mem_cons.mp he with rfl | he
    · exact (N q hq).2.1 (Option.some.inj hf).symm
    · obtain ⟨o, ho, _⟩ := (K.frames.mem (List.mem_filterMap.mpr ⟨env, he, hf⟩)).2
      rw [(N q hq).2.2] at ho; cases ho
  have hen : (hideAll (s'.heap.hide e) ((envOf name scope L a cd :: outer).filterMap (·.frame))).get? e = none := by
    cases q : (hideAll (s'.heap.hide e) ((envOf name scope L a cd :: outer).filterMap (·.frame))).get? e with
    | none => rfl
    | some o => have := of_hideAll _ q; rw [Heap.hide_self] at this; cases this
  have fr : (s'.heap.hide e).FunFrames base (envOf name scope L a cd :: outer) := K'.frames.of_keeps fun b o hb hnf => ⟨o, up b o hb (fun z => by rw [z, he] at hb; cases hb; exact hnf _ hd), rfl⟩
  refine wpAny_mono ((still_leaving (envOf name scope L a cd) (.ref e)).any (wpAny_leaving_firstW (a0 := a0) K'.stack ((funFrames_hide fr hin).of_keeps fun b o hb _ => ⟨o, Heap.of_hide hb, rfl⟩) rfl he (fun b o hb => Heap.of_hide (of_hideAll _ hb)) hen hd h1 h0
    (Q := fun _ s₁ => ∃ h', s₁ = { s' with heap := h' } ∧ Heap.LeftW (hideAll (s'.heap.hide e) ((envOf name scope L a cd :: outer).filterMap (·.frame))) (envOf name scope L a cd :: outer) e oe.cls a0 s'.heap h') fun h' hL => ⟨h', rfl, hL⟩)) (fun _ s₁ q => ?_) fun _ _ x => x
  obtain ⟨⟨h', rfl, k1, ⟨_, _, k2⟩, k3, k4⟩, sd⟩ := q
  obtain ⟨oe', he', hd'⟩ := sd e oe he
  exact hQ h' ⟨⟨_, a0, st, sg, hl, k1, hen, k2, by rw [← hcls]; exact k3⟩, oe', he', hd'.trans hdd⟩ ((Heap.UpToSlots.of_keeps F.keep).trans k4)
end

section
variable {prog : Program} {w : World} {A₀ : Around} {E : Value → Shared → Prop} {s' : Shared} {base g G : Heap} {outer : List Env} {L a e C d : Addr} {m : Str → Option Value} {name : Str} {scope : Scope} {cd : Value}
  {n : Str} {b₀ : Stmt} {suite : List Stmt} {pos np : Pos} {rest : List ExceptHandler} {Q : Flow → Shared → Prop} {news : List (Addr × Obj)} {KF : Frag}
  {p : Program} {loose : List Str} {mean : ExcName → Option Value} {mg mb : Str → Option Value} {x : Str}

theorem caught_D (R : FlD base G (envOf name scope L a cd :: outer) e (.ref C) d news s'.heap) (F : Fr g L G m) (K : Below A₀ base outer g) (hsm : G.UpToSlots s'.heap) (XB : KF.In base) (TB : Top p loose mean mg mb base)
    (ex : nsIn KF mainGlobals x = some (some (.ref C))) (q : ktsIn KF C "BaseException" = true)
    (k : ∀ h' g' oe vs tk, KtsTurn (outer.filterMap (·.frame)) g g' → Fr g' L h' (fun y => if y = n then some (.ref e) else m y) → News g' L h' ((e, oe) :: news) → oe.cls = .ref C → oe.data = .fields vs → oe.dict = some d → Below A₀ base outer g' → KF.In g' → Top p loose mean mg mb g' →
      wpAny (model prog w) ((A₀.deeper (envOf name scope L a cd)).mark (some (.ref e))) (execs (b₀ :: suite) (envOf name scope L a cd))
        (fun f s₄ => wpAny (model prog w) (A₀.deeper (envOf name scope L a cd)) (do bindName (envOf name scope L a cd) n .none; unbindBehindTheSuite (envOf name scope L a cd) n pos) (fun _ s₅ => Q f s₅) E s₄)
        (AsSuiteRaised (model prog w) ((A₀.deeper (envOf name scope L a cd)).mark (some (.ref e))) (envOf name scope L a cd) n pos (notedBy (model prog w) ((A₀.deeper (envOf name scope L a cd)).mark (some (.ref e))) (envOf name scope L a cd) (cameBackBy (model prog w) (A₀.deeper (envOf name scope L a cd)) (envOf name scope L a cd) E)))
        { s' with heap := h', toks := tk })
    (hk : scope.kind = .function) (hlo : (envOf name scope L a cd).kindOf n = some .local) (hx : (envOf name scope L a cd).kindOf x = some .globalImplicit) (hd : (x == ("__debug__" : Str)) = false) :
    wpAny (model prog w) (A₀.deeper (envOf name scope L a cd)) (noteFrame (.ref e) (envOf name scope L a cd))
      (fun _ s₂ => wpAny (model prog w) (A₀.deeper (envOf name scope L a cd)) (setFlight (.ref e) none) (fun _ s₃ =>
        wpAny (model prog w) (A₀.deeper (envOf name scope L a cd)) (handleBy (.ref e) (envOf name scope L a cd) (.ExceptHandler (some (.Name x np)) (some n) (b₀ :: suite) pos :: rest)) Q E s₃) E s₂) E s' := by
  obtain ⟨⟨B, a0, hB, hBG, hl, hfl⟩, oe₀, hoe₀, hdd₀⟩ := R
  have hL : B.get? L = none := by
    obtain ⟨_, ⟨L', _, hf, hn', _⟩, _⟩ := hfl.2.2.1
    obtain rfl : L = L' := Option.some.inj hf
    exact hn'
  refine wpAny_mono ((still_note (.ref e) (envOf name scope L a cd)).any (wpAny_looks_onW (Around.frames_deeper K.stack) rfl hfl
    (Q := fun _ s₁ => ∃ h', s₁ = { s' with heap := h' } ∧ Heap.HeldW B (envOf name scope L a cd :: outer) e (.ref C) a0 L h' ∧ s'.heap.UpToSlots h') fun h' y1 y2 => ⟨h', rfl, y1, y2⟩)) (fun _ s₁ z => ?_) fun _ _ x => x
  obtain ⟨⟨h₄, rfl, hheld₄, hsm₄⟩, sd₄⟩ := z
  refine wpAny_mono ((still_setFlight (.ref e) none).any (wpAny_landsW hheld₄
    (Q := fun _ s₁ => ∃ h', s₁ = { s' with heap := h' } ∧ Heap.FlyingW B (envOf name scope L a cd :: outer) e (.ref C) a0 h' ∧ h₄.UpToSlots h') fun h' y1 y2 => ⟨h', rfl, y1, y2⟩)) (fun _ s₁ z => ?_) fun _ _ x => x
  obtain ⟨⟨h₅, rfl, hheld, hsm₅'⟩, sd₅⟩ := z
  have hsm₅ := hsm₄.trans hsm₅'
  obtain ⟨g₅, T₅, F₅, K₅⟩ := kts_ground K F hBG hheld.1 (hsm.trans hsm₅)
  have X₅ : KF.In g₅ := XB.keeps K₅.stays
  have P₅ : TopRead p loose mg mb g₅ := topRead_of (TB.keeps K₅.stays)
  obtain ⟨ob, hob, hobc⟩ := hheld.there
  obtain ⟨nm, q', N, bs, bm, hdct, sn, sub, ab, col, dd, k0, k1, k2, k3, k5, newId, hC, hbase, hbT⟩ := kts_cls X₅ q
  have hC₅ := F₅.keep _ _ hC
  refine wpAny_handleBy_cons (codeAny_handlers_test (name_K F₅ X₅ P₅ ex ?_ hk hx hd)) (by intro q; cases q)
  refine wpAny_excMatches_sub_self hC₅ hob hobc hbase (codeAny_handlers_suite_as ?_)
  refine wpAny_mono ((still_setFlight (.ref e) none).any (lands_againW hheld
    (Q := fun _ s₁ => ∃ h', s₁ = { s' with heap := h' } ∧ Heap.FlyingW B (envOf name scope L a cd :: outer) e (.ref C) a0 h' ∧ h₅.UpToSlots h') fun h' y1 y2 => ⟨h', rfl, y1, y2⟩)) (fun _ s₁ z => ?_) fun _ _ x => x
  obtain ⟨⟨h₆, rfl, hfl₆, hsm₆⟩, sd₆⟩ := z
  obtain ⟨g₆, T₆, F₆, K₆⟩ := kts_ground K F hBG hfl₆.1 ((hsm.trans hsm₅).trans hsm₆)
  obtain ⟨oe, ws, hoe, hoec, hoed, hoe0⟩ := hfl₆.first
  have ne₆ : g₆.get? e = none := T₆.none_ _ (kts_fresh F hBG hfl₆.2.1 fun o ho m => by
    obtain ⟨_, o', ho', hd⟩ := K.frames.mem m
    rw [ho] at ho'
    cases ho'
    obtain ⟨sl, hs⟩ := ((hsm.trans hsm₅).trans hsm₆) _ _ (F.keep _ _ ho) hd
    rw [hoe] at hs
    cases hs
    exact hd _ hoed)
  have N₆ := News.more F₆ News.nil hoe (fun es n q => by rw [hoed] at q; cases q) ne₆
  have Nl : News g₆ L h₆ news := fun q hq => ⟨hfl₆.1 _ _ (hl q hq).1, (fun z => by have := (hl q hq).1; rw [z, hL] at this; cases this), T₆.none_ _ (kts_none F.keep (hl q hq).2.1)⟩
  have hdd : oe.dict = some d := by
    obtain ⟨o', ho', hd'⟩ := (sd₄.trans (sd₅.trans sd₆)) e oe₀ hoe₀
    rw [hoe] at ho'
    cases ho'
    exact hd'.trans hdd₀
  have X₆ : KF.In g₆ := XB.keeps K₆.stays
  have P₆ : Top p loose mean mg mb g₆ := TB.keeps K₆.stays
  refine stN F₆ (news := _ ++ news) (fun q hq => (List.mem_append.mp hq).elim (N₆ q) (Nl q)) (fun h₇ F₇ N₇ => ?_) hk hlo
  exact k h₇ g₆ oe ws _ T₆ F₇ N₇ hoec hoed hdd K₆ X₆ P₆
end
end Mine
end
section
open PySem PySem.W PySem.Spec PySem.Calls PyProof.Rows Builtin Builtin.ObjectAttr
set_option maxRecDepth 100000
namespace Mine

section
variable {prog : Program} {w : World} {A : Around} {E : Value → Shared → Prop} {s : Shared} {K : Frag} {x C D L : Addr} {h₀ : Heap} {m : Str → Option Value} {news : List (Addr × Obj)} {cd : ClassData} {name : Str} {v : Value} {R : Result → Shared → Prop}

theorem fe_open {ox : Obj} {od : Option Obj} {tk : Tok} (X : K.In s.heap) (I : InstAt s.heap x ox C od) (hc : clsIn K C = some cd) (hm : cd.mro = [.ref C, .ref D, .type "Exception", .type "BaseException", .type "object"]) (ht : findIn K (.ref C) name = some none)
    (h : wpAny (model prog w) A.in1 (storeInOwnDict (.ref x) (.ref C) (.str name tk) name v false)
      (fun fin s' => match fin with | .done f => R (.ok f) s' | .again c' => c'.quiet = true ∧ codeAny (model prog w) A c' R s') (fun e s' => R (.error e) s') s) :
    codeAny (model prog w) A (.call (.builtin "object.__setattr__") ⟨[.ref x, .str name tk, v], []⟩) R s := by
  have SF := PySem.F.store_object
  have SE := PySem.F.store_Exception
  have sub : Looks (model prog w) s.heap (isInstance (.ref x) (.type "object")) true := I.type.andThen (looks_mroIn X (by unfold mroIn; rw [hc, Option.bind_some, if_neg (by rw [hm]; exact Bool.false_ne_true), hm]; rfl))
  refine codeAny_call_builtin SF.slot.plain SF.entry (@check_slot (model prog w) _ _ s "object.__setattr__" "object" "__setattr__" (.ref x) [.str name tk, v] [] _ SF.kind SF.split sub (SF.args (.ref x) (.str name tk) v) ?_)
  have hmr : Looks (model prog w) s.heap (mroOf (.ref C)) cd.mro := (looks_clsIn X hc).andThen .now
  rw [osa_eq, refuse_eq]
  refine wpAny_bind (wpAny_bind (I.type.here (wpAny_bind (hmr.here ?_))))
  rw [hm, refuseLoop_ref, refuseLoop_ref, SE.passes]
  refine wpAny_pure (wpAny_bind (I.type.here (wpAny_bind ((looks_findIn X ht).here (wpAny_bind ?_)))))
  exact wpAny_pure h

theorem fe_set0 {fs : Array Value} {hsh : Int} {Q : Unit → Shared → Prop} (F : Fr h₀ L s.heap m) (X : K.In s.heap) (N : News h₀ L s.heap ((x, ⟨.ref C, none, .fields fs, #[]⟩) :: news)) (hne : ∀ p ∈ news, p.1 ≠ x)
    (hc : clsIn K C = some cd) (hm : cd.mro = [.ref C, .ref D, .type "Exception", .type "BaseException", .type "object"]) (hdc : cd.hasDict = true) (ht : findIn K (.ref C) name = some none)
    (hs : findIn K (.ref C) "__setattr__" = some (some (.builtin "object.__setattr__"))) (hh : PyData.keyHash w.params name = hsh)
    (h : ∀ d h', Fr h₀ L h' m → News h₀ L h' ((x, ⟨.ref C, some d, .fields fs, #[]⟩) :: (d, dictOf [⟨hsh, .str name (s.toks + 1), v⟩] 1) :: news) → s.heap.get? d = none → d ≠ x →
      (∀ b o, b ≠ x → s.heap.get? b = some o → h'.get? b = some o) → Q () { s with heap := h', toks := s.toks + 2 }) :
    wpAny (model prog w) A (setAttr (.ref x) name v) Q E s := by
  obtain ⟨hp, gg, dr, tk, os⟩ := s
  have hx := (N _ (.head _)).1
  have I : InstAt hp x ⟨.ref C, none, .fields fs, #[]⟩ C none := ⟨hx, rfl, rfl, trivial⟩
  refine set_plain X I hs (fe_open (D := D) (s := ⟨hp, gg, dr, tk + 1, os⟩) X I hc hm ht ?_)
  unfold storeInOwnDict
  refine wpAny_bind (wpAny_pure (wpAny_bind ?_))
  show wpAny _ _ (instanceDict x true) _ _ _
  unfold instanceDict
  refine wpAny_bind (wpAny_loadPart hx (wpAny_bind ((looks_clsIn X hc).at ?_)))
  rw [hdc]
  have N1 := (News.push F N emptyDict)
  have F1 := F.push emptyDict
  have dx : hp.objs.size ≠ x := Nat.ne_of_gt (Heap.lt_size hx)
  have hx1 : (hp.push emptyDict).get? x = some ⟨.ref C, none, .fields fs, #[]⟩ := Heap.get?_push_of_some _ hx
  show wpAny _ _ (alloc emptyDict >>= _) _ _ _
  refine wpAny_bind (wpAny_alloc (wpAny_bind (wpAny_update hx1 ?_)))
  obtain ⟨F2, N2⟩ := news_upd (pre := [(hp.objs.size, emptyDict)]) (post := news) (d := x) (o := ⟨.ref C, none, .fields fs, #[]⟩) (o' := ⟨.ref C, some hp.objs.size, .fields fs, #[]⟩) (f := fun o => { o with dict := some hp.objs.size }) F1 N1
    (fun p hp => by rw [List.mem_singleton.mp hp]; exact dx) hne rfl rfl
  refine wpAny_pure ?_
  dsimp only
  unfold storeInDict nsSet
  have D2 := (N2 (hp.objs.size, emptyDict) (.head _)).1
  refine wpAny_bind (wpAny_pure (wpAny_bind (wpAny_bind (wpAny_bind (wpAny_askSetting (wpAny_pure (wpAny_bind (wpAny_mkText (wpAny_bind (wpAny_loadPart D2 ?_))))))))))
  have hfree : ∀ p ∈ ((x, ⟨.ref C, some hp.objs.size, .fields fs, #[]⟩) :: news : List (Addr × Obj)), p.1 ≠ hp.objs.size := fun p hq => by
    rcases List.mem_cons.mp hq with rfl | hq
    · exact Ne.symm dx
    · exact Nat.ne_of_lt (Heap.lt_size (N p (.tail _ hq)).1)
  obtain ⟨F3, N3⟩ := news_upd (pre := []) (post := (x, ⟨.ref C, some hp.objs.size, .fields fs, #[]⟩) :: news) (d := hp.objs.size) (o := emptyDict) (o' := dictOf [⟨hsh, .str name (tk + 1), v⟩] 1) (f := Obj.putName name (PyData.keyHash w.params name) (.str name (tk + 1))  v) F2 N2
    (fun p hp => nomatch hp) hfree (by rw [hh]; exact putName_dict name hsh _ _ [] 0) rfl
  have c0 : aRefKeyMayBeTheName name #[] = false := by rw [aRefKeyMayBeTheName_at]; simp
  dsimp only
  rw [c0]
  refine wpAny_updatePart D2 ?_
  have D3 := (N3 (hp.objs.size, dictOf [⟨hsh, .str name (tk + 1), v⟩] 1) (.head _)).1
  refine wpAny_bind (wpAny_lookBehind D3 (pastItsLine_dict (by rw [List.size_toArray, sizeLine_eq]; exact Nat.le_add_left _ _)) ?_)
  refine wpAny_pure ?_
  refine h hp.objs.size _ F3 (fun p hq => N3 p ?_) ?_ dx fun b o hb e => ?_
  · rcases List.mem_cons.mp hq with rfl | hq
    · exact .tail _ (.head _)
    · rcases List.mem_cons.mp hq with rfl | hq
      · exact .head _
      · exact .tail _ (.tail _ hq)
  · exact Heap.get?_none_of_le (Nat.le_refl _)
  · rw [Heap.get?_update_other _ _ (Nat.ne_of_gt (Heap.lt_size e)), Heap.get?_update_other _ _ (Ne.symm hb)]
    exact Heap.get?_push_of_some _ e

theorem fe_set1 {fs : Array Value} {hsh : Int} {d : Addr} {es es' : List DictEntry} {n n' : Nat} {Q : Unit → Shared → Prop} (F : Fr h₀ L s.heap m) (X : K.In s.heap) (N : News h₀ L s.heap ((x, ⟨.ref C, some d, .fields fs, #[]⟩) :: (d, dictOf es n) :: news)) (hdx : d ≠ x) (hne : ∀ p ∈ news, p.1 ≠ d)
    (hc : clsIn K C = some cd) (hm : cd.mro = [.ref C, .ref D, .type "Exception", .type "BaseException", .type "object"]) (hdc : cd.hasDict = true) (ht : findIn K (.ref C) name = some none)
    (hs : findIn K (.ref C) "__setattr__" = some (some (.builtin "object.__setattr__"))) (hh : PyData.keyHash w.params name = hsh) (hl : (getL name es).isSome = true)
    (e : (putL name hsh (.str name (s.toks + 1)) v es, putN name es n) = (es', n')) (hz : es'.length ≤ 1000)
    (h : ∀ h', Fr h₀ L h' m → News h₀ L h' ((x, ⟨.ref C, some d, .fields fs, #[]⟩) :: (d, dictOf es' n') :: news) →
      (∀ b o, b ≠ d → s.heap.get? b = some o → h'.get? b = some o) → Q () { s with heap := h', toks := s.toks + 2 }) :
    wpAny (model prog w) A (setAttr (.ref x) name v) Q E s := by
  obtain ⟨hp, gg, dr, tk, os⟩ := s
  have hx := (N _ (.head _)).1
  have hd := (N _ (.tail _ (.head _))).1
  have I : InstAt hp x ⟨.ref C, some d, .fields fs, #[]⟩ C (some (dictOf es n)) := ⟨hx, rfl, rfl, hd⟩
  refine set_plain X I hs (fe_open (D := D) (s := ⟨hp, gg, dr, tk + 1, os⟩) X I hc hm ht ?_)
  unfold storeInOwnDict
  refine wpAny_bind (wpAny_pure (wpAny_bind ?_))
  show wpAny _ _ (instanceDict x true) _ _ _
  unfold instanceDict
  refine wpAny_bind (wpAny_loadPart hx (wpAny_bind ((looks_clsIn X hc).at ?_)))
  rw [hdc]
  refine wpAny_pure ?_
  dsimp only
  unfold storeInDict nsSet
  refine wpAny_bind (wpAny_pure (wpAny_bind (wpAny_bind (wpAny_bind (wpAny_askSetting (wpAny_pure (wpAny_bind (wpAny_mkText (wpAny_bind (wpAny_loadPart hd ?_))))))))))
  have c0 : aRefKeyMayBeTheName name es.toArray = false := by
    rw [aRefKeyMayBeTheName_at, ← Array.any_toList, ← Array.any_toList]
    unfold getL at hl
    split at hl
    · rename_i en he
      rw [List.any_eq_true.mpr ⟨en, List.mem_of_find?_eq_some he, List.find?_some he⟩]; rfl
    · split at hl
      · cases hl
      · rename_i z
        rw [Bool.not_eq_true] at z
        rw [z, Bool.and_false]
  dsimp only
  rw [c0]
  refine wpAny_updatePart hd ?_
  obtain ⟨e1, e2⟩ := Prod.mk.inj e
  obtain ⟨F3, N3⟩ := news_upd (pre := [(x, ⟨.ref C, some d, .fields fs, #[]⟩)]) (post := news) (d := d) (o := dictOf es n) (o' := dictOf es' n') (f := Obj.putName name (PyData.keyHash w.params name) (.str name (tk + 1)) v) F N
    (fun p hp => by rw [List.mem_singleton.mp hp]; exact Ne.symm hdx) hne (by rw [hh, ← e1, ← e2]; exact putName_dict name hsh _ _ es n) rfl
  have D3 := (N3 (d, dictOf es' n') (.tail _ (.head _))).1
  refine wpAny_bind (wpAny_lookBehind D3 (pastItsLine_dict (by rw [List.size_toArray, sizeLine_eq]; omega)) ?_)
  exact wpAny_pure (h _ F3 N3 fun b o hb e => (Heap.get?_update_other _ _ (Ne.symm hb)).trans e)
end

section
variable {prog : Program} {w : World} {A : Around} {E : Value → Shared → Prop} {s : Shared} {K : Frag} {C D fI L : Addr} {h₀ : Heap} {m : Str → Option Value} {news : List (Addr × Obj)} {cd : ClassData} {R : Result → Shared → Prop}
/-- the class is called: a new exception stands with the tuple of its arguments, then its own __init__ runs -/
theorem fe_new {rest : List Value} {nm q : Str} {N : Addr} {bs bm : List Value} {hdct : Bool} {sn : List Str} {sub : List Value} {ab : Bool} {col : Option Bool} {dd : Option Addr} {k0 k1 k2 k3 k5 : Option Value}
    (F : Fr h₀ L s.heap m) (X : K.In s.heap) (hC : K.lookup C = some (excClassObj nm q C N bs bm hdct sn sub ab col dd k0 k1 k2 k3 k5 "Exception.__new__")) (ht : tailIn K [.type "Exception", .type "BaseException", .type "object"] bm = true)
    (hi : findIn K (.ref C) "__init__" = some (some (.ref fI))) (hf : typeIn K (.ref fI) = some (.type "function")) (hrest : rest.length ≤ sizeLine)
    (h : ∀ e t h', Fr h₀ L h' m → News h₀ L h' [(e, ⟨.ref C, none, .fields #[.ref t, .none, .none, .none, .bool false, .none], #[]⟩)] → s.heap.get? e = none → (∀ b o, s.heap.get? b = some o → h'.get? b = some o) →
      codeAny (model prog w) (A.under (.builtin "type.__call__" ⟨.ref C :: rest, []⟩)) (.call (.ref fI) ⟨.ref e :: rest, []⟩) (InitBack e R) { s with heap := h' }) :
    codeAny (model prog w) A (.call (.ref C) ⟨rest, []⟩) R s := by
  obtain ⟨hp, gg, dr, tk, os⟩ := s
  have FE := PySem.F.excBase_Exception
  have hC' : hp.get? C = some _ := X _ _ hC
  have T := tail_of_in (bmB := [.type "Exception", .type "BaseException", .type "object"]) X ht
  have f1 := tc_lookup
  have f2 := tc_bind (.ref C)
  have hT : (⟨hp, gg, dr, tk, os⟩ : Shared).TypeIs (.ref C) "type" := ⟨_, hC', rfl⟩
  refine codeAny_of_tree ?_
  show wpAny _ _ (callAny (.ref C) _) _ _ _
  repeat (any_goals (first | assumption | with_reducible refine wpAny_loadPart_at hC' ?_ | wp_step))
  refine ⟨rfl, ?_⟩
  refine codeAny_call_builtin_at (Code.quiet_builtin _ (by decide +kernel)) entry_typeCall (wpAny_check_type_call_sub hC' ?_)
  unfold Builtin.«type.__call__»
  repeat (first | with_reducible refine wpAny_loadPart_at hC' ?_ | with_reducible refine wpAny_madeBy_exc hC' ?_ | wp_step)
  refine codeAny_call_builtin_code (Code.quiet_builtin _ FE.quiet) (wpAny_check_new_subT FE T hC' ?_)
  refine codeAny_exc_new_subT FE T hC' ?_ hrest
  have k : ∀ b o, hp.get? b = some o → ((hp.push { cls := .type "tuple", data := .seq rest.toArray }).push { cls := .ref C, data := .fields #[.ref hp.objs.size, .none, .none, .none, .bool false, .none] }).get? b = some o :=
    fun b o e => Heap.get?_push_of_some _ (Heap.get?_push_of_some _ e)
  have hx : ((hp.push { cls := .type "tuple", data := .seq rest.toArray }).push { cls := .ref C, data := .fields #[.ref hp.objs.size, .none, .none, .none, .bool false, .none] }).get? (hp.objs.size + 1) =
      some { cls := .ref C, data := .fields #[.ref hp.objs.size, .none, .none, .none, .bool false, .none] } := by heap_get
  have t1 : Looks (model prog w) _ (typeOf (.ref (hp.objs.size + 1))) (.ref C) := (Looks.ld hx).andThen .now
  have s1 : Looks (model prog w) hp (isSubtype (.ref C) (.ref C)) true := looks_mroIn X (by
    unfold mroIn clsIn
    rw [hC, Option.bind_some, if_neg (by exact Bool.false_ne_true)]
    simp)
  have s1 := s1.keeps k
  have i1 := (looks_findIn (M := model prog w) X hi).keeps k
  have b1 := (bind_fn (M := model prog w) X (.ref (hp.objs.size + 1)) hf).keeps k
  have N1 := (News.push (F.push _) (News.push F (News.nil : News h₀ L hp []) { cls := .type "tuple", data := .seq rest.toArray }) { cls := .ref C, data := .fields #[.ref hp.objs.size, .none, .none, .none, .bool false, .none] })
  rw [Heap.size_push] at N1
  have z := h (hp.objs.size + 1) hp.objs.size _ ((F.push _).push _) (fun p hq => N1 p (by rw [List.mem_singleton.mp hq]; exact .head _)) (Heap.get?_none_of_le (Nat.le_succ _)) k
  change wpAny (model prog w) (A.under (.builtin "type.__call__" ⟨.ref C :: rest, []⟩)) _ _ _ ⟨(hp.push { cls := .type "tuple", data := .seq rest.toArray }).push { cls := .ref C, data := .fields #[.ref hp.objs.size, .none, .none, .none, .bool false, .none] }, gg, dr, tk, os⟩
  unfold isInstance callSpecial? specialOf
  repeat (first | with_reducible refine wpAny_call ?_ | lk)
  refine codeAny_mono z fun r s' z => ?_
  rcases r with e | (v | _ | _ | _) <;> first | exact z | exact z.elim | skip
  obtain ⟨rfl, z⟩ := z
  exact wpAny_pure (wpAny_pure z)
end
end Mine
end
section
open PySem PySem.W PySem.Spec PySem.Calls PyProof.Rows
set_option maxRecDepth 100000
namespace Mine

local macro_rules | `(tactic| walk_at "setAttr ref") => `(tactic| (k_here; k_dflt (first
  | (refine' fe_set0 (C := 51) (D := 31) ?k1 ?k2 ?k3 ?k4 ?k5 ?k6 ?k7 ?k8 ?k9 ?kh ?_; (case k1 => k_asm); (case k2 => k_in); (case k3 => k_asm); (case k4 => exact fun p hp => nomatch hp); (case k5 => k_is); (case k6 => exact rfl); (case k7 => exact rfl); (case k8 => k_is); (case k9 => k_is); (case kh => exact rfl); k_whole; intro d' h' F' N' fresh' ne' keep')
  | (refine' fe_set1 (C := 51) (D := 31) ?k1 ?k2 ?k3 ?kd ?k4 ?k5 ?k6 ?k7 ?k8 ?k9 ?kh ?kl ?ke ?kz ?_; (case k1 => k_asm); (case k2 => k_in); (case k3 => k_asm); (case kd => assumption); (case k4 => exact fun p hp => nomatch hp); (case k5 => k_is); (case k6 => exact rfl); (case k7 => exact rfl); (case k8 => k_is); (case k9 => k_is); (case kh => exact rfl); (case kl => exact rfl); (case ke => exact rfl); (case kz => exact Nat.le_of_ble_eq_true rfl); k_whole; intro h' F' N' keep''))))

set_option maxHeartbeats 8000000 in
theorem fe_call {w : World} {mg mb : Str → Option Value} {loose : List Str} {mean : ExcName → Option Value} {dp un : Nat} {gd : Option (List Code)} {cn : Str} {cs : Scope} {L a : Addr} {ccd : Value} {cl : List (Str × Addr)} {outer : List Env}
    {A₀ : Around} {base h₀ : Heap} {m : Str → Option Value} {s : Shared} {Q E : Value → Shared → Prop} {wh : Str} {n : Int} {t1 t2 : Tok}
    (B : Below A₀ base outer h₀) (F : Fr h₀ L s.heap m) (X : (Mine.hd.heap_39 w.params).In h₀) (T : Top Mine.hd.view_39 loose mean mg mb h₀) (hk : cs.kind = .function)
    (hd : dp + 3 < recursionLimit) (hu : un + 24 < cLine)
    (ret : ∀ e d t es h' tk', Fr h₀ L h' m → (∀ b o, s.heap.get? b = some o → h'.get? b = some o) → h'.get? e = some ⟨.ref 51, some d, .fields #[.ref t, .none, .none, .none, .bool false, .none], #[]⟩ → h'.get? d = some (dictOf es 2) →
      getL "what" es = some (some (.str wh t1)) → getL "at" es = some (some (.int n t2)) → s.heap.get? e = none → s.heap.get? d = none → d ≠ e → Q (.ref e) { s with heap := h', toks := tk' }) :
    wpAny (model PySem.Challenge.rw_pq0744_01.row.prog w) (ktrTop dp un gd cn cs L a ccd cl outer) (call (.ref 51) [.str wh t1, .int n t2]) Q E s := by
  w_top off
  revert X; k_fill; intro X
  refine wpAny_call ?_
  have Xs := X.keeps F.keep
  refine fe_new (fI := 48) (C := 51) F Xs (by k_is) (by kernel_rfl) (by k_is) (by k_is) (by size_fits) ?_
  intro e t h₂ F₂ N₂ hen keep₂
  (refine' enter_news ?k1 ?k2 ?k3 ?k4 ?k5 ?kA ?kF ?kK ?k6 ?k7 ?k8 ?k9 ?kB ?_ ?c2 ?c3 ?c4 ?c5; (case kA => exact rfl); (case kF => exact rfl); (case kK => assumption); (case k1 => assumption); (case k2 => assumption); (case k3 => assumption); (case k4 => assumption); (case k5 => assumption); (case k6 => k_is); (case k7 => k_is); (case k8 => ktr_room); (case k9 => exact BindsTo.of_eq rfl); (case c5 => decide); (case kB => exact locs rfl); (case c2 => exact rfl); (case c3 => exact rfl); (case c4 => exact rfl))
  intro g' L' h' hg F' N' B' X' T'
  have keepA : ∀ b o, g'.get? b = some o → h'.get? b = some o := F'.keep
  have down : ∀ b o, s.heap.get? b = some o → g'.get? b = some o := fun b o e₁ => hg b o (keep₂ b o e₁) fun p hp q => by
    rw [List.mem_singleton.mp hp] at q
    rw [← q, hen] at e₁
    cases e₁
  k_with_none
  (try dsimp only); (try k_fold)
  k_steps
  (with_reducible rename Fr g' L' _ _ => FF)
  (with_reducible rename News h₀ L _ _ => NN)
  (with_reducible rename Heap.get? _ _ = none => fr)
  refine ret e _ t _ _ _ (by assumption) (fun b o q => FF.keep b o (down b o q)) (NN _ (.head _)).1 (NN _ (.tail _ (.head _))).1 (by rfl) (by rfl) hen ?_ (by assumption)
  exact kts_none (fun b o q => keepA b o (down b o q)) fr
end Mine
end
section
open PySem PySem.W PySem.Spec PySem.Calls PyProof.Rows
set_option maxRecDepth 100000
namespace Mine
section
variable {M : Model} {A : Around} {E : Value → Shared → Prop} {s : Shared} {env : Env} {K : Frag} {C : Addr}
variable {nm q : Str} {N : Addr} {bs bm : List Value} {hdct : Bool} {sn : List Str} {sub : List Value} {ab : Bool} {col : Option Bool} {dd : Option Addr} {k0 k1 k2 k3 k5 : Option Value} {newId : String}
theorem fe_raise {x : Expr} {pos : Pos} {Q : Flow → Shared → Prop} {h₀ : Heap} (_X₀ : K.In h₀) (hC : K.lookup C = some (excClassObj nm q C N bs bm hdct sn sub ab col dd k0 k1 k2 k3 k5 newId)) (hbase : bm.contains (.type "BaseException") = true) (hh : A.handled = none)
    (h : wpAny M A (eval x env) (fun v s₁ => ∃ e od t, v = .ref e ∧ K.In s₁.heap ∧ s₁.heap.get? e = some ⟨.ref C, od, .fields #[.ref t, .none, .none, .none, .bool false, .none], #[]⟩ ∧ E (.ref e) s₁) E s) :
    wpAny M A (exec (.Raise (some x) none pos) env) Q E s := by
  have hcB : (Value.ref C :: bm).contains (.type "BaseException") = true := by rw [List.contains_cons, hbase, Bool.or_true]
  rw [arm_exec_Raise]
  show wpAny M A (do standAt pos; raiseStmt env (some (do let v ← eval x env; standAt pos; pure v)) none) Q E s
  refine wpAny_bind (wpAny_standAt ?_)
  unfold raiseStmt
  refine wpAny_bind (wpAny_bind (wpAny_mono h (fun v s₁ h₁ => wpAny_bind (wpAny_standAt (wpAny_pure ?_))) fun _ _ x => x))
  obtain ⟨e, od, t, rfl, X, he, hE⟩ := h₁
  obtain ⟨hp, g, d, tk, os⟩ := s₁
  have hC' := X _ _ hC
  repeat (first | with_reducible refine wpAny_loadPart_at he ?_ | with_reducible refine wpAny_loadPart_at hC' ?_ | (with_reducible refine wpAny_isSubtype_exc hC' ?_; rw [hcB]) | wp_step)
  exact wpAny_raiseNew_none hh hE
end
end Mine
end
section
open PySem PySem.W PySem.Spec PySem.Calls PyProof.Rows
set_option maxRecDepth 100000
namespace Mine
section
variable {prog : Program} {w : World} {A : Around} {E : Value → Shared → Prop} {s : Shared} {K : Frag} {x C : Addr} {ox : Obj} {od : Option Obj} {name : Str} {v : Value} {Q : Value → Shared → Prop}
theorem fe_get {expr : Bool} (X : K.In s.heap) (I : InstAt s.heap x ox C od) (hga : findIn K (.ref C) "__getattribute__" = some (some (.builtin "BaseException.__getattribute__"))) (hgn : findIn K (.ref C) "__getattr__" = some none)
    (hb : mroIn K C (.type "BaseException") = some true) (hf : findObj K C od name = some (.value v)) (hh : handedIn v = true) (h : Q v { s with toks := s.toks + 1 }) :
    wpAny (model prog w) A (getAttr (.ref x) name expr) Q E s := by
  obtain ⟨hp, g, d, t, os⟩ := s
  have L0 := I.type (M := model prog w)
  have L1 := looks_findIn (M := model prog w) X hga
  have L2 := looks_findIn (M := model prog w) X hgn
  have L3 := looks_find (M := model prog w) X I hf
  have LI : Looks (model prog w) hp (isInstance (.ref x) (.type "BaseException")) true := I.type.andThen (looks_mroIn X hb)
  have fb := PySem.F.attr_Exception.ga.bind (.ref x)
  unfold getAttr getAttrBy
  refine wpAny_bind (wpAny_mkText (wpAny_holding (wpAny_bind (L0.at (wpAny_bind (L1.at ?_))))))
  show wpAny _ _ (getAttrByItsOwn (.ref x) (.str name t) (.ref C) (.builtin "BaseException.__getattribute__") true expr) _ _ _
  unfold getAttrByItsOwn
  refine wpAny_bind ?_
  show wpAny _ _ (typeLookup (.ref C) "__getattr__") _ _ _
  refine L2.at (wpAny_bind (wpAny_attempt (wpAny_holding ?_)))
  have e0 : callGetattribute (.ref x) (.str name t) (.builtin "BaseException.__getattribute__") expr = boundAndCalled (.builtin "BaseException.__getattribute__") (.ref x) (.str name t) := by
    unfold callGetattribute
    cases expr <;> rfl
  rw [e0]
  unfold boundAndCalled
  rw [fb]
  refine wpAny_bind (wpAny_pure ?_)
  refine wpAny_call (codeAny_call_builtin PySem.F.attr_Exception.ga.plain PySem.F.entry_bexc_ga (@check_slot (model prog w) _ _ ⟨hp, g, d, t + 1, os⟩ "BaseException.__getattribute__" "BaseException" "__getattribute__" (.ref x) [.str name t] [] _ (by decide +kernel) (by decide +kernel) LI (PySem.F.args_bexc_ga _ _) ?_))
  unfold Builtin.«object.__getattribute__»
  refine wpAny_bind (wpAny_pure (wpAny_bind (wpAny_pure (wpAny_bind (L0.at (wpAny_bind (L3.at ?_)))))))
  refine wpAny_pure ?_
  show wpAny _ _ (handedOut v) _ _ _
  rw [handedOut_of hh]
  exact wpAny_pure h
end
end Mine
end
section
open PySem PySem.W PySem.Spec PySem.Calls PyProof.Rows
set_option maxRecDepth 100000
namespace Mine

inductive Told where
  | ok (body : List Int)
  | err (what : Str) (at_ : Int)
def leV (l : List Int) : Int := l.foldr (fun b c => b + 256 * c) 0
def badB (b : Int) : Bool := decide (b < 0) || decide (255 < b)
def told (ns : List Int) : Told :=
  if ns.length < 8 then .err "cut_off" ns.length
  else match ns.findIdx? badB with
    | some i => .err "bad_byte" i
    | none => if leV (ns.drop (ns.length - 8)) = ckn (ns.take (ns.length - 8)) then .ok (ns.take (ns.length - 8)) else .err "bad_check" ((ns.length : Int) - 8)

theorem pow_small : ∀ n : Nat, n ≤ 8 → (256 : Int) ^ n ≤ 18446744073709551616 := by decide
theorem badB_false {b : Int} (h0 : ¬ b < 0) (h1 : ¬ 255 < b) : badB b = false := by
  simp [badB, h0, h1]
theorem look_start {ns : List Int} : ∀ i : Nat, i < ([] : List Int).length → badB (ns.getD i 0) = false := fun _ h => absurd h (Nat.not_lt_zero _)
theorem look_turn {ns pre : List Int} {k : Int} (h : ∀ i : Nat, i < pre.length → badB (ns.getD i 0) = false) (hk : k = 0 + (pre.length : Int)) (h0 : ¬ ns.getD k.toNat 0 < 0) (h1 : ¬ 255 < ns.getD k.toNat 0) : ∀ i : Nat, i < (pre ++ [k]).length → badB (ns.getD i 0) = false := by
  intro i hi
  rw [List.length_append, List.length_singleton] at hi
  by_cases q : i < pre.length
  · exact h i q
  · have e : i = k.toNat := by omega
    rw [e]
    exact badB_false h0 h1
theorem told_bad {ns pre : List Int} {k : Int} (hl : ¬ (ns.length : Int) - 8 < 0) (h : ∀ i : Nat, i < pre.length → badB (ns.getD i 0) = false) (hk : k = 0 + (pre.length : Int)) (hlt : k < ns.length) (hb : badB (ns.getD k.toNat 0) = true) : told ns = .err "bad_byte" k := by
  unfold told
  rw [if_neg (by omega)]
  have hl' : pre.length < ns.length := by omega
  have e : ns.findIdx? badB = some pre.length := by
    rw [List.findIdx?_eq_some_iff_getElem]
    refine ⟨hl', ?_, fun j hj => ?_⟩
    · have := hb
      rw [show k.toNat = pre.length by omega, List.getD_eq_getElem?_getD, List.getElem?_eq_getElem hl', Option.getD_some] at this
      exact this
    · have := h j hj
      rw [List.getD_eq_getElem?_getD, List.getElem?_eq_getElem (Nat.lt_trans hj hl'), Option.getD_some] at this
      rw [this]
      exact Bool.false_ne_true
  rw [e]
  show Told.err "bad_byte" (pre.length : Int) = _
  rw [hk, Int.zero_add]
theorem badB_lo {b : Int} (h : b < 0) : badB b = true := by simp [badB, h]
theorem badB_hi {b : Int} (h : 255 < b) : badB b = true := by simp [badB, h]
theorem leV_cons (b : Int) (l : List Int) : leV (b :: l) = b + 256 * leV l := rfl
theorem leV_bound : ∀ (l : List Int), (∀ b ∈ l, 0 ≤ b ∧ b < 256) → 0 ≤ leV l ∧ leV l < 256 ^ l.length
  | [], _ => ⟨by decide, by decide⟩
  | b :: r, h => by
    obtain ⟨h1, h2⟩ := leV_bound r fun x hx => h x (.tail _ hx)
    obtain ⟨h3, h4⟩ := h b (.head _)
    rw [leV_cons, List.length_cons, Int.pow_succ]
    omega
theorem lev_start {ns : List Int} : (0 : Int) = leV (ns.drop (ns.length - ([] : List Int).length)) ∧ (0 : Int) ≤ 0 ∧ (0 : Int) < 18446744073709551616 := by
  refine ⟨?_, by decide, by decide⟩
  simp [leV]
theorem badB_iff {b : Int} (h : badB b = false) : 0 ≤ b ∧ b < 256 := by
  simp only [badB, Bool.or_eq_false_iff, decide_eq_false_iff_not] at h
  omega
theorem lev_turn {ns pre : List Int} {c k : Int} (hc : c = leV (ns.drop (ns.length - pre.length))) (hk : k = (ns.length : Int) - 1 - pre.length) (h8 : pre.length < 8) (hl : pre.length < ns.length) (hb : ∀ b ∈ ns, badB b = false) :
    c * 256 + ns.getD k.toNat 0 = leV (ns.drop (ns.length - (pre ++ [k]).length)) ∧ 0 ≤ c * 256 + ns.getD k.toNat 0 ∧ c * 256 + ns.getD k.toNat 0 < 18446744073709551616 := by
  have e : c * 256 + ns.getD k.toNat 0 = leV (ns.drop (ns.length - (pre ++ [k]).length)) := by
    have hk' : k.toNat = ns.length - (pre.length + 1) := by omega
    have hlt : ns.length - (pre.length + 1) < ns.length := by omega
    rw [List.length_append, List.length_singleton, List.drop_eq_getElem_cons hlt, leV_cons, hc, hk', List.getD_eq_getElem?_getD, List.getElem?_eq_getElem hlt, Option.getD_some,
      show ns.length - (pre.length + 1) + 1 = ns.length - pre.length by omega]
    omega
  refine ⟨e, ?_⟩
  rw [e]
  obtain ⟨h1, h2⟩ := leV_bound (ns.drop (ns.length - (pre ++ [k]).length)) fun b hb' => badB_iff (hb b (List.mem_of_mem_drop hb'))
  refine ⟨h1, Int.lt_of_lt_of_le h2 ?_⟩
  have hle : (ns.drop (ns.length - (pre ++ [k]).length)).length ≤ 8 := by
    rw [List.length_drop, List.length_append, List.length_singleton]
    omega
  exact pow_small _ hle
theorem all_of_look {ns : List Int} {n : Nat} (h : ∀ i : Nat, i < (rangeKs 0 n).length → badB (ns.getD i 0) = false) (hn : n = ns.length) : ∀ b ∈ ns, badB b = false := by
  intro b hb
  obtain ⟨i, hi, e⟩ := List.getElem_of_mem hb
  have := h i (by rw [rangeKs_length]; omega)
  rw [List.getD_eq_getElem?_getD, List.getElem?_eq_getElem hi, Option.getD_some, e] at this
  exact this

def Stop (P : Prop) : Prop := P
theorem stop_of {P : Prop} (h : Stop P) : P := h
local macro_rules | `(tactic| walk_at "pyIter ref") => `(tactic| (k_here; refine stop_of ?_))
local macro_rules | `(tactic| walk_at "exec Raise some none") => `(tactic| (k_here; k_dflt (refine' fe_raise (C := 51) ?k0 ?k1 ?k2 ?k3 ?_; (case k0 => k_asm); (case k1 => k_is); (case k2 => kernel_rfl); (case k3 => exact rfl); k_whole)))
theorem told_check {ns : List Int} {c a : Int} {n : Nat} (hl : ¬ (ns.length : Int) - 8 < 0) (hall : ∀ b ∈ ns, badB b = false) (hc : c = leV (ns.drop (ns.length - (downKs a n).length))) (hn : n = 8) (hne : ¬ c = ckn (ns.take ((ns.length : Int) - 8).toNat)) : told ns = .err "bad_check" ((ns.length : Int) - 8) := by
  subst hn
  rw [downKs_length] at hc
  have e : ((ns.length : Int) - 8).toNat = ns.length - 8 := by omega
  rw [e] at hne
  unfold told
  rw [if_neg (by omega), List.findIdx?_eq_none_iff.mpr hall]
  dsimp only
  rw [if_neg (hc ▸ hne)]
theorem told_fine {ns : List Int} {c a : Int} {n : Nat} (hl : ¬ (ns.length : Int) - 8 < 0) (hall : ∀ b ∈ ns, badB b = false) (hc : c = leV (ns.drop (ns.length - (downKs a n).length))) (hn : n = 8) (he : c = ckn (ns.take ((ns.length : Int) - 8).toNat)) : told ns = .ok (ns.take ((ns.length : Int) - 8).toNat) := by
  subst hn
  rw [downKs_length] at hc
  have e : ((ns.length : Int) - 8).toNat = ns.length - 8 := by omega
  rw [e] at he ⊢
  unfold told
  rw [if_neg (by omega), List.findIdx?_eq_none_iff.mpr hall]
  dsimp only
  rw [if_pos (hc ▸ he)]
theorem told_short {ns : List Int} (h : (ns.length : Int) - 8 < 0) : told ns = .err "cut_off" ns.length := by
  unfold told
  rw [if_pos (by omega)]
theorem one_news {g hp h' : Heap} {L d : Addr} {o : Obj} {m : Str → Option Value} (F : Fr g L hp m) (hd : h'.get? d = some o) (hn : hp.get? d = none) : News g L h' [(d, o)] := fun p hp' => by
  rw [List.mem_singleton.mp hp']
  refine ⟨hd, fun z => ?_, kts_none F.keep hn⟩
  obtain ⟨oL, _, _, hL, _⟩ := F.ns
  have z : d = L := z
  rw [z, hL] at hn
  cases hn
theorem fresh_of {g hp : Heap} {L e : Addr} {m : Str → Option Value} (F : Fr g L hp m) (hn : hp.get? e = none) : g.get? e = none := kts_none F.keep hn
theorem ne_one {d e : Addr} {o : Obj} (h : d ≠ e) : ∀ q ∈ [(d, o)], q.1 ≠ e := fun q hq => by rw [List.mem_singleton.mp hq]; exact h
local macro_rules | `(tactic| walk_at "call ref") => `(tactic| (k_here; (with_reducible show wpAny _ _ (call (Value.ref 51) _) _ _ _); k_dflt (refine' fe_call ?k1 ?k2 ?k3 ?k4 ?k5 ?k6 ?k7 ?_; (case k1 => assumption); (case k2 => k_asm); (case k3 => k_asm); (case k4 => assumption); (case k5 => exact rfl); (case k6 => ktr_room); (case k7 => ktr_units); k_whole; intro e' d' t' es' h' tk' F' keep' he' hd' gw' ga' en' dn' ne'; (have N2' := one_news (by assumption) hd' dn'); (have g2' := fresh_of (by assumption) en'); refine ⟨e', _, t', rfl, ?kX, he', ?_⟩; (case kX => exact Frag.In.keeps (by assumption) (Fr.keep (by assumption))); (try dsimp only))))
local macro_rules | `(tactic| walk_at "leaving ref") => `(tactic| (k_here; k_dflt (refine' leave_D (cls := Value.ref 51) ?K ?F ?N ?ne ?he ?ge ?cls ?hd ?h1 ?h0 ?dd ?_ ?hk; (case K => assumption); (case F => assumption); (case N => assumption); (case ne => exact ne_one (by assumption)); (case he => assumption); (case ge => assumption); (case cls => exact rfl); (case hd => exact rfl); (case h1 => exact rfl); (case h0 => exact rfl); (case dd => exact rfl); (case hk => exact rfl); k_whole; intro h'' R'' U''; (try dsimp only); refine stop_of ?_)))
theorem news_keep {g h h' : Heap} {L : Addr} {news : List (Addr × Obj)} (N : News g L h news) (k : ∀ b o, h.get? b = some o → h'.get? b = some o) : News g L h' news := fun p hp => ⟨k _ _ (N p hp).1, (N p hp).2⟩
theorem list_of_news {g h : Heap} {L l : Addr} {vs : List Value} {n : Nat} {news : List (Addr × Obj)} (N : News g L h ((l, listOf vs.toArray n) :: news)) : h.IsList l vs.toArray := ⟨_, (N _ (.head _)).1, rfl, _, rfl⟩
theorem take_bytes {ns : List Int} {k : Nat} (h : ∀ b ∈ ns, badB b = false) : ∀ b ∈ ns.take k, 0 ≤ b ∧ b < 256 := fun b hb => badB_iff (h b (List.mem_of_mem_take hb))
set_option maxHeartbeats 4000000 in
theorem cb_call {w : World} {mg mb : Str → Option Value} {loose : List Str} {mean : ExcName → Option Value} {dp un : Nat} {gd : Option (List Code)} {cn : Str} {cs : Scope} {L a : Addr} {ccd : Value} {cl : List (Str × Addr)} {outer : List Env}
    {A₀ : Around} {base h₀ : Heap} {m : Str → Option Value} {s : Shared} {Q E : Value → Shared → Prop} {l : Addr} {vs : List Value} {ns : List Int}
    (B : Below A₀ base outer h₀) (F : Fr h₀ L s.heap m) (X : (Mine.hd.heap_39 w.params).In h₀) (T : Top Mine.hd.view_39 loose mean mg mb h₀) (hk : cs.kind = .function)
    (hl : s.heap.IsList l vs.toArray) (hi : IntsAre vs ns) (hlen : ns.length < 900) (hd : dp + 5 < recursionLimit) (hu : un + 40 < cLine)
    (retOk : ∀ body, told ns = .ok body → ∀ t vs' nn h' tk', Fr h₀ L h' m → (∀ b o, s.heap.get? b = some o → h'.get? b = some o) → h'.get? t = some (listOf vs'.toArray nn) → IntsAre vs' body → s.heap.get? t = none → Q (.ref t) { s with heap := h', toks := tk' })
    (retErr : ∀ wh n, told ns = .err wh n → ∀ e d es t1 t2 h' tk', FlD base s.heap (envX cn cs L a ccd cl :: outer) e (.ref 51) d [(d, dictOf es 2)] h' → s.heap.UpToSlots h' → getL "what" es = some (some (.str wh t1)) → getL "at" es = some (some (.int n t2)) → E (.ref e) { s with heap := h', toks := tk' }) :
    wpAny (model PySem.Challenge.rw_pq0744_01.row.prog w) (ktrTop dp un gd cn cs L a ccd cl outer) (call (.ref 67) [.ref l]) Q E s := by
  w_top off
  revert X; k_fill; intro X
  refine wpAny_call ?_
  (refine' enter_flat ?k1 ?k2 ?k3 ?k5 ?kA ?kF ?kK ?k6 ?k7 ?k8 ?k9 ?kB ?_ ?c2 ?c3 ?c4 ?c5; (case kA => exact rfl); (case kF => exact rfl); (case kK => assumption); (case k1 => assumption); (case k2 => assumption); (case k3 => assumption); (case k5 => assumption); (case k6 => k_is); (case k7 => k_is); (case k8 => ktr_room); (case k9 => exact BindsTo.of_eq rfl); (case c5 => decide); (case kB => exact locs rfl); (case c2 => exact rfl); (case c3 => exact rfl); (case c4 => exact rfl))
  intro g' L' h' hg F' N' B' X' T'
  subst hg
  k_with_none
  (try dsimp only); (try k_fold)
  k_steps
  all_goals (try k_data)
  · unfold Stop; refine retErr _ _ (told_short (by assumption)) _ _ _ _ _ _ _ (by assumption) (by assumption) (by assumption) (by assumption)
  · (with_reducible show Stop _); unfold Stop
    (rename Fr _ _ _ _ => lF'); (rename News _ _ _ _ => lN'); (rename IsRange _ _ _ _ _ _ _ _ => rgX)
    (with_unfolding_all refine' kst_range (σ := Unit) (fun _ => []) (fun _ => []) (fun _ => True) [] (fun pre _ => ∀ i : Nat, i < pre.length → badB (ns.getD i 0) = false) () (by rfl) (by exact rgX) (by exact small_one (by omega) (by omega) (by omega) (by omega)) (by exact rangeSize_nat _ _) lF' (by exact lN') trivial (fun _ hp => nomatch hp) look_start ?_ ?_)
    · intro _ kPre kN kT kU kH kTk kOwn kEq kLt kOff _ kInv kFr kNews
      clear lF' lN'
      (try dsimp only [kstB] at kFr); (try dsimp only at kNews); (try simp only [List.nil_append] at kNews); (try k_fold)
      k_steps
      all_goals (try k_data)
      · unfold Stop; refine retErr _ _ (told_bad (by assumption) kInv kEq (by omega) (by first | exact badB_lo (by assumption) | exact badB_hi (by assumption))) _ _ _ _ _ _ _ (by assumption) (by assumption) (by assumption) (by assumption)
      · unfold Stop; refine retErr _ _ (told_bad (by assumption) kInv kEq (by omega) (by first | exact badB_lo (by assumption) | exact badB_hi (by assumption))) _ _ _ _ _ _ _ (by assumption) (by assumption) (by assumption) (by assumption)
      · (rename News _ _ _ _ => nE')
        refine kst_end () (by assumption) nE' (fun _ hp => nomatch hp) (fun p hp => hp) rfl trivial (fun _ hp => nomatch hp) (fun z h1 _ _ => ?_) (look_turn kInv kEq (by assumption) (by assumption))
        exact if_neg h1
    · intro _ kU kH kTk _ kInv kFr kNews
      clear lF' lN'
      (try dsimp only [kstB] at kFr); (try dsimp only at kNews); (try k_fold)
      have hall := all_of_look kInv (by omega)
      clear kInv
      (try dsimp only)
      k_steps
      all_goals (try k_data)
      unfold Stop
      (rename Fr _ _ _ _ => lF'); (rename News _ _ _ _ => lN'); (rename IsRange _ _ _ _ _ _ _ _ => rgX)
      (with_unfolding_all refine' kst_rangeD (σ := Int × Nat) (fun _ => []) (fun c => [(Str.ofString "check", Value.int c.1 c.2)]) (fun _ => True) [] (fun pre c => c.1 = leV (ns.drop (ns.length - pre.length)) ∧ 0 ≤ c.1 ∧ c.1 < 18446744073709551616) (0, ?tkn) (by rfl) (by exact rgX) (by exact small_down (by omega) (by omega) (by omega) (by omega)) (by exact rangeSize_downNat _ _) lF' (by exact lN') trivial ?kk lev_start ?_ ?_)
      (case kk => kst_all)
      · rintro ⟨kC, kCt⟩ kPre kN kT kU kH kTk kOwn kEq kLt kOff _ ⟨kI1, kI2, kI3⟩ kFr kNews
        clear lF' lN'
        (try dsimp only [kstB] at kFr kI1 kI2 kI3); (try dsimp only at kNews); (try simp only [List.nil_append] at kNews); (try k_fold)
        k_steps
        all_goals (try k_data)
        (rename News _ _ _ _ => nE')
        refine' kst_end (?v1, ?v2) (by assumption) nE' (fun _ hp => nomatch hp) (fun p hp => hp) rfl trivial ?a ?b ?c
        (case a => kst_all)
        (case b => kst_same)
        (case c => exact lev_turn kI1 kEq (by omega) (by omega) hall)
      · rintro ⟨kC, kCt⟩ kU kH kTk _ ⟨kI1, kI2, kI3⟩ kFr kNews
        clear lF' lN'
        (try dsimp only [kstB] at kFr kI1 kI2 kI3); (try dsimp only at kNews); (try k_fold)
        (try dsimp only)
        k_steps
        all_goals (try k_data)
        (rename News _ _ _ _ => nE'); (rename IntsAre _ (List.take _ _) => iE')
        (refine' cn_call ?k1 ?k2 ?k3 ?k4 ?k5 (list_of_news nE') iE' ?k6 (take_bytes hall) ?k7 ?k8 ?_; (case k1 => assumption); (case k2 => assumption); (case k3 => assumption); (case k4 => assumption); (case k5 => exact rfl); (case k6 => rw [List.length_take]; omega); (case k7 => ktr_room); (case k8 => ktr_units))
        intro tt h9 tk9 F9 keep9
        have N9 := news_keep nE' keep9
        clear nE' iE' keep9
        (try dsimp only)
        k_steps
        all_goals (try k_data)
        · unfold Stop; refine retErr _ _ (told_check (by assumption) hall kI1 (by omega) (by assumption)) _ _ _ _ _ _ _ (by assumption) (by assumption) (by assumption) (by assumption)
        · (rename News s.heap _ _ _ => nE'); (rename IntsAre _ (List.take _ _) => iE'); (rename Fr s.heap _ _ _ => fE')
          refine retOk _ (told_fine (by assumption) hall kI1 (by omega) (by assumption)) _ _ _ _ _ (by assumption) fE'.keep (nE' _ (.head _)).1 iE' (nE' _ (.head _)).2.2
end Mine
end
section
open PySem PySem.W PySem.Spec PySem.Calls PyProof.Rows
set_option maxRecDepth 100000
namespace Mine

def LeaveT (h₀ : Heap) (L : Addr) (m : Str → Option Value) (g : Heap) (R : Result → Shared → Prop) (v : Value) (s' : Shared) : Prop :=
  (∃ g' L' m', KtsTurn [L] g g' ∧ Fr g' L' s'.heap m') ∧ (Fr h₀ L s'.heap m → (∀ b o, b ≠ L → g.get? b = some o → s'.heap.get? b = some o) → R (.ok (.ret v)) s')

section
variable {prog : Program} {w : World} {A A₀ : Around} {s : Shared} {K : Frag} {L : Addr} {h₀ base : Heap} {m mg mb : Str → Option Value} {p : Program} {loose : List Str} {mean : ExcName → Option Value}
theorem enter_try {env : Env} {R : Result → Shared → Prop} {name qual : Str} {params : Arguments} {body : List Stmt} {scope : Scope} {dV kV doc pm cdv ct oc : Value} {an od : Option Addr} {osl : Array (Option Value)} {f : Addr} {args : Args} {binds : List (Str × Value)}
    (B : Below A₀ base [] h₀) (F : Fr h₀ L s.heap m) (X₀ : K.In h₀) (T : Top p loose mean mg mb h₀) (hA : A.frames = some [env]) (hf : env.frame = some L) (hke : env.scope.kind = .function)
    (ho : K.lookup f = some ⟨oc, od, .func (fnOf name qual params body scope dV kV doc pm an cdv ct), osl⟩) (hcd : codeIn K cdv qual = true) (hroom : A.depth < recursionLimit)
    (hbind : BindsTo s (fnOf name qual params body scope dV kV doc pm an cdv ct) args binds) (hloc : ∀ y ∈ binds, scope.names.lookup y.1 = some .local)
    (h : ∀ g L' h₁, g = s.heap → Fr g L' h₁ (fun y => binds.reverse.lookup y) → News g L' h₁ [] → Below A base [env] g → K.In g → Top p loose mean mg mb g →
      wpAny (model prog w) (A.deeper (envOf qual scope L' f cdv)) (execs body (envOf qual scope L' f cdv))
        (fun fl s' => LeaveT h₀ L m g R (match fl with | .ret v => v | _ => .none) s')
        (fun e s' => wpAny (model prog w) (A.deeper (envOf qual scope L' f cdv)) (leaving (envOf qual scope L' f cdv) e) (fun _ s'' => R (.error e) s'') (fun e' s'' => R (.error e') s'') s')
        { s with heap := h₁, toks := s.toks + binds.length })
    (hco : scope.isCoroutine = false) (hgen : scope.isGenerator = false) (hk : scope.kind = .function)
    (hcell : ∀ x ∈ scope.names, x.2 ≠ .cell) : codeAny (model prog w) A (.call (.ref f) args) R s := by
  obtain ⟨FG, BG, st, lv⟩ := groundX (R := R) B F (News.nil : News h₀ L s.heap []) hA hf hke
  refine codeAny_call_def (fd := fnX name qual params body scope [] dV kV doc pm an cdv ct) (body := body) (binds := binds) hroom ((X₀.keeps F.keep) _ _ ho) rfl (T.nolimit.keeps F.keep) (codeRec_of (X₀.keeps F.keep) hcd) rfl hbind hcell hloc (fun h₁ hns hk₁ => ?_) hco hgen hk
  refine wpAny_mono (h _ s.heap.objs.size h₁ rfl ⟨hns, fun b o e => hk₁ b o e, Nat.le_refl _⟩ News.nil BG (X₀.keeps F.keep) (T.keeps F.keep)) (fun fl s' hl => ?_) fun _ _ y => y
  obtain ⟨⟨g', L', m', TT, F'⟩, k⟩ := hl
  have keep : ∀ b o, b ≠ L → s.heap.get? b = some o → s'.heap.get? b = some o := fun b o hb e => F'.keep b o (TT.other b o e (by rw [List.mem_singleton]; exact hb))
  refine k ⟨?_, fun b o e => keep b o (fun z => ?_) (F.keep b o e), F.above⟩ keep
  · obtain ⟨o, es, ep, ho, hd, r⟩ := F.ns
    obtain ⟨sl, hs⟩ := TT.frame L o ho (List.mem_singleton.mpr rfl)
    exact ⟨_, es, ep, F'.keep _ _ hs, hd, r⟩
  · rw [z, kts_self F] at e
    cases e
theorem leaveT_0 {R : Result → Shared → Prop} {v : Value} {s' : Shared} {g : Heap} {L' : Addr} {m' : Str → Option Value} (F' : Fr g L' s'.heap m') (k : Fr h₀ L s'.heap m → (∀ b o, b ≠ L → g.get? b = some o → s'.heap.get? b = some o) → R (.ok (.ret v)) s') : LeaveT h₀ L m g R v s' :=
  ⟨⟨g, L', m', KtsTurn.refl, F'⟩, k⟩
theorem leaveT_1 {R : Result → Shared → Prop} {v : Value} {s' : Shared} {g g' : Heap} {L' : Addr} {m' : Str → Option Value} (TT : KtsTurn [L] g g') (F' : Fr g' L' s'.heap m') (k : Fr h₀ L s'.heap m → (∀ b o, b ≠ L → g.get? b = some o → s'.heap.get? b = some o) → R (.ok (.ret v)) s') : LeaveT h₀ L m g R v s' :=
  ⟨⟨g', L', m', TT, F'⟩, k⟩
end

theorem turn_fresh {fs : List Addr} {g g' : Heap} {b : Addr} (T : KtsTurn fs g g') (h : g'.get? b = none) : g.get? b = none := by
  cases q : g.get? b with
  | none => rfl
  | some o =>
    obtain ⟨sl, hs⟩ := T.up q
    rw [h] at hs
    cases hs
theorem islist_keep {h h' : Heap} {l : Addr} {vs : Array Value} (x : h.IsList l vs) (k : ∀ b o, h.get? b = some o → h'.get? b = some o) : h'.IsList l vs := by
  obtain ⟨o, ho, r⟩ := x
  exact ⟨o, k _ _ ho, r⟩
theorem fault_inst {g h : Heap} {L e d : Addr} {fs : Array Value} {sl : Array (Option Value)} {od : Obj} {r : List (Addr × Obj)} (N : News g L h ((e, ⟨.ref 51, some d, .fields fs, sl⟩) :: (d, od) :: r)) : InstAt h e ⟨.ref 51, some d, .fields fs, sl⟩ 51 (some od) :=
  ⟨(N _ (.head _)).1, rfl, rfl, (N _ (.tail _ (.head _))).1⟩
local macro_rules | `(tactic| walk_at "getAttr ref") => `(tactic| (k_here; k_dflt (refine' fe_get (C := 51) ?k1 ?k2 ?k3 ?k4 ?k5 ?k6 ?k7 ?_; (case k1 => exact Frag.In.keeps (by assumption) (Fr.keep (by assumption))); (case k2 => exact fault_inst (by assumption)); (case k3 => k_is); (case k4 => k_is); (case k5 => k_is); (case k6 => refine findObj_own (attr := none) (by k_is) (by k_is) (by k_is) (by assumption)); (case k7 => exact rfl); k_whole)))
local macro_rules | `(tactic| walk_at "call ref") => `(tactic| (k_here; (with_reducible show wpAny _ _ (call (Value.ref 67) _) _ _ _); refine stop_of ?_))

set_option maxHeartbeats 4000000 in
theorem tl_call {w : World} {mg mb : Str → Option Value} {loose : List Str} {mean : ExcName → Option Value} {dp un : Nat} {gd : Option (List Code)} {cn : Str} {cs : Scope} {L a : Addr} {ccd : Value} {cl : List (Str × Addr)}
    {A₀ : Around} {base h₀ : Heap} {m : Str → Option Value} {s : Shared} {Q E : Value → Shared → Prop} {l : Addr} {vs : List Value} {ns : List Int}
    (B : Below A₀ base [] h₀) (F : Fr h₀ L s.heap m) (X : (Mine.hd.heap_39 w.params).In h₀) (T : Top Mine.hd.view_39 loose mean mg mb h₀) (hk : cs.kind = .function)
    (hl : s.heap.IsList l vs.toArray) (hi : IntsAre vs ns) (hlen : ns.length < 900) (hd : dp + 7 < recursionLimit) (hu : un + 56 < cLine)
    (XB : (Mine.hd.heap_39 w.params).In base) (TB : Top Mine.hd.view_39 loose mean mg mb base)
    (retOk : ∀ body, told ns = .ok body → ∀ t tt l2 vs2 nn h' tk', Fr h₀ L h' m → (∀ b o, b ≠ L → s.heap.get? b = some o → h'.get? b = some o) → h'.get? t = some { cls := .type "tuple", data := .seq #[.str "" tt, .ref l2] } → h'.get? l2 = some (listOf vs2.toArray nn) → IntsAre vs2 body →
      s.heap.get? t = none → s.heap.get? l2 = none → @LT.lt Nat _ l2 t → Q (.ref t) { s with heap := h', toks := tk' })
    (retErr : ∀ wh n, told ns = .err wh n → ∀ t t1 t2 h' tk', Fr h₀ L h' m → (∀ b o, b ≠ L → s.heap.get? b = some o → h'.get? b = some o) → h'.get? t = some { cls := .type "tuple", data := .seq #[.str wh t1, .int n t2] } → s.heap.get? t = none → Q (.ref t) { s with heap := h', toks := tk' }) :
    wpAny (model PySem.Challenge.rw_pq0744_01.row.prog w) (ktrTop dp un gd cn cs L a ccd cl []) (call (.ref 191) [.ref l]) Q E s := by
  w_top off
  revert X; k_fill; intro X
  refine wpAny_call ?_
  (refine' enter_try ?k1 ?k2 ?k3 ?k5 ?kA ?kF ?kK ?k6 ?k7 ?k8 ?k9 ?kB ?_ ?c2 ?c3 ?c4 ?c5; (case kA => exact rfl); (case kF => exact rfl); (case kK => assumption); (case k1 => assumption); (case k2 => assumption); (case k3 => assumption); (case k5 => assumption); (case k6 => k_is); (case k7 => k_is); (case k8 => ktr_room); (case k9 => exact BindsTo.of_eq rfl); (case c5 => decide); (case kB => exact locs rfl); (case c2 => exact rfl); (case c3 => exact rfl); (case c4 => exact rfl))
  intro g' L' h' hg F' N' B' X' T'
  subst hg
  k_with_none
  (try dsimp only); (try k_fold)
  k_steps
  all_goals (try k_data)
  unfold Stop
  have keepL : ∀ b o, s.heap.get? b = some o → h'.get? b = some o := F'.keep
  have hl' : h'.IsList l vs.toArray := islist_keep hl keepL
  refine cb_call (l := l) B' F' X' T' rfl hl' (by assumption) hlen (by ktr_room) (by ktr_units) ?ok ?err
  · intro body hb t vs' nn h2 tk2 F2 keep2 ht hi2 hn2
    have N2 := one_news F' ht hn2
    clear F'
    (try dsimp only)
    k_steps
    all_goals (try k_data)
    (rename News s.heap _ _ _ => nE'); (rename Fr s.heap _ _ _ => fE')
    refine leaveT_0 fE' fun FF kk => ?_
    exact retOk body hb _ _ _ _ _ _ _ FF kk (nE' _ (.head _)).1 (nE' _ (.tail _ (.head _))).1 hi2 (nE' _ (.head _)).2.2 (nE' _ (.tail _ (.head _))).2.2 (by assumption)
  · intro wh n hw e d es t1 t2 h2 tk2 R U gw ga
    (try dsimp only)
    k_dflt (refine' caught_D R F' B' U XB TB ?ex ?q ?k ?hk ?hlo ?hx ?hd)
    (case ex => k_is)
    (case q => kts_isx)
    (case hk => exact rfl)
    (case hlo => exact rfl)
    (case hx => exact rfl)
    (case hd => decide)
    intro h3 g3 oe fs tk3 T3 F3 N3 hc hd hdd B3 X3 P3
    obtain ⟨_, _, _, sl⟩ := oe
    dsimp only at hc hd hdd
    subst hc hd hdd
    clear F' B' X' T' N' R U
    (try dsimp only)
    k_steps
    all_goals (try k_data)
    (rename News g3 _ _ _ => nE'); (rename Fr g3 _ _ _ => fE')
    refine leaveT_1 T3 fE' fun FF kk => ?_
    exact retErr wh n hw _ _ _ _ _ FF kk (nE' _ (.head _)).1 (turn_fresh T3 (nE' _ (.head _)).2.2)
end Mine
end
section
open PySem PySem.W PySem.Spec PySem.Calls PyProof.Rows
set_option maxRecDepth 100000
namespace Mine

def encR (r : Int) : List Int := if r ≤ 127 then [r] else if r / 128 ≤ 127 then [128 + r % 128, r / 128] else [128 + r % 128, 128 + r / 128 % 128, r / 128 / 128]
def zig (n : Int) : Int := if 0 ≤ n then 2 * n else -2 * n - 1
def enc (n : Int) : List Int := encR (zig n)
theorem fdiv128 (a : Int) : a.fdiv 128 = a / 128 := Int.fdiv_eq_ediv_of_nonneg a (by decide)
theorem fmod128 (a : Int) : a.fmod 128 = a % 128 := Int.fmod_eq_emod_of_nonneg a (by decide)
theorem zig_pos {n : Int} (h : 0 ≤ n) : zig n = 2 * n := if_pos h
theorem zig_neg {n : Int} (h : ¬ 0 ≤ n) : zig n = -2 * n - 1 := if_neg h
theorem er1 {r : Int} (h : ¬ 127 < r) : encR r = [r] := if_pos (by omega)
theorem er2 {r : Int} (h : 127 < r) (h2 : ¬ 127 < r.fdiv 128) : encR r = [128 + r.fmod 128, r.fdiv 128] := by
  rw [fdiv128] at *
  rw [fmod128]
  unfold encR
  rw [if_neg (by omega), if_pos (by omega)]
theorem er3 {r : Int} (h : 127 < r) (h2 : 127 < r.fdiv 128) : encR r = [128 + r.fmod 128, 128 + (r.fdiv 128).fmod 128, (r.fdiv 128).fdiv 128] := by
  simp only [fdiv128, fmod128] at *
  unfold encR
  rw [if_neg (by omega), if_neg (by omega)]
theorem ints_app {vs ws : List Value} {os us : List Int} (h : IntsAre vs os) (k : IntsAre ws us) : IntsAre (vs ++ ws) (os ++ us) := by
  induction h with
  | nil => exact k
  | cons n t _ ih => exact .cons n t ih
theorem ints1 {vs : List Value} {os : List Int} {a : Int} {t : Tok} (h : IntsAre vs os) : IntsAre (vs ++ [.int a t]) (os ++ [a]) := ints_app h (.cons _ _ .nil)
theorem ints2 {vs : List Value} {os : List Int} {a b : Int} {t u : Tok} (h : IntsAre vs os) : IntsAre (vs ++ [.int a t, .int b u]) (os ++ [a, b]) := ints_app h (.cons _ _ (.cons _ _ .nil))
theorem ints3 {vs : List Value} {os : List Int} {a b c : Int} {t u v : Tok} (h : IntsAre vs os) : IntsAre (vs ++ [.int a t, .int b u, .int c v]) (os ++ [a, b, c]) := ints_app h (.cons _ _ (.cons _ _ (.cons _ _ .nil)))
theorem not_three {x y z b : Addr} {o p q : Obj} (h3 : b ≠ z) (h1 : b ≠ x) (h2 : b ≠ y) : ∀ r ∈ [(x, o), (y, p), (z, q)], r.1 ≠ b := by
  intro r hr
  rcases List.mem_cons.mp hr with rfl | hr
  · exact Ne.symm h1
  · rcases List.mem_cons.mp hr with rfl | hr
    · exact Ne.symm h2
    · rw [List.mem_singleton.mp hr]
      exact Ne.symm h3
theorem whl_both {p : Prop} [Decidable p] {T F : Prop} (t : p → T) (f : ¬ p → F) : WhlIf (decide p) T F := by
  unfold WhlIf
  by_cases q : p
  · rw [if_pos (decide_eq_true q)]; exact t q
  · rw [if_neg (by simpa using q)]; exact f q
local macro_rules | `(tactic| walk_at "WhlIf") => `(tactic| (first | (refine WhlIf.yes (decide_eq_true (by (try simp only [fdiv128, fmod128] at *); omega)) ?_) | (refine WhlIf.no (decide_eq_false (by (try simp only [fdiv128, fmod128] at *); omega)) ?_) | (refine whl_both ?_ ?_ <;> intro)))

local macro_rules | `(tactic| size_fits) => `(tactic| (simp only [Array.size_push, List.size_toArray]; rw [PySem.sizeLine_eq]; omega))
abbrev wObj (dx : Addr) : Obj := instObj 112 dx
abbrev wDict (P : Params) (lo : Addr) (tk : Tok) : Obj := dictOf [⟨PyData.keyHash P "out", .str "out" tk, .ref lo⟩] 1

set_option maxHeartbeats 4000000 in
theorem wn_call {w : World} {mg mb : Str → Option Value} {loose : List Str} {mean : ExcName → Option Value} {dp un : Nat} {gd : Option (List Code)} {cn : Str} {cs : Scope} {L a : Addr} {ccd : Value} {cl : List (Str × Addr)} {outer : List Env}
    {A₀ : Around} {base h₀ : Heap} {m : Str → Option Value} {s : Shared} {Q E : Value → Shared → Prop} {x dx lo nn : Nat} {ko : Tok} {vs : List Value} {os : List Int} {n : Int} {tn : Tok}
    (B : Below A₀ base outer h₀) (F : Fr h₀ L s.heap m) (X : (Mine.hd.heap_39 w.params).In h₀) (T : Top Mine.hd.view_39 loose mean mg mb h₀) (hk : cs.kind = .function)
    (N : News h₀ L s.heap [(x, wObj dx), (dx, wDict w.params lo ko), (lo, listOf vs.toArray nn)]) (n1 : x ≠ dx) (n2 : x ≠ lo) (n3 : dx ≠ lo) (hi : IntsAre vs os) (hos : os.length < 200) (hn : -1000000 < n ∧ n < 1000000)
    (hd : dp + 4 < recursionLimit) (hu : un + 32 < cLine)
    (ret : ∀ vs' nn' h' tk', Fr h₀ L h' m → News h₀ L h' [(x, wObj dx), (dx, wDict w.params lo ko), (lo, listOf vs'.toArray nn')] → IntsAre vs' (os ++ enc n) → (∀ b o, s.heap.get? b = some o → b ≠ lo → b ≠ x → b ≠ dx → h'.get? b = some o) → Q .none { s with heap := h', toks := tk' }) :
    wpAny (model PySem.Challenge.rw_pq0744_01.row.prog w) (ktrTop dp un gd cn cs L a ccd cl outer) (call (.ref 95) [.ref x, .int n tn]) Q E s := by
  w_top off
  revert X; k_fill; intro X
  refine wpAny_call ?_
  (refine' enter_news ?k1 ?k2 ?k3 ?k4 ?k5 ?kA ?kF ?kK ?k6 ?k7 ?k8 ?k9 ?kB ?_ ?c2 ?c3 ?c4 ?c5; (case kA => exact rfl); (case kF => exact rfl); (case kK => assumption); (case k1 => assumption); (case k2 => assumption); (case k3 => assumption); (case k4 => exact N); (case k5 => assumption); (case k6 => k_is); (case k7 => k_is); (case k8 => ktr_room); (case k9 => exact BindsTo.of_eq rfl); (case c5 => decide); (case kB => exact locs rfl); (case c2 => exact rfl); (case c3 => exact rfl); (case c4 => exact rfl))
  intro g' L' h' hg F' N' B' X' T'
  have hv : vs.length < 200 := by rw [IntsAre.length hi]; exact hos
  k_with_none
  (try dsimp only); (try k_fold)
  k_steps
  all_goals (try k_data)
  all_goals (
    (rename News h₀ L _ _ => nE'); (rename Fr g' _ _ _ => fE')
    simp only [List.push_toArray, List.append_assoc, List.cons_append, List.nil_append] at nE'
    refine ret _ _ _ _ (by assumption) nE' ?_ (fun b o e n1 n2 n3 => fE'.keep b o (hg b o e (not_three n1 n2 n3)))
    unfold enc
    first | rw [zig_pos (by assumption)] | rw [zig_neg (by assumption)]
    first | (rw [er3 (by assumption) (by assumption)]; exact ints3 hi) | (rw [er2 (by assumption) (by assumption)]; exact ints2 hi) | (rw [er1 (by assumption)]; exact ints1 hi))
end Mine
end
section
open PySem PySem.W PySem.Spec PySem.Calls PyProof.Rows
set_option maxRecDepth 100000
namespace Mine

theorem encR_len (r : Int) : 1 ≤ (encR r).length ∧ (encR r).length ≤ 3 := by
  unfold encR
  split
  · simp
  · split <;> simp
theorem enc_len (n : Int) : 1 ≤ (enc n).length ∧ (enc n).length ≤ 3 := encR_len _
theorem encs_len (l : List Int) : l.length ≤ (l.flatMap enc).length ∧ (l.flatMap enc).length ≤ 3 * l.length := by
  induction l with
  | nil => exact ⟨by simp, by simp⟩
  | cons n r ih =>
    have := enc_len n
    rw [List.flatMap_cons, List.length_append, List.length_cons]
    omega
local macro_rules | `(tactic| walk_at "pyIter ref") => `(tactic| (k_here; refine stop_of ?_))
local macro_rules | `(tactic| walk_at "call ref") => `(tactic| (k_here; (with_reducible show wpAny _ _ (call (Value.ref 95) _) _ _ _); refine stop_of ?_))

set_option maxHeartbeats 4000000 in
theorem ws_call {w : World} {mg mb : Str → Option Value} {loose : List Str} {mean : ExcName → Option Value} {dp un : Nat} {gd : Option (List Code)} {cn : Str} {cs : Scope} {L a : Addr} {ccd : Value} {cl : List (Str × Addr)} {outer : List Env}
    {A₀ : Around} {base h₀ : Heap} {m : Str → Option Value} {s : Shared} {Q E : Value → Shared → Prop} {x dx lo nn lr : Nat} {ko : Tok} {vs vr : List Value} {os nums : List Int}
    (B : Below A₀ base outer h₀) (F : Fr h₀ L s.heap m) (X : (Mine.hd.heap_39 w.params).In h₀) (T : Top Mine.hd.view_39 loose mean mg mb h₀) (hk : cs.kind = .function)
    (N : News h₀ L s.heap [(x, wObj dx), (dx, wDict w.params lo ko), (lo, listOf vs.toArray nn)]) (n1 : x ≠ dx) (n2 : x ≠ lo) (n3 : dx ≠ lo) (hi : IntsAre vs os)
    (hr : s.heap.IsList lr vr.toArray) (hri : IntsAre vr nums) (r1 : lr ≠ lo) (r2 : lr ≠ x) (r3 : lr ≠ dx) (hln : nums.length < 20) (hb : ∀ n ∈ nums, -1000000 < n ∧ n < 1000000)
    (hos : os.length < 100)
    (hd : dp + 6 < recursionLimit) (hu : un + 48 < cLine)
    (ret : ∀ vs' nn' h' tk', Fr h₀ L h' m → News h₀ L h' [(x, wObj dx), (dx, wDict w.params lo ko), (lo, listOf vs'.toArray nn')] → IntsAre vs' (os ++ enc nums.length ++ nums.flatMap enc) → (∀ b o, s.heap.get? b = some o → b ≠ lo → b ≠ x → b ≠ dx → h'.get? b = some o) → Q .none { s with heap := h', toks := tk' }) :
    wpAny (model PySem.Challenge.rw_pq0744_01.row.prog w) (ktrTop dp un gd cn cs L a ccd cl outer) (call (.ref 109) [.ref x, .ref lr]) Q E s := by
  w_top off
  revert X; k_fill; intro X
  refine wpAny_call ?_
  (refine' enter_news ?k1 ?k2 ?k3 ?k4 ?k5 ?kA ?kF ?kK ?k6 ?k7 ?k8 ?k9 ?kB ?_ ?c2 ?c3 ?c4 ?c5; (case kA => exact rfl); (case kF => exact rfl); (case kK => assumption); (case k1 => assumption); (case k2 => assumption); (case k3 => assumption); (case k4 => exact N); (case k5 => assumption); (case k6 => k_is); (case k7 => k_is); (case k8 => ktr_room); (case k9 => exact BindsTo.of_eq rfl); (case c5 => decide); (case kB => exact locs rfl); (case c2 => exact rfl); (case c3 => exact rfl); (case c4 => exact rfl))
  intro g' L' h' hg F' N' B' X' T'
  have hr' : g'.IsList lr vr.toArray := by
    obtain ⟨o, ho, z⟩ := hr
    exact ⟨o, hg _ _ ho (not_three r1 r2 r3), z⟩
  have hlv : vr.length < 20 := by rw [IntsAre.length hri]; exact hln
  k_with_none
  (try dsimp only); (try k_fold)
  k_steps
  all_goals (try k_data)
  unfold Stop
  refine wn_call (os := os) B' F' X' T' rfl N' n1 n2 n3 hi (by omega) (by omega) (by ktr_room) (by ktr_units) ?_
  intro vs1 nn1 h1 tk1 F1 N1 hi1 keep1
  clear F' N'
  (try dsimp only)
  k_steps
  all_goals (try k_data)
  unfold Stop
  (rename IntsAre vs1 _ => hi1); (rename Fr g' _ _ _ => lF'); (rename News g' _ _ _ => lN')
  have e1 := enc_len (nums.length : Int)
  (with_unfolding_all refine' kst_list (σ := List Value × List Int × Nat) (fun c => [(x, wObj dx), (dx, wDict w.params lo ko), (lo, listOf c.1.toArray c.2.2)]) (fun _ => []) (fun c => IntsAre c.1 c.2.1) [] (fun pre c => c.2.1 = os ++ enc nums.length ++ pre.flatMap enc) (vs1, os ++ enc nums.length, nn1) (by rfl) (by exact hr') (by exact hri) lF' (by exact lN') hi1 (fun _ hp => nomatch hp) (by simp) ?_ ?_)
  · rintro ⟨vs2, os2, nn2⟩ pre post n t u h2 tk2 own hsp hmem hoff hf2 hp2 F2 N2
    clear lF' lN'
    (try dsimp only [kstB] at F2); (try dsimp only at N2 hf2 hp2)
    have hl2 : os2.length < 190 := by
      have q1 := (encs_len pre).2
      have q2 := congrArg List.length hsp
      rw [List.length_append, List.length_cons] at q2
      rw [hp2, List.length_append, List.length_append]
      omega
    have N2' : News g' L' h2 [(x, wObj dx), (dx, wDict w.params lo ko), (lo, listOf vs2.toArray nn2)] := fun p hp => N2 p (List.mem_append_left _ hp)
    (try k_fold)
    k_steps
    all_goals (try k_data)
    unfold Stop
    (rename Fr g' _ _ _ => lF2)
    refine wn_call (os := os2) B' lF2 X' T' rfl N2' n1 n2 n3 hf2 (by omega) (hb _ hmem) (by ktr_room) (by ktr_units) ?_
    intro vs3 nn3 h3 tk3 F3 N3 hi3 keep3
    have N3' : News g' L' h3 ([(x, wObj dx), (dx, wDict w.params lo ko), (lo, listOf vs3.toArray nn3)] ++ own) := fun p hp => by
      rcases List.mem_append.mp hp with hp | hp
      · exact N3 p hp
      · refine ⟨keep3 _ _ (N2 p (List.mem_append_right _ hp)).1 (hoff p hp lo (by simp)) (hoff p hp x (by simp)) (hoff p hp dx (by simp)), (N2 p (List.mem_append_right _ hp)).2⟩
    (try dsimp only)
    k_steps
    all_goals (try k_data)
  · rintro ⟨vs2, os2, nn2⟩ u h2 tk2 hf2 hp2 F2 N2
    clear lF' lN'
    (try dsimp only [kstB] at F2); (try dsimp only at N2 hf2 hp2)
    (try k_fold)
    (try dsimp only)
    k_steps
    all_goals (try k_data)
    (rename News h₀ L _ _ => nE'); (rename Fr g' _ h2 _ => fE'); (rename IntsAre vs2 _ => hi2')
    rw [hp2] at hi2'
    exact ret _ _ _ _ (by assumption) nE' hi2' (fun b o e n1 n2 n3 => fE'.keep b o (hg b o e (not_three n1 n2 n3)))
end Mine
end
section
open PySem PySem.W PySem.Spec PySem.Calls PyProof.Rows
set_option maxRecDepth 100000
namespace Mine

local macro_rules | `(tactic| walk_at "pad") => `(tactic| fail "pad")
local macro_rules | `(tactic| walk_at "exec While Compare cons nil") => `(tactic| (k_here; k_dflt (refine whl_start 5 ?_)))
local macro_rules | `(tactic| walk_at "WhlIf") => `(tactic| (first | (refine WhlIf.yes (decide_eq_true (by omega)) ?_) | (refine WhlIf.no (decide_eq_false (by omega)) ?_)))
local macro_rules | `(tactic| k_room) => `(tactic| ktr_room)
abbrev rObj (dr : Addr) : Obj := instObj 180 dr
abbrev rDict (P : Params) (ld : Addr) (p : Int) (k1 k2 tp : Tok) : Obj := dictOf [⟨PyData.keyHash P "data", .str "data" k1, .ref ld⟩, ⟨PyData.keyHash P "at", .str "at" k2, .int p tp⟩] 2
def unz (r : Int) : Int := if r % 2 = 1 then -(r + 1) / 2 else r / 2
theorem fdiv2 (a : Int) : a.fdiv 2 = a / 2 := Int.fdiv_eq_ediv_of_nonneg a (by decide)
theorem fmod2 (a : Int) : a.fmod 2 = a % 2 := Int.fmod_eq_emod_of_nonneg a (by decide)
theorem unz_odd {r V : Int} (h : V.fmod 2 = 1) (e : V = r) : unz r = (-(V + 1)).fdiv 2 := by
  subst e
  rw [fmod2] at h
  rw [fdiv2]
  exact if_pos h
theorem unz_even {r V : Int} (h : ¬ V.fmod 2 = 1) (e : V = r) : unz r = V.fdiv 2 := by
  subst e
  rw [fmod2] at h
  rw [fdiv2]
  exact if_neg h
theorem getD_drop {ns rest : List Int} {l : List Int} {p : Int} (h0 : 0 ≤ p) (h : ns.drop p.toNat = l ++ rest) (i : Nat) (hi : i < l.length) : ns.getD (p.toNat + i) 0 = l.getD i 0 := by
  have e : ns.getD (p.toNat + i) 0 = (ns.drop p.toNat).getD i 0 := by
    rw [List.getD_eq_getElem?_getD, List.getD_eq_getElem?_getD, List.getElem?_drop]
  rw [e, h, List.getD_eq_getElem?_getD, List.getElem?_append_left hi, ← List.getD_eq_getElem?_getD]
theorem drop_fits {ns rest l : List Int} {p : Int} (h : ns.drop p.toNat = l ++ rest) : l = [] ∨ p.toNat + l.length ≤ ns.length := by
  have := congrArg List.length h
  rw [List.length_drop, List.length_append] at this
  cases l with
  | nil => exact .inl rfl
  | cons a b => right; rw [List.length_cons] at *; omega

set_option maxHeartbeats 4000000 in
theorem rn_call {w : World} {mg mb : Str → Option Value} {loose : List Str} {mean : ExcName → Option Value} {dp un : Nat} {gd : Option (List Code)} {cn : Str} {cs : Scope} {L a : Addr} {ccd : Value} {cl : List (Str × Addr)} {outer : List Env}
    {A₀ : Around} {base h₀ : Heap} {m : Str → Option Value} {s : Shared} {Q E : Value → Shared → Prop} {x dr ld nl : Nat} {k1 k2 tp : Tok} {vs : List Value} {ns rest : List Int} {p r : Int}
    (B : Below A₀ base outer h₀) (F : Fr h₀ L s.heap m) (X : (Mine.hd.heap_39 w.params).In h₀) (T : Top Mine.hd.view_39 loose mean mg mb h₀) (hk : cs.kind = .function)
    (N : News h₀ L s.heap [(x, rObj dr), (dr, rDict w.params ld p k1 k2 tp), (ld, listOf vs.toArray nl)]) (n1 : x ≠ dr)
    (hi : IntsAre vs ns) (r1 : ld ≠ x) (r2 : ld ≠ dr) (hln : ns.length < 900) (hp : 0 ≤ p) (hdr : ns.drop p.toNat = encR r ++ rest) (hr0 : 0 ≤ r) (hr1 : r < 2000000)
    (hd : dp + 6 < recursionLimit) (hu : un + 48 < cLine)
    (ret : ∀ p' tv tp' h' tk', p' = p + (encR r).length → Fr h₀ L h' m → News h₀ L h' [(x, rObj dr), (dr, rDict w.params ld p' k1 k2 tp'), (ld, listOf vs.toArray nl)] → (∀ b o, s.heap.get? b = some o → b ≠ ld → b ≠ x → b ≠ dr → h'.get? b = some o) → Q (.int (unz r) tv) { s with heap := h', toks := tk' }) :
    wpAny (model PySem.Challenge.rw_pq0744_01.row.prog w) (ktrTop dp un gd cn cs L a ccd cl outer) (call (.ref 158) [.ref x]) Q E s := by
  w_top off
  revert X; k_fill; intro X
  refine wpAny_call ?_
  (refine' enter_news ?k1 ?k2 ?k3 ?k4 ?k5 ?kA ?kF ?kK ?k6 ?k7 ?k8 ?k9 ?kB ?_ ?c2 ?c3 ?c4 ?c5; (case kA => exact rfl); (case kF => exact rfl); (case kK => assumption); (case k1 => assumption); (case k2 => assumption); (case k3 => assumption); (case k4 => exact N); (case k5 => assumption); (case k6 => k_is); (case k7 => k_is); (case k8 => ktr_room); (case k9 => exact BindsTo.of_eq rfl); (case c5 => decide); (case kB => exact locs rfl); (case c2 => exact rfl); (case c3 => exact rfl); (case c4 => exact rfl))
  intro g' L' h' hg F' N' B' X' T'
  have hv : vs.length < 900 := by rw [IntsAre.length hi]; exact hln
  k_with_none
  by_cases c1 : r ≤ 127
  · have e1 : encR r = [r] := if_pos c1
    rw [e1] at hdr
    have g0 : ns.getD p.toNat 0 = r := getD_drop hp hdr 0 (by simp)
    have hf : p < ns.length := by rcases drop_fits hdr with q | q <;> simp at q; omega
    clear hdr
    (try dsimp only); (try k_fold)
    k_steps
    all_goals (try k_data)
    all_goals (try (exfalso; omega))
    all_goals (
      (rename News h₀ L _ _ => nE'); (rename Fr g' _ _ _ => fE')
      refine Eq.mp (congrArg (fun z => Q (Value.int z _) _) (?e : unz r = _)) (ret _ _ _ _ _ ?pe (by assumption) nE' (fun b o e n1 n2 n3 => fE'.keep b o (hg b o e (not_three n1 n2 n3))))
      (case e => first | exact unz_odd (by assumption) (by omega) | exact unz_even (by assumption) (by omega))
      (case pe => rw [e1]; simp only [List.length_cons, List.length_nil]; omega))
  · by_cases c2 : r / 128 ≤ 127
    · have e1 : encR r = [128 + r % 128, r / 128] := by unfold encR; rw [if_neg c1, if_pos c2]
      rw [e1] at hdr
      have g0 : ns.getD p.toNat 0 = 128 + r % 128 := getD_drop hp hdr 0 (by simp)
      have g1 : ns.getD (p + 1).toNat 0 = r / 128 := by
        have := getD_drop hp hdr 1 (by simp)
        rw [show p.toNat + 1 = (p + 1).toNat by omega] at this
        exact this
      have hf : p + 1 < ns.length := by rcases drop_fits hdr with q | q <;> simp at q; omega
      clear hdr
      (try dsimp only); (try k_fold)
      k_steps
      all_goals (try k_data)
      all_goals (try (exfalso; omega))
      all_goals (
        (rename News h₀ L _ _ => nE'); (rename Fr g' _ _ _ => fE')
        refine Eq.mp (congrArg (fun z => Q (Value.int z _) _) (?e : unz r = _)) (ret _ _ _ _ _ ?pe (by assumption) nE' (fun b o e n1 n2 n3 => fE'.keep b o (hg b o e (not_three n1 n2 n3))))
        (case e => first | exact unz_odd (by assumption) (by omega) | exact unz_even (by assumption) (by omega))
        (case pe => rw [e1]; simp only [List.length_cons, List.length_nil]; omega))
    · have e1 : encR r = [128 + r % 128, 128 + r / 128 % 128, r / 128 / 128] := by unfold encR; rw [if_neg c1, if_neg c2]
      rw [e1] at hdr
      have g0 : ns.getD p.toNat 0 = 128 + r % 128 := getD_drop hp hdr 0 (by simp)
      have g1 : ns.getD (p + 1).toNat 0 = 128 + r / 128 % 128 := by
        have := getD_drop hp hdr 1 (by simp)
        rw [show p.toNat + 1 = (p + 1).toNat by omega] at this
        exact this
      have g2 : ns.getD (p + 1 + 1).toNat 0 = r / 128 / 128 := by
        have := getD_drop hp hdr 2 (by simp)
        rw [show p.toNat + 2 = (p + 1 + 1).toNat by omega] at this
        exact this
      have hf : p + 2 < ns.length := by rcases drop_fits hdr with q | q <;> simp at q; omega
      clear hdr
      (try dsimp only); (try k_fold)
      k_steps
      all_goals (try k_data)
      all_goals (try (exfalso; omega))
      all_goals (
        (rename News h₀ L _ _ => nE'); (rename Fr g' _ _ _ => fE')
        refine Eq.mp (congrArg (fun z => Q (Value.int z _) _) (?e : unz r = _)) (ret _ _ _ _ _ ?pe (by assumption) nE' (fun b o e n1 n2 n3 => fE'.keep b o (hg b o e (not_three n1 n2 n3))))
        (case e => first | exact unz_odd (by assumption) (by omega) | exact unz_even (by assumption) (by omega))
        (case pe => rw [e1]; simp only [List.length_cons, List.length_nil]; omega))
end Mine
end
section
open PySem PySem.W PySem.Spec PySem.Calls PyProof.Rows
set_option maxRecDepth 100000
namespace Mine
theorem unz_even_of (k : Int) : unz (2 * k) = k := by unfold unz; rw [if_neg (by omega)]; omega
theorem unz_zig (n : Int) : unz (zig n) = n := by
  unfold unz zig
  split <;> split <;> omega
local macro_rules | `(tactic| walk_at "call ref") => `(tactic| (k_here; (with_reducible show wpAny _ _ (call (Value.ref 158) _) _ _ _); refine stop_of ?_))
set_option maxHeartbeats 4000000 in
theorem rc_call {w : World} {mg mb : Str → Option Value} {loose : List Str} {mean : ExcName → Option Value} {dp un : Nat} {gd : Option (List Code)} {cn : Str} {cs : Scope} {L a : Addr} {ccd : Value} {cl : List (Str × Addr)} {outer : List Env}
    {A₀ : Around} {base h₀ : Heap} {m : Str → Option Value} {s : Shared} {Q E : Value → Shared → Prop} {x dr ld nl : Nat} {k1 k2 tp : Tok} {vs : List Value} {ns rest : List Int} {p k : Int}
    (B : Below A₀ base outer h₀) (F : Fr h₀ L s.heap m) (X : (Mine.hd.heap_39 w.params).In h₀) (T : Top Mine.hd.view_39 loose mean mg mb h₀) (hk : cs.kind = .function)
    (N : News h₀ L s.heap [(x, rObj dr), (dr, rDict w.params ld p k1 k2 tp), (ld, listOf vs.toArray nl)]) (n1 : x ≠ dr)
    (hi : IntsAre vs ns) (r1 : ld ≠ x) (r2 : ld ≠ dr) (hln : ns.length < 900) (hp : 0 ≤ p) (hdr : ns.drop p.toNat = enc k ++ rest) (hk0 : 0 ≤ k) (hk1 : k < 100) (hroom : k ≤ rest.length)
    (hd : dp + 8 < recursionLimit) (hu : un + 64 < cLine)
    (ret : ∀ p' tv tp' h' tk', p' = p + (enc k).length → Fr h₀ L h' m → News h₀ L h' [(x, rObj dr), (dr, rDict w.params ld p' k1 k2 tp'), (ld, listOf vs.toArray nl)] → (∀ b o, s.heap.get? b = some o → b ≠ ld → b ≠ x → b ≠ dr → h'.get? b = some o) → Q (.int k tv) { s with heap := h', toks := tk' }) :
    wpAny (model PySem.Challenge.rw_pq0744_01.row.prog w) (ktrTop dp un gd cn cs L a ccd cl outer) (call (.ref 165) [.ref x]) Q E s := by
  w_top off
  revert X; k_fill; intro X
  refine wpAny_call ?_
  (refine' enter_news ?k1 ?k2 ?k3 ?k4 ?k5 ?kA ?kF ?kK ?k6 ?k7 ?k8 ?k9 ?kB ?_ ?c2 ?c3 ?c4 ?c5; (case kA => exact rfl); (case kF => exact rfl); (case kK => assumption); (case k1 => assumption); (case k2 => assumption); (case k3 => assumption); (case k4 => exact N); (case k5 => assumption); (case k6 => k_is); (case k7 => k_is); (case k8 => ktr_room); (case k9 => exact BindsTo.of_eq rfl); (case c5 => decide); (case kB => exact locs rfl); (case c2 => exact rfl); (case c3 => exact rfl); (case c4 => exact rfl))
  intro g' L' h' hg F' N' B' X' T'
  have hv : vs.length = ns.length := IntsAre.length hi
  have hz : zig k = 2 * k := zig_pos hk0
  have hlen : p.toNat + (enc k).length + rest.length = ns.length := by
    have e := congrArg List.length hdr
    have := (enc_len k).1
    rw [List.length_drop, List.length_append] at e
    omega
  k_with_none
  (try dsimp only); (try k_fold)
  k_steps
  all_goals (try k_data)
  unfold Stop
  refine rn_call (r := zig k) (rest := rest) B' F' X' T' rfl N' n1 hi r1 r2 hln hp hdr (by omega) (by omega) (by ktr_room) (by ktr_units) ?_
  intro p' tv tp' h1 tk1 hp' F1 N1 keep1
  rw [unz_zig]
  have hp'' : p' = p + (enc k).length := hp'
  clear F' N' hp'
  (try dsimp only)
  k_steps
  all_goals (try k_data)
  all_goals (try (exfalso; omega))
  (rename News h₀ L _ _ => nE'); (rename Fr g' _ _ _ => fE')
  exact ret _ _ _ _ _ hp'' (by assumption) nE' (fun b o e n1 n2 n3 => fE'.keep b o (hg b o e (not_three n1 n2 n3)))
end Mine
end
section
open PySem PySem.W PySem.Spec PySem.Calls PyProof.Rows
set_option maxRecDepth 100000
namespace Mine
theorem zig_bound (n : Int) (h1 : -900000 < n) (h2 : n < 900000) : 0 ≤ zig n ∧ zig n < 2000000 := by
  unfold zig
  split <;> omega
theorem regrow {g h h' : Heap} {L x dr ld : Addr} {pre more : List (Addr × Obj)} {o1 o2 o3 o2' : Obj} (N : News g L h (pre ++ (x, o1) :: (dr, o2) :: (ld, o3) :: more)) (N1 : News g L h' [(x, o1), (dr, o2'), (ld, o3)])
    (keep : ∀ b o, h.get? b = some o → b ≠ ld → b ≠ x → b ≠ dr → h'.get? b = some o) (hm : ∀ p ∈ pre ++ more, p.1 ≠ x ∧ p.1 ≠ dr ∧ p.1 ≠ ld) : News g L h' (pre ++ (x, o1) :: (dr, o2') :: (ld, o3) :: more) := fun p hp => by
  have old : ∀ q ∈ pre ++ more, h'.get? q.1 = some q.2 ∧ q.1 ≠ L ∧ g.get? q.1 = none := fun q hq => by
    have z := N q (by
      rcases List.mem_append.mp hq with hq | hq
      · exact List.mem_append_left _ hq
      · exact List.mem_append_right _ (.tail _ (.tail _ (.tail _ hq))))
    have y := hm q hq
    exact ⟨keep _ _ z.1 y.2.2 y.1 y.2.1, z.2⟩
  rcases List.mem_append.mp hp with hp | hp
  · exact old p (List.mem_append_left _ hp)
  · rcases List.mem_cons.mp hp with rfl | hp
    · exact N1 _ (.head _)
    · rcases List.mem_cons.mp hp with rfl | hp
      · exact N1 _ (.tail _ (.head _))
      · rcases List.mem_cons.mp hp with rfl | hp
        · exact N1 _ (.tail _ (.tail _ (.head _)))
        · exact old p (List.mem_append_right _ hp)
theorem three_of {g h : Heap} {L : Addr} {pre more : List (Addr × Obj)} {a b d : Addr × Obj} (N : News g L h (pre ++ a :: b :: d :: more)) : News g L h [a, b, d] := fun p hp => N p (List.mem_append_right _ (by
  rcases List.mem_cons.mp hp with rfl | hp
  · exact .head _
  · rcases List.mem_cons.mp hp with rfl | hp
    · exact .tail _ (.head _)
    · rw [List.mem_singleton.mp hp]
      exact .tail _ (.tail _ (.head _))))
theorem comp_ind {prog : Program} {w : World} {A : Around} {h₀ : Heap} {L : Addr} {m : Str → Option Value} {env : Env} {elt : Expr} {x : Str} {scope : Scope} {cl : List (Str × Addr)} {s : Shared} {S : List (Addr × Obj) → Prop} {P : Nat → Value → Prop} {Fin : List Value → List (Addr × Obj) → Prop}
    (J : List Int → List Value → List (Addr × Obj) → Prop) (fin : ∀ ys news, J [] ys news → Fin ys news)
    (step : ∀ n todo ys news i v I oI C oC D m₂ h tk (E' : Value → Shared → Prop), J (n :: todo) ys news → P i v → LCg.NsObj oC m₂ → m₂ x = some v → Fr h₀ L h m → News h₀ L h ((I, oI) :: (C, oC) :: (D, LCg.lst ys) :: news) → LCg.Off3 I C D news → ((@Ne Nat I C) ∧ (@Ne Nat I D) ∧ (@Ne Nat C D)) →
      wpAny (model prog w) A (eval elt (compEnvC scope cl C env)) (LCg.CompEnd h₀ L m { s with heap := h, toks := tk } I oI C oC D (LCg.lst ys) S (fun y news' => J todo (ys ++ [y]) news')) E' { s with heap := h, toks := tk }) :
    ∀ todo i ys news, J todo ys news → LCg.CompRest prog w A h₀ L m env elt x scope cl s S P Fin todo.length i ys news := by
  intro todo
  induction todo with
  | nil => exact fun i ys news j => LCg.CompRest.zero (fin ys news j)
  | cons n todo ih =>
    intro i ys news j
    refine LCg.CompRest.succ fun v I oI C oC D m₂ h tk E' hP hC hx F N off ne => ?_
    refine wpAny_mono (step n todo ys news i v I oI C oC D m₂ h tk E' j hP hC hx F N off ne) (fun y s₂ q => ?_) fun _ _ z => z
    obtain ⟨h', tk', news', e, F', N', off', hS, r⟩ := q
    exact ⟨h', tk', news', e, F', N', off', hS, ih (i + 1) _ _ r⟩
local macro_rules | `(tactic| walk_at "call ref") => `(tactic| (k_here; (with_reducible show wpAny _ _ (call (Value.ref 165) _) _ _ _); refine stop_of ?_))
local macro_rules | `(tactic| walk_at "call ref") => `(tactic| (k_here; (with_reducible show wpAny _ _ (call (Value.ref 158) _) _ _ _); refine stop_of ?_))
local macro_rules | `(tactic| walk_at "CompSrc") => `(tactic| (k_here; refine stop_of ?_))
local macro_rules | `(tactic| walk_at "eval ListComp") => `(tactic| (k_here; k_dflt (refine LCg.ListComp_U (F₀ := by k_asm) (by with_unfolding_all rfl) (by decide) (by rfl) (by decide) (by rfl) ?_)))
set_option maxHeartbeats 4000000 in
theorem rs_call {w : World} {mg mb : Str → Option Value} {loose : List Str} {mean : ExcName → Option Value} {dp un : Nat} {gd : Option (List Code)} {cn : Str} {cs : Scope} {L a : Addr} {ccd : Value} {cl : List (Str × Addr)} {outer : List Env}
    {A₀ : Around} {base h₀ : Heap} {m : Str → Option Value} {s : Shared} {Q E : Value → Shared → Prop} {x dr ld nl : Nat} {k1 k2 tp : Tok} {vs : List Value} {ns nums : List Int} {more : List (Addr × Obj)}
    (B : Below A₀ base outer h₀) (F : Fr h₀ L s.heap m) (X : (Mine.hd.heap_39 w.params).In h₀) (T : Top Mine.hd.view_39 loose mean mg mb h₀) (hk : cs.kind = .function)
    (N : News h₀ L s.heap ((x, rObj dr) :: (dr, rDict w.params ld 0 k1 k2 tp) :: (ld, listOf vs.toArray nl) :: more)) (n1 : x ≠ dr) (r1 : ld ≠ x) (r2 : ld ≠ dr) (hm : ∀ p ∈ more, p.1 ≠ x ∧ p.1 ≠ dr ∧ p.1 ≠ ld)
    (hi : IntsAre vs ns) (hln : ns.length < 900) (hns : ns = enc nums.length ++ nums.flatMap enc) (hb : ∀ n ∈ nums, -900000 < n ∧ n < 900000) (hl6 : nums.length < 20)
    (hd : dp + 10 < recursionLimit) (hu : un + 80 < cLine)
    (ret : ∀ D vd h' tk', Fr h₀ L h' m → News h₀ L h' ((D, listOf vd.toArray vd.length) :: more) → IntsAre vd nums → Q (.ref D) { s with heap := h', toks := tk' }) :
    wpAny (model PySem.Challenge.rw_pq0744_01.row.prog w) (ktrTop dp un gd cn cs L a ccd cl outer) (call (.ref 177) [.ref x]) Q E s := by
  w_top off
  revert X; k_fill; intro X
  refine wpAny_call ?_
  (refine' code_defC ?k1 ?k2 ?k3 ?k4 ?k5 ?kA ?kF ?kK ?k6 ?k7 ?k8 ?k9 ?kB ?kD ?_ ?c2 ?c3 ?c4; (case kA => exact rfl); (case kF => exact rfl); (case kK => assumption); (case k1 => assumption); (case k2 => assumption); (case k3 => assumption); (case k4 => exact N); (case k5 => assumption); (case k6 => k_is); (case k7 => k_is); (case k8 => ktr_room); (case k9 => exact BindsTo.of_eq rfl); (case kB => exact rfl); (case kD => decide +kernel); (case c2 => exact rfl); (case c3 => exact rfl); (case c4 => exact rfl))
  intro g' L' h' tk' cells' FG' F' N' Y' B' X' T' l1
  k_cells Y'
  rename_i o' ho'
  (try simp only [List.cons_append, List.nil_append] at N')
  k_with_none
  (try dsimp only); (try k_fold)
  k_steps
  all_goals (try k_data)
  unfold Stop
  have hlt : ∀ p ∈ (x, rObj dr) :: (dr, rDict w.params ld 0 k1 k2 tp) :: (ld, listOf vs.toArray nl) :: more, p.1 < L' := by assumption
  have hcx : L' + 1 ≠ x ∧ L' + 1 ≠ dr ∧ L' + 1 ≠ ld := by
    have a1 : @LT.lt Nat _ x L' := hlt _ (.head _)
    have a2 : @LT.lt Nat _ dr L' := hlt _ (.tail _ (.head _))
    have a3 : @LT.lt Nat _ ld L' := hlt _ (.tail _ (.tail _ (.head _)))
    exact ⟨Nat.ne_of_gt (Nat.lt_succ_of_lt a1), Nat.ne_of_gt (Nat.lt_succ_of_lt a2), Nat.ne_of_gt (Nat.lt_succ_of_lt a3)⟩
  have hmm : ∀ p ∈ [(L' + 1, o')] ++ more, p.1 ≠ x ∧ p.1 ≠ dr ∧ p.1 ≠ ld := by
    intro p hp
    rcases List.mem_append.mp hp with hp | hp
    · rw [List.mem_singleton.mp hp]; exact hcx
    · exact hm p hp
  have hfl := encs_len nums
  have N3 := three_of (pre := [(L' + 1, o')]) N'
  refine rc_call (k := nums.length) (rest := nums.flatMap enc) B' F' X' T' rfl N3 n1 hi r1 r2 hln (by decide) (by rw [hns]; rfl) (by omega) (by omega) (by omega) (by ktr_room) (by ktr_units) ?_
  intro p1 tv1 tp1 h1 tk1 hp1 F1 N1 keep1
  have N1' := regrow (pre := [(L' + 1, o')]) N' N1 keep1 hmm
  (try simp only [List.cons_append, List.nil_append] at N1')
  clear F' N' N3 N1
  (try dsimp only)
  k_steps
  all_goals (try k_data)
  unfold Stop
  (rename Fr g' _ _ _ => lF'); (rename News g' _ _ _ => lN'); (rename IsRange _ _ _ _ _ _ _ _ => rgX)
  (with_unfolding_all refine' LCg.CompSrc.range (n := nums.length) (by rfl) lF' lN' (by exact rgX) (by exact small_one (by omega) (by omega) (by omega) (by omega)) (by rw [rangeSize_nat]; omega) (by rw [PySem.sizeLine_eq]; omega) ?_)
  intro gg
  have hp1' : p1 = (enc (nums.length : Int)).length := by omega
  have hdrop : ns.drop p1.toNat = nums.flatMap enc := by
    rw [hns, hp1', Int.toNat_natCast, List.drop_left]
  refine comp_ind (J := fun todo ys news' => ∃ p tp' done, news' = ((L' + 1, o') :: (x, rObj dr) :: (dr, rDict w.params ld p k1 k2 tp') :: (ld, listOf vs.toArray nl) :: more) ∧ 0 ≤ p ∧ ns.drop p.toNat = todo.flatMap enc ∧ (∀ n ∈ todo, -900000 < n ∧ n < 900000) ∧ IntsAre ys done ∧ done ++ todo = nums) ?fin ?step nums 0 [] _ ⟨p1, _, [], rfl, by omega, hdrop, hb, .nil, rfl⟩
  (case fin =>
    rintro ys news' ⟨p, tp', done, rfl, hp0, hdp, -, hys, hdn⟩
    intro D h2 tk2 F2 N2 off2
    (try dsimp only)
    refine leaveK_ F2 N2 fun kF kN => ?_
    rw [List.append_nil] at hdn
    rw [hdn] at hys
    exact ret D ys _ _ kF (fun q hq => kN q (by
      rcases List.mem_cons.mp hq with rfl | hq
      · exact .head _
      · exact .tail _ (.tail _ (.tail _ (.tail _ (.tail _ hq)))))) hys)
  (case step =>
    rintro n todo ys news' i v I oI C oC D m₂ h2 tk2 E' ⟨p, tp', done, rfl, hp0, hdp, hbt, hys, hdn⟩ hP hC hx F2 N2 off2 hne
    (try dsimp only)
    (try k_fold)
    k_steps
    all_goals (try k_data)
    unfold Stop
    have hbn := hbt n (.head _)
    have hz0 := zig_bound n hbn.1 hbn.2
    have o3 := off2.mem
    have ox := o3 (x, rObj dr) (.tail _ (.head _))
    have od := o3 _ (.tail _ (.tail _ (.head _)))
    have ol := o3 (ld, listOf vs.toArray nl) (.tail _ (.tail _ (.tail _ (.head _))))
    have hpre : ∀ q ∈ [(I, oI), (C, oC), (D, LCg.lst ys), (L' + 1, o')] ++ more, q.1 ≠ x ∧ q.1 ≠ dr ∧ q.1 ≠ ld := by
      intro q hq
      rcases List.mem_append.mp hq with hq | hq
      · rcases List.mem_cons.mp hq with rfl | hq
        · exact ⟨Ne.symm ox.1, Ne.symm od.1, Ne.symm ol.1⟩
        · rcases List.mem_cons.mp hq with rfl | hq
          · exact ⟨Ne.symm ox.2.1, Ne.symm od.2.1, Ne.symm ol.2.1⟩
          · rcases List.mem_cons.mp hq with rfl | hq
            · exact ⟨Ne.symm ox.2.2, Ne.symm od.2.2, Ne.symm ol.2.2⟩
            · rw [List.mem_singleton.mp hq]; exact hcx
      · exact hm q hq
    refine rn_call (r := zig n) (rest := todo.flatMap enc) B' F2 X' T' rfl (three_of (pre := [(I, oI), (C, oC), (D, LCg.lst ys), (L' + 1, o')]) N2) n1 hi r1 r2 hln hp0 (by rw [hdp]; rfl) hz0.1 hz0.2 (by ktr_room) (by ktr_units) ?_
    intro p2 tv2 tp2 h3 tk3 hp2 F3 N3' keep3
    rw [unz_zig]
    refine ⟨h3, tk3, _, rfl, F3, regrow (pre := [(I, oI), (C, oC), (D, LCg.lst ys), (L' + 1, o')]) N2 N3' keep3 hpre, off2, trivial, p2, tp2, done ++ [n], rfl, by omega, ?_, (fun z hz => hbt z (.tail _ hz)), ints1 hys, by rw [List.append_assoc]; exact hdn⟩
    rw [hp2, show (p + ((encR (zig n)).length : Int)).toNat = p.toNat + (encR (zig n)).length by omega, ← List.drop_drop, hdp]
    exact List.drop_left)
end Mine
end
section
open PySem PySem.W PySem.Spec PySem.Calls PyProof.Rows
set_option maxRecDepth 100000
namespace Mine
def le8 : Nat → Int → List Int
  | 0, _ => []
  | k + 1, v => v.fmod 256 :: le8 k (v.fdiv 256)
local macro_rules | `(tactic| size_fits) => `(tactic| (simp only [Array.size_push, List.size_toArray]; rw [PySem.sizeLine_eq]; omega))
local macro_rules | `(tactic| walk_at "call ref") => `(tactic| (k_here; (with_reducible show wpAny _ _ (call (Value.ref 60) _) _ _ _); refine stop_of ?_))
set_option maxHeartbeats 4000000 in
theorem lc_call {w : World} {mg mb : Str → Option Value} {loose : List Str} {mean : ExcName → Option Value} {dp un : Nat} {gd : Option (List Code)} {cn : Str} {cs : Scope} {L a : Addr} {ccd : Value} {cl : List (Str × Addr)} {outer : List Env}
    {A₀ : Around} {base h₀ : Heap} {m : Str → Option Value} {s : Shared} {Q E : Value → Shared → Prop} {l : Addr} {vs : List Value} {ns : List Int}
    (B : Below A₀ base outer h₀) (F : Fr h₀ L s.heap m) (X : (Mine.hd.heap_39 w.params).In h₀) (T : Top Mine.hd.view_39 loose mean mg mb h₀) (hk : cs.kind = .function)
    (hl : s.heap.IsList l vs.toArray) (hi : IntsAre vs ns) (hlen : ns.length < 500) (hb : ∀ b ∈ ns, 0 ≤ b ∧ b < 256) (hd : dp + 4 < recursionLimit) (hu : un + 32 < cLine)
    (ret : ∀ D vd nn h' tk', Fr h₀ L h' m → (∀ b o, s.heap.get? b = some o → h'.get? b = some o) → h'.get? D = some (listOf vd.toArray nn) → IntsAre vd (ns ++ le8 8 (ckn ns)) → s.heap.get? D = none → Q (.ref D) { s with heap := h', toks := tk' }) :
    wpAny (model PySem.Challenge.rw_pq0744_01.row.prog w) (ktrTop dp un gd cn cs L a ccd cl outer) (call (.ref 198) [.ref l]) Q E s := by
  w_top off
  revert X; k_fill; intro X
  refine wpAny_call ?_
  (refine' enter_flat ?k1 ?k2 ?k3 ?k5 ?kA ?kF ?kK ?k6 ?k7 ?k8 ?k9 ?kB ?_ ?c2 ?c3 ?c4 ?c5; (case kA => exact rfl); (case kF => exact rfl); (case kK => assumption); (case k1 => assumption); (case k2 => assumption); (case k3 => assumption); (case k5 => assumption); (case k6 => k_is); (case k7 => k_is); (case k8 => ktr_room); (case k9 => exact BindsTo.of_eq rfl); (case c5 => decide); (case kB => exact locs rfl); (case c2 => exact rfl); (case c3 => exact rfl); (case c4 => exact rfl))
  intro g' L' h' hg F' N' B' X' T'
  subst hg
  have hv : vs.length < 500 := by rw [IntsAre.length hi]; exact hlen
  k_with_none
  (try dsimp only); (try k_fold)
  k_steps
  all_goals (try k_data)
  unfold Stop
  (rename News s.heap _ _ _ => lN'); (rename Fr s.heap _ _ _ => lF')
  have hl' := islist_keep hl lF'.keep
  refine cn_call (l := l) B' lF' X' T' rfl hl' hi (by omega) hb (by ktr_room) (by ktr_units) ?_
  intro t1 h1 tk1 F1 keep1
  have N1 := news_keep lN' keep1
  clear lN' lF'
  (try dsimp only)
  k_steps
  all_goals (try k_data)
  (rename News s.heap _ _ _ => nE'); (rename Fr s.heap _ _ _ => fE')
  simp only [List.push_toArray, List.append_assoc, List.cons_append, List.nil_append] at nE'
  refine ret _ _ _ _ _ (by assumption) fE'.keep (nE' _ (.head _)).1 ?_ (nE' _ (.head _)).2.2
  refine ints_app hi ?_
  exact .cons _ _ (.cons _ _ (.cons _ _ (.cons _ _ (.cons _ _ (.cons _ _ (.cons _ _ (.cons _ _ .nil)))))))
end Mine
end
section
open PySem PySem.W PySem.Spec PySem.Calls PyProof.Rows
set_option maxRecDepth 100000
namespace Mine
theorem ckStep_range (v b : Int) : 0 ≤ ckStep v b ∧ ckStep v b < 2305843009213693951 := by
  unfold ckStep; omega
theorem ckFold_range : ∀ (l : List Int) (v : Int), 0 ≤ v → v < 2305843009213693951 → 0 ≤ l.foldl ckStep v ∧ l.foldl ckStep v < 2305843009213693951
  | [], _, h0, h1 => ⟨h0, h1⟩
  | b :: r, v, _, _ => ckFold_range r _ (ckStep_range v b).1 (ckStep_range v b).2
theorem ckn_range (l : List Int) : 0 ≤ ckn l ∧ ckn l < 2305843009213693951 := ckFold_range l 1 (by decide) (by decide)
theorem dvd_small {P x : Int} (h : P ∣ x) (h1 : -P < x) (h2 : x < P) : x = 0 := by
  obtain ⟨z, rfl⟩ := h
  by_cases q : z ≤ 0
  · by_cases r : z = 0
    · rw [r, Int.mul_zero]
    · have : P * z ≤ P * (-1) := Int.mul_le_mul_of_nonneg_left (by omega) (by omega)
      omega
  · have : P * 1 ≤ P * z := Int.mul_le_mul_of_nonneg_left (by omega) (by omega)
    omega
theorem dvd_sub_of_emod {P a b : Int} (h : a % P = b % P) : P ∣ a - b := Int.dvd_of_emod_eq_zero (Int.emod_eq_emod_iff_emod_sub_eq_zero.mp h)
theorem dvd_256 {x : Int} (h : (2305843009213693951 : Int) ∣ 256 * x) : (2305843009213693951 : Int) ∣ x := by
  have e : x = 9007199254740992 * (256 * x) - 2305843009213693951 * (1 * x) := by
    rw [← Int.mul_assoc, ← Int.mul_assoc, ← Int.sub_mul, show (9007199254740992 * 256 - 2305843009213693951 * 1 : Int) = 1 by decide, Int.one_mul]
  rw [e]
  exact Int.dvd_sub (Int.dvd_trans h (Int.dvd_mul_left _ _)) (Int.dvd_mul_right _ _)

theorem dvd_257 {x : Int} (h : (2305843009213693951 : Int) ∣ 257 * x) : (2305843009213693951 : Int) ∣ x := by
  have e : x = 1327878464449909357 * (257 * x) - 2305843009213693951 * (148 * x) := by
    rw [← Int.mul_assoc, ← Int.mul_assoc, ← Int.sub_mul, show (1327878464449909357 * 257 - 2305843009213693951 * 148 : Int) = 1 by decide, Int.one_mul]
  rw [e]
  exact Int.dvd_sub (Int.dvd_trans h (Int.dvd_mul_left _ _)) (Int.dvd_mul_right _ _)
theorem ckStep_inj {u v b : Int} (u0 : 0 ≤ u) (u1 : u < 2305843009213693951) (v0 : 0 ≤ v) (v1 : v < 2305843009213693951) (h : ckStep u b = ckStep v b) : u = v := by
  have e : u * 257 + b + 1 - (v * 257 + b + 1) = 257 * (u - v) := by omega
  have z := dvd_small (dvd_257 (x := u - v) (by rw [← e]; exact dvd_sub_of_emod h)) (by omega) (by omega)
  omega
theorem ckFold_inj : ∀ (l : List Int) {u v : Int}, 0 ≤ u → u < 2305843009213693951 → 0 ≤ v → v < 2305843009213693951 → l.foldl ckStep u = l.foldl ckStep v → u = v
  | [], _, _, _, _, _, _, h => h
  | b :: r, _, _, u0, u1, v0, v1, h => ckStep_inj u0 u1 v0 v1 (ckFold_inj r (ckStep_range _ b).1 (ckStep_range _ b).2 (ckStep_range _ b).1 (ckStep_range _ b).2 h)
theorem ckStep_byte {v a b : Int} (a0 : 0 ≤ a) (a1 : a < 256) (b0 : 0 ≤ b) (b1 : b < 256) (h : ckStep v a = ckStep v b) : a = b := by
  have e : v * 257 + a + 1 - (v * 257 + b + 1) = a - b := by omega
  have z := dvd_small (P := 2305843009213693951) (x := a - b) (by rw [← e]; exact dvd_sub_of_emod h) (by omega) (by omega)
  omega
theorem emod_sub_dvd (a P : Int) : P ∣ a % P - a := dvd_sub_of_emod (Int.emod_emod_of_dvd a (Int.dvd_refl P))
theorem swap_dvd {v a b X Y : Int} (d : (2305843009213693951 : Int) ∣ X * 257 + b + 1 - (Y * 257 + a + 1)) (p : (2305843009213693951 : Int) ∣ X - (v * 257 + a + 1)) (q : (2305843009213693951 : Int) ∣ Y - (v * 257 + b + 1)) : (2305843009213693951 : Int) ∣ 256 * (a - b) := by
  have e : X * 257 + b + 1 - (Y * 257 + a + 1) - 257 * (X - (v * 257 + a + 1)) - 257 * -(Y - (v * 257 + b + 1)) = 256 * (a - b) := by clear d p q; omega
  rw [← e]
  exact Int.dvd_sub (Int.dvd_sub d (Int.dvd_trans p (Int.dvd_mul_left 257 _))) (Int.dvd_trans (Int.dvd_neg.mpr q) (Int.dvd_mul_left 257 _))
theorem ckStep_swap {v a b : Int} (a0 : 0 ≤ a) (a1 : a < 256) (b0 : 0 ≤ b) (b1 : b < 256) (h : ckStep (ckStep v a) b = ckStep (ckStep v b) a) : a = b := by
  have z := dvd_small (dvd_256 (swap_dvd (dvd_sub_of_emod h) (emod_sub_dvd (v * 257 + a + 1) _) (emod_sub_dvd (v * 257 + b + 1) _))) (by omega) (by omega)
  omega
theorem ckn_app (pre l : List Int) : ckn (pre ++ l) = l.foldl ckStep (ckn pre) := by unfold ckn; rw [List.foldl_append]
theorem ckn_change {pre post : List Int} {a b : Int} (a0 : 0 ≤ a) (a1 : a < 256) (b0 : 0 ≤ b) (b1 : b < 256) (h : ckn (pre ++ a :: post) = ckn (pre ++ b :: post)) : a = b := by
  rw [ckn_app, ckn_app, List.foldl_cons, List.foldl_cons] at h
  exact ckStep_byte a0 a1 b0 b1 (ckFold_inj post (ckStep_range _ a).1 (ckStep_range _ a).2 (ckStep_range _ b).1 (ckStep_range _ b).2 h)
theorem ckn_swap {pre post : List Int} {a b : Int} (a0 : 0 ≤ a) (a1 : a < 256) (b0 : 0 ≤ b) (b1 : b < 256) (h : ckn (pre ++ a :: b :: post) = ckn (pre ++ b :: a :: post)) : a = b := by
  rw [ckn_app, ckn_app, List.foldl_cons, List.foldl_cons, List.foldl_cons, List.foldl_cons] at h
  exact ckStep_swap a0 a1 b0 b1 (ckFold_inj post (ckStep_range _ b).1 (ckStep_range _ b).2 (ckStep_range _ a).1 (ckStep_range _ a).2 h)
theorem leV_change : ∀ {pre : List Int} {post : List Int} {a b : Int}, leV (pre ++ a :: post) = leV (pre ++ b :: post) → a = b
  | [], post, a, b, h => by
    rw [List.nil_append, List.nil_append, leV_cons, leV_cons] at h
    omega
  | c :: r, post, a, b, h => by
    rw [List.cons_append, List.cons_append, leV_cons, leV_cons] at h
    exact leV_change (pre := r) (post := post) (by omega)
theorem told_split {body chk : List Int} (hc : chk.length = 8) (hb : ∀ b ∈ body ++ chk, 0 ≤ b ∧ b < 256) : told (body ++ chk) = if leV chk = ckn body then .ok body else .err "bad_check" (body.length : Int) := by
  unfold told
  have hl : (body ++ chk).length - 8 = body.length := by rw [List.length_append]; omega
  rw [hl, if_neg (by rw [List.length_append]; omega), List.findIdx?_eq_none_iff.mpr fun b h => badB_false (by have := hb b h; omega) (by have := hb b h; omega)]
  dsimp only
  rw [List.drop_left, List.take_left]
  by_cases q : leV chk = ckn body
  · rw [if_pos q, if_pos q]
  · rw [if_neg q, if_neg q]
    congr 1
    rw [List.length_append]
    omega
theorem told_bad_byte {pre post : List Int} {a : Int} (hl : 8 ≤ (pre ++ a :: post).length) (hp : ∀ b ∈ pre, 0 ≤ b ∧ b < 256) (ha : badB a = true) : told (pre ++ a :: post) = .err "bad_byte" (pre.length : Int) := by
  unfold told
  rw [if_neg (by omega)]
  have : (pre ++ a :: post).findIdx? badB = some pre.length := by
    rw [List.findIdx?_eq_some_iff_getElem]
    refine ⟨by rw [List.length_append, List.length_cons]; omega, ?_, fun j hj => ?_⟩
    · simp [ha]
    · rw [List.getElem_append_left hj]
      have := hp _ (List.getElem_mem hj)
      rw [badB_false (by omega) (by omega)]
      exact Bool.false_ne_true
  rw [this]
theorem told_cut {ns : List Int} (h : ns.length < 8) : told ns = .err "cut_off" (ns.length : Int) := by
  unfold told; rw [if_pos h]
theorem le8_len : ∀ (k : Nat) (v : Int), (le8 k v).length = k
  | 0, _ => rfl
  | k + 1, v => by rw [le8, List.length_cons, le8_len k]
theorem le8_bytes : ∀ (k : Nat) (v : Int), ∀ b ∈ le8 k v, 0 ≤ b ∧ b < 256
  | 0, _ => fun _ h => nomatch h
  | k + 1, v => fun b h => by
    rcases List.mem_cons.mp h with rfl | h
    · rw [Int.fmod_eq_emod_of_nonneg _ (by decide)]; omega
    · exact le8_bytes k _ b h
theorem leV_le8 : ∀ (k : Nat) (v : Int), 0 ≤ v → v < 256 ^ k → leV (le8 k v) = v
  | 0, v, h0, h1 => by
    have : v = 0 := by rw [Int.pow_zero] at h1; omega
    rw [this]; rfl
  | k + 1, v, h0, h1 => by
    rw [Int.pow_succ] at h1
    rw [le8, leV_cons, Int.fmod_eq_emod_of_nonneg _ (by decide), Int.fdiv_eq_ediv_of_nonneg _ (by decide), leV_le8 k (v / 256) (by omega) (by omega)]
    omega
theorem bytes_app {a b : List Int} (ha : ∀ x ∈ a, 0 ≤ x ∧ x < 256) (hb : ∀ x ∈ b, 0 ≤ x ∧ x < 256) : ∀ x ∈ a ++ b, 0 ≤ x ∧ x < 256 := fun x hx => (List.mem_append.mp hx).elim (ha x) (hb x)
theorem leV_chk (body : List Int) : leV (le8 8 (ckn body)) = ckn body := leV_le8 8 _ (ckn_range body).1 (Int.lt_trans (ckn_range body).2 (by decide))
theorem told_closed {body : List Int} (hb : ∀ b ∈ body, 0 ≤ b ∧ b < 256) : told (body ++ le8 8 (ckn body)) = .ok body := by
  rw [told_split (le8_len 8 _) (bytes_app hb (le8_bytes 8 _)), if_pos (leV_chk body)]
end Mine
end
section
open PySem PySem.W PySem.Spec PySem.Calls PyProof.Rows PyProof.V PySem.SeqAt
set_option maxRecDepth 100000
namespace Mine
abbrev tup2 (u v : Value) : Obj := { cls := .type "tuple", data := .seq #[u, v] }
section
variable {prog : Program} {w : World} {A : Around} {E : Value → Shared → Prop} {s : Shared} {Q : Value → Shared → Prop}
theorem pair_list {h : Heap} {a l : Addr} {x : Str} {tx : Tok} {vs : List Value} {ns : List Int} (ha : h.get? a = some (tup2 (.str x tx) (.ref l))) (hl : h.IsList l vs.toArray) (hi : IntsAre vs ns) :
    ∃ as, Reads h (.ref a) (.tuple [.str x, .list (ns.map PyData.int)]) as :=
  ⟨_, reads_tuple_at ha rfl rfl (.cons (.str _ _) (.cons (reads_of_ints hl hi) .nil))⟩
theorem pair_int {h : Heap} {a : Addr} {x : Str} {tx tn : Tok} {n : Int} (ha : h.get? a = some (tup2 (.str x tx) (.int n tn))) :
    ∃ as, Reads h (.ref a) (.tuple [.str x, .int n]) as :=
  ⟨_, reads_tuple_at ha rfl rfl (.cons (.str _ _) (.cons (.int _ _) .nil))⟩
theorem pair_list_shaped {x : Str} (hx : PyData.strOk x = true) (ns : List Int) : shaped (.tuple [.str x, .list (ns.map PyData.int)]) = true := by
  simp [SeqAt.shaped, PyData.canLay0, PyData.canLayAll0, PyData.depth, PyData.depthAll, ke_canLayAll0, ke_depthAll, hx]
theorem pair_int_shaped {x : Str} (hx : PyData.strOk x = true) (n : Int) : shaped (.tuple [.str x, .int n]) = true := by
  simp [SeqAt.shaped, PyData.canLay0, PyData.canLayAll0, PyData.depth, PyData.depthAll, hx]
theorem pair_list_eqv (x : Str) (ns : List Int) : PyData.eqv (.tuple [.str x, .list (ns.map PyData.int)]) (.tuple [.str x, .list (ns.map PyData.int)]) = true := by
  simp [PyData.eqv, PyData.eqvAll, ked_eqvAll]
theorem pair_int_eqv (x : Str) (n : Int) : PyData.eqv (.tuple [.str x, .int n]) (.tuple [.str x, .int n]) = true := by
  simp [PyData.eqv, PyData.eqvAll]
theorem ne_pair_list {a b l k : Addr} {x : Str} {tx ty : Tok} {vs ws : List Value} {ns : List Int} (ha : s.heap.get? a = some (tup2 (.str x tx) (.ref l))) (hl : s.heap.IsList l vs.toArray) (hi : IntsAre vs ns)
    (hb : s.heap.get? b = some (tup2 (.str x ty) (.ref k))) (hk : s.heap.IsList k ws.toArray) (hj : IntsAre ws ns) (hx : PyData.strOk x = true) (hu : A.units + 64 < cLine) (h : Q (.bool false) s) :
    wpAny (model prog w) A (compareOp .NotEq (.ref a) (.ref b)) Q E s := by
  obtain ⟨as, ra⟩ := pair_list ha hl hi
  obtain ⟨bs, rb⟩ := pair_list hb hk hj
  refine ne_dataH ra rb (pair_list_shaped hx _) (pair_list_shaped hx _) hu ?_
  rw [pair_list_eqv]
  exact h
theorem ne_pair_int {a b : Addr} {x : Str} {n : Int} {tx ty tn tm : Tok} (ha : s.heap.get? a = some (tup2 (.str x tx) (.int n tn))) (hb : s.heap.get? b = some (tup2 (.str x ty) (.int n tm))) (hx : PyData.strOk x = true) (hu : A.units + 64 < cLine) (h : Q (.bool false) s) :
    wpAny (model prog w) A (compareOp .NotEq (.ref a) (.ref b)) Q E s := by
  obtain ⟨as, ra⟩ := pair_int ha
  obtain ⟨bs, rb⟩ := pair_int hb
  refine ne_dataH ra rb (pair_int_shaped hx _) (pair_int_shaped hx _) hu ?_
  rw [pair_int_eqv]
  exact h
theorem eq_pair_int {a b : Addr} {x : Str} {n : Int} {tx ty tn tm : Tok} (ha : s.heap.get? a = some (tup2 (.str x tx) (.int n tn))) (hb : s.heap.get? b = some (tup2 (.str x ty) (.int n tm))) (hx : PyData.strOk x = true) (hu : A.units + 64 < cLine) (h : Q (.bool true) s) :
    wpAny (model prog w) A (compareOp .Eq (.ref a) (.ref b)) Q E s := by
  obtain ⟨as, ra⟩ := pair_int ha
  obtain ⟨bs, rb⟩ := pair_int hb
  refine eq_dataH ra rb (pair_int_shaped hx _) (pair_int_shaped hx _) hu ?_
  rw [pair_int_eqv]
  exact h
end
end Mine
end
section
open PySem PySem.W PySem.Spec PySem.Calls PyProof.Rows
set_option maxRecDepth 100000
namespace Mine
theorem set_split {l : List Int} {i : Nat} (h : i < l.length) (b : Int) : ∃ pre post x, l = pre ++ x :: post ∧ l.set i b = pre ++ b :: post ∧ pre.length = i ∧ x = l.getD i 0 ∧ x ∈ l := by
  have e : l.getD i 0 = l[i] := by rw [List.getD_eq_getElem?_getD, List.getElem?_eq_getElem h, Option.getD_some]
  refine ⟨l.take i, l.drop (i + 1), l.getD i 0, ?_, ?_, ?_, rfl, ?_⟩
  · rw [e, List.getElem_cons_drop, List.take_append_drop]
  · rw [List.set_eq_take_append_cons_drop, if_pos h]
  · rw [List.length_take]; omega
  · rw [e]; exact List.getElem_mem h
theorem set_bytes {l : List Int} {i : Nat} {b : Int} (hl : ∀ x ∈ l, 0 ≤ x ∧ x < 256) (h0 : 0 ≤ b) (h1 : b < 256) : ∀ x ∈ l.set i b, 0 ≤ x ∧ x < 256 := fun x hx => by
  rcases List.mem_or_eq_of_mem_set hx with h | rfl
  · exact hl x h
  · exact ⟨h0, h1⟩
theorem told_bad_of {body chk : List Int} (hc : chk.length = 8) (hb : ∀ b ∈ body, 0 ≤ b ∧ b < 256) (hk : ∀ b ∈ chk, 0 ≤ b ∧ b < 256) (ne : leV chk ≠ ckn body) : told (body ++ chk) = .err "bad_check" (body.length : Int) := by
  rw [told_split hc (bytes_app hb hk), if_neg ne]
theorem ckn_set {body : List Int} {i : Nat} {b : Int} (h : i < body.length) (hb : ∀ x ∈ body, 0 ≤ x ∧ x < 256) (b0 : 0 ≤ b) (b1 : b < 256) (ne : b ≠ body.getD i 0) : ckn (body.set i b) ≠ ckn body := by
  obtain ⟨pre, post, x, e1, e2, _, e4, hx⟩ := set_split h b
  intro q
  rw [e2, e1] at q
  have hx := hb x hx
  exact ne ((ckn_change b0 b1 hx.1 hx.2 q).trans e4)
theorem leV_set {l : List Int} {i : Nat} {b : Int} (h : i < l.length) (ne : b ≠ l.getD i 0) : leV (l.set i b) ≠ leV l := by
  obtain ⟨pre, post, x, e1, e2, _, e4, _⟩ := set_split h b
  intro q
  rw [e2, e1] at q
  exact ne ((leV_change q).trans e4)
theorem told_set {body : List Int} {i : Nat} {b : Int} (hb : ∀ x ∈ body, 0 ≤ x ∧ x < 256) (hi : i < body.length + 8) (b0 : 0 ≤ b) (b1 : b < 256) (ne : b ≠ (body ++ le8 8 (ckn body)).getD i 0) : told ((body ++ le8 8 (ckn body)).set i b) = .err "bad_check" (body.length : Int) := by
  have hlen := le8_len 8 (ckn body)
  rw [List.set_append]
  by_cases h : i < body.length
  · rw [if_pos h, told_bad_of hlen (set_bytes hb b0 b1) (le8_bytes 8 _) ?_, List.length_set]
    rw [leV_chk]
    refine (ckn_set h hb b0 b1 ?_).symm
    rwa [List.getD_eq_getElem?_getD, List.getElem?_append_left h, ← List.getD_eq_getElem?_getD] at ne
  · rw [if_neg h, told_bad_of (by rw [List.length_set]; exact hlen) hb (set_bytes (le8_bytes 8 _) b0 b1) ?_]
    rw [List.getD_eq_getElem?_getD, List.getElem?_append_right (by omega), ← List.getD_eq_getElem?_getD] at ne
    exact fun q => leV_set (by rw [hlen]; omega) ne (q.trans (leV_chk body).symm)
theorem told_spoiled {body : List Int} {p a : Int} (hb : ∀ x ∈ body, 0 ≤ x ∧ x < 256) (p0 : 0 ≤ p) (p1 : p < body.length + 8) (a0 : 1 ≤ a) (a1 : a < 256) :
    told ((body ++ le8 8 (ckn body)).set p.toNat (((body ++ le8 8 (ckn body)).getD p.toNat 0 + a).fmod 256)) = .err "bad_check" (body.length : Int) := by
  have hlen := le8_len 8 (ckn body)
  have hx : 0 ≤ (body ++ le8 8 (ckn body)).getD p.toNat 0 ∧ (body ++ le8 8 (ckn body)).getD p.toNat 0 < 256 := by
    obtain ⟨_, _, x, _, _, _, e4, hx⟩ := set_split (l := body ++ le8 8 (ckn body)) (i := p.toNat) (by rw [List.length_append, hlen]; omega) 0
    rw [← e4]
    exact bytes_app hb (le8_bytes 8 _) x hx
  have key : ∀ x : Int, 0 ≤ x ∧ x < 256 → 0 ≤ (x + a).fmod 256 ∧ (x + a).fmod 256 < 256 ∧ (x + a).fmod 256 ≠ x := fun x hx => by
    rw [Int.fmod_eq_emod_of_nonneg _ (by decide)]
    omega
  obtain ⟨k0, k1, k2⟩ := key _ hx
  exact told_set hb (by omega) k0 k1 k2
theorem told_badbyte {l : List Int} {p b v : Int} (hb : ∀ x ∈ l, 0 ≤ x ∧ x < 256) (p0 : 0 ≤ p) (p1 : p < l.length) (hl : 8 ≤ l.length) (hv : badB v = true) : told ((l.set p.toNat b).set p.toNat v) = .err "bad_byte" p := by
  rw [List.set_set]
  obtain ⟨pre, post, x, e1, e2, e3, _, _⟩ := set_split (l := l) (i := p.toNat) (by omega) v
  rw [e2, told_bad_byte ?_ (fun y hy => hb y (by rw [e1]; exact List.mem_append_left _ hy)) hv, e3]
  · congr 1; omega
  · rw [← e2, List.length_set]; exact hl
theorem swap_split {l : List Int} {i : Nat} (h : i + 1 < l.length) : ∃ pre post a b, l = pre ++ a :: b :: post ∧ (l.set i (l.getD (i + 1) 0)).set (i + 1) (l.getD i 0) = pre ++ b :: a :: post ∧ l.getD i 0 = a ∧ l.getD (i + 1) 0 = b := by
  obtain ⟨pre, r, a, e1, _, e3, _, _⟩ := set_split (Nat.lt_of_succ_lt h) 0
  cases r with
  | nil => rw [e1, List.length_append, List.length_singleton] at h; omega
  | cons b post =>
    subst e3
    have ga : l.getD pre.length 0 = a := by
      rw [e1, List.getD_eq_getElem?_getD, List.getElem?_append_right (Nat.le_refl _), Nat.sub_self]; rfl
    have gb : l.getD (pre.length + 1) 0 = b := by
      rw [e1, List.getD_eq_getElem?_getD, List.getElem?_append_right (Nat.le_succ _), show pre.length + 1 - pre.length = 1 by omega]; rfl
    refine ⟨pre, post, a, b, e1, ?_, ga, gb⟩
    rw [ga, gb, e1, List.set_append_right _ _ (Nat.le_refl _), Nat.sub_self, List.set_cons_zero, List.set_append_right _ _ (Nat.le_succ _), show pre.length + 1 - pre.length = 1 by omega]
    rfl
theorem told_turned {body : List Int} {k : Int} (hb : ∀ x ∈ body, 0 ≤ x ∧ x < 256) (k0 : 0 ≤ k) (k1 : k + 1 < body.length) (ne : body.getD k.toNat 0 ≠ body.getD (k + 1).toNat 0) :
    told ((body.set k.toNat (body.getD (k + 1).toNat 0)).set (k + 1).toNat (body.getD k.toNat 0) ++ List.drop (body.length : Int).toNat (body ++ le8 8 (ckn body))) = .err "bad_check" (body.length : Int) := by
  have ek : (k + 1).toNat = k.toNat + 1 := by omega
  rw [ek] at ne ⊢
  rw [Int.toNat_natCast, List.drop_left]
  obtain ⟨pre, post, a, b, e1, e2, ga, gb⟩ := swap_split (l := body) (i := k.toNat) (by omega)
  rw [ga, gb] at ne
  have ha := hb a (by rw [e1]; exact List.mem_append_right _ (.head _))
  have hbb := hb b (by rw [e1]; exact List.mem_append_right _ (.tail _ (.head _)))
  have hl : (pre ++ b :: a :: post).length = body.length := by
    rw [e1]; simp only [List.length_append, List.length_cons]
  have hsw : ∀ x ∈ pre ++ b :: a :: post, 0 ≤ x ∧ x < 256 := fun x hx => by
    refine hb x ?_
    rw [e1]
    simp only [List.mem_append, List.mem_cons] at hx ⊢
    rcases hx with h | h | h | h
    · exact .inl h
    · exact .inr (.inr (.inl h))
    · exact .inr (.inl h)
    · exact .inr (.inr (.inr h))
  have hne : leV (le8 8 (ckn body)) ≠ ckn (pre ++ b :: a :: post) := by
    rw [leV_chk]
    intro q
    rw [e1] at q
    exact ne (ckn_swap ha.1 ha.2 hbb.1 hbb.2 q)
  rw [e2, told_bad_of (le8_len 8 _) hsw (le8_bytes 8 _) hne, hl]
end Mine
end
section
open PySem PySem.W PySem.Spec PySem.Calls PyProof.Rows
set_option maxRecDepth 100000
namespace Mine
theorem join_if {M : Model} {A : Around} {test body orelse : Expr} {pos : Pos} {env : Env} {Q : Value → Shared → Prop} {E : Value → Shared → Prop} {s : Shared} (P : Int → Prop)
    (h : wpAny M A (isTrue test env (eval test env)) (fun c s₂ => if c then wpAny M A (eval body env) (fun v s' => Stop (∃ n t tk, v = .int n t ∧ P n ∧ s' = { s with toks := tk })) E s₂
      else wpAny M A (eval orelse env) (fun v s' => Stop (∃ n t tk, v = .int n t ∧ P n ∧ s' = { s with toks := tk })) E s₂) E s)
    (k : ∀ n t tk, P n → Q (.int n t) { s with toks := tk }) : wpAny M A (eval (.IfExp test body orelse pos) env) Q E s :=
  wpAny_mono (IfExp_ h) (fun v s' z => by
    obtain ⟨n, t, tk, rfl, p, rfl⟩ := z
    exact k n t tk p) fun _ _ x => x
theorem fmod7 (a : Int) : 0 ≤ a.fmod 7 ∧ a.fmod 7 < 7 := by
  rw [Int.fmod_eq_emod_of_nonneg _ (by decide)]; omega
theorem kr_bound {a k : Int} {n : Nat} (h : k ∈ rangeKs a n) : a ≤ k ∧ k < a + n := by
  unfold rangeKs at h
  obtain ⟨i, hi, rfl⟩ := List.mem_map.mp h
  have := List.mem_range.mp hi
  omega
theorem nums_ok {ys : List Value} {f : Int → Int} {m : Int} (hI : IntsAre ys (List.map f (rangeKs 0 (m - 0).toNat))) (h0 : 0 ≤ m) (h7 : m < 7) (hf : ∀ k, 0 ≤ k → k < 7 → -900000 < f k ∧ f k < 900000) :
    ∃ nums, IntsAre ys nums ∧ nums.length < 7 ∧ ∀ n ∈ nums, -900000 < n ∧ n < 900000 := by
  refine ⟨_, hI, by rw [List.length_map, rangeKs_length]; omega, fun n hn => ?_⟩
  obtain ⟨k, hk, rfl⟩ := List.mem_map.mp hn
  have hk := kr_bound hk
  exact hf k (by omega) (by omega)
theorem num_bound {c : Prop} [Decidable c] {a b k : Int} (h0 : 0 ≤ k) (h7 : k < 7) (hb : b = 5 * k) : -900000 < (if c then a.fmod (2 ^ Int.toNat 20) - 2 ^ Int.toNat 18 else b) ∧ (if c then a.fmod (2 ^ Int.toNat 20) - 2 ^ Int.toNat 18 else b) < 900000 := by
  have e : (2 : Int) ^ Int.toNat 20 = 1048576 := by decide
  have e2 : (2 : Int) ^ Int.toNat 18 = 262144 := by decide
  rw [e, e2, Int.fmod_eq_emod_of_nonneg _ (by decide)]
  split <;> omega
theorem w_three {g h : Heap} {L : Addr} {a b c : Addr × Obj} {r : List (Addr × Obj)} (N : News g L h (a :: b :: c :: r)) : News g L h [b, c, a] := fun p hp => by
  rcases List.mem_cons.mp hp with rfl | hp
  · exact N _ (.tail _ (.head _))
  · rcases List.mem_cons.mp hp with rfl | hp
    · exact N _ (.tail _ (.tail _ (.head _)))
    · rw [List.mem_singleton.mp hp]; exact N _ (.head _)
theorem w_back {g h h' : Heap} {L lo x dx : Addr} {o1 o2 o3 o1' : Obj} {r : List (Addr × Obj)} (N : News g L h ((lo, o1) :: (x, o2) :: (dx, o3) :: r)) (N1 : News g L h' [(x, o2), (dx, o3), (lo, o1')])
    (keep : ∀ b o, h.get? b = some o → b ≠ lo → b ≠ x → b ≠ dx → h'.get? b = some o) (hr : ∀ p ∈ r, p.1 ≠ lo ∧ p.1 ≠ x ∧ p.1 ≠ dx) : News g L h' ((lo, o1') :: (x, o2) :: (dx, o3) :: r) := fun p hp => by
  rcases List.mem_cons.mp hp with rfl | hp
  · exact N1 _ (.tail _ (.tail _ (.head _)))
  · rcases List.mem_cons.mp hp with rfl | hp
    · exact N1 _ (.head _)
    · rcases List.mem_cons.mp hp with rfl | hp
      · exact N1 _ (.tail _ (.head _))
      · have z := N p (.tail _ (.tail _ (.tail _ hp)))
        have y := hr p hp
        exact ⟨keep _ _ z.1 y.1 y.2.1 y.2.2, z.2⟩
theorem w_ne {l x d D c : Nat} (h1 : x < l ∧ d < l ∧ D < l ∧ c < l) (h2 : D < d ∧ c < d) (h3 : d < x) : x ≠ d ∧ x ≠ l ∧ d ≠ l ∧ (D ≠ l ∧ D ≠ x ∧ D ≠ d) ∧ (c ≠ l ∧ c ≠ x ∧ c ≠ d) := by omega
theorem two_all {P : Addr × Obj → Prop} {a b : Addr × Obj} (h1 : P a) (h2 : P b) : ∀ p ∈ [a, b], P p := fun p hp => by
  rcases List.mem_cons.mp hp with rfl | hp
  · exact h1
  · rw [List.mem_singleton.mp hp]; exact h2
theorem encR_bytes {r : Int} (h0 : 0 ≤ r) (h1 : r < 2000000) : ∀ b ∈ encR r, 0 ≤ b ∧ b < 256 := by
  unfold encR
  intro b hb
  split at hb
  · rw [List.mem_singleton.mp hb]; omega
  · split at hb
    · rcases List.mem_cons.mp hb with rfl | hb
      · omega
      · rw [List.mem_singleton.mp hb]; omega
    · rcases List.mem_cons.mp hb with rfl | hb
      · omega
      · rcases List.mem_cons.mp hb with rfl | hb
        · omega
        · rw [List.mem_singleton.mp hb]; omega
theorem enc_bytes {n : Int} (h0 : -900000 < n) (h1 : n < 900000) : ∀ b ∈ enc n, 0 ≤ b ∧ b < 256 := encR_bytes (zig_bound n h0 h1).1 (zig_bound n h0 h1).2
theorem body_ok {vb : List Value} {nums : List Int} (hI : IntsAre vb ([] ++ enc nums.length ++ nums.flatMap enc)) (hl : nums.length < 7) (hb : ∀ n ∈ nums, -900000 < n ∧ n < 900000) :
    ∃ body, body = enc nums.length ++ nums.flatMap enc ∧ IntsAre vb body ∧ 1 ≤ body.length ∧ body.length < 22 ∧ vb.length = body.length ∧ ∀ b ∈ body, 0 ≤ b ∧ b < 256 := by
  rw [List.nil_append] at hI
  have e1 : (enc (nums.length : Int)).length = 1 := by
    have z : enc (nums.length : Int) = [zig (nums.length : Int)] := if_pos (by rw [zig_pos (by omega)]; omega)
    rw [z]; rfl
  have e2 := (encs_len nums).2
  refine ⟨_, rfl, hI, ?_, ?_, IntsAre.length hI, fun b hb' => ?_⟩
  · rw [List.length_append]; omega
  · rw [List.length_append]; omega
  · rcases List.mem_append.mp hb' with h | h
    · exact enc_bytes (by omega) (by omega) b h
    · obtain ⟨n, hn, hbn⟩ := List.mem_flatMap.mp h
      exact enc_bytes (hb n hn).1 (hb n hn).2 b hbn
theorem news_add {g h h' : Heap} {L d : Addr} {o : Obj} {m : Str → Option Value} {news : List (Addr × Obj)} (F : Fr g L h m) (N : News g L h news) (keep : ∀ b o, h.get? b = some o → h'.get? b = some o) (hd : h'.get? d = some o) (hn : h.get? d = none) : News g L h' ((d, o) :: news) := fun p hp => by
  rcases List.mem_cons.mp hp with rfl | hp
  · exact one_news F hd hn _ (.head _)
  · exact news_keep N keep p hp
theorem add_ne {g h : Heap} {L d : Addr} {news : List (Addr × Obj)} (N : News g L h news) (hn : h.get? d = none) : ∀ p ∈ news, p.1 ≠ d := fun p hp z => by
  have := (N p hp).1
  rw [z, hn] at this
  cases this
theorem news_sub {g h : Heap} {L : Addr} {news l : List (Addr × Obj)} (N : News g L h news) (hs : ∀ p ∈ l, p ∈ news) : News g L h l := fun p hp => N p (hs p hp)
theorem news_keepL {g h h' : Heap} {L : Addr} {news : List (Addr × Obj)} (N : News g L h news) (k : ∀ b o, b ≠ L → h.get? b = some o → h'.get? b = some o) : News g L h' news := fun p hp => ⟨k _ _ (N p hp).2.1 (N p hp).1, (N p hp).2⟩
theorem news_add2 {g h h' : Heap} {L d e : Addr} {o q : Obj} {m : Str → Option Value} {news : List (Addr × Obj)} (F : Fr g L h m) (N : News g L h news) (keep : ∀ b o, b ≠ L → h.get? b = some o → h'.get? b = some o) (hd : h'.get? d = some o) (he : h'.get? e = some q) (dn : h.get? d = none) (en : h.get? e = none) : News g L h' ((d, o) :: (e, q) :: news) := fun p hp => by
  have ne : ∀ {d : Addr}, h.get? d = none → d ≠ L ∧ g.get? d = none := fun {d} hn => by
    refine ⟨fun z => ?_, kts_none F.keep hn⟩
    obtain ⟨oL, _, _, hL, _⟩ := F.ns
    rw [z, hL] at hn
    cases hn
  rcases List.mem_cons.mp hp with rfl | hp
  · exact ⟨hd, ne dn⟩
  · rcases List.mem_cons.mp hp with rfl | hp
    · exact ⟨he, ne en⟩
    · exact news_keepL N keep p hp
theorem told_ok {ns b c : List Int} (h : told ns = .ok b) (k : told ns = .ok c) : c = b := by
  rw [h] at k; cases k; rfl
theorem told_no {ns b : List Int} {P : Prop} {w : Str} {n : Int} (h : told ns = .ok b) (k : told ns = .err w n) : P := by
  rw [h] at k; cases k
theorem rd_ne {l d x a b c e : Nat} (h1 : l < d ∧ a < d ∧ b < d ∧ c < d ∧ e < d) (h2 : d < x) : x ≠ d ∧ l ≠ x ∧ l ≠ d ∧ (a ≠ x ∧ a ≠ d) ∧ (b ≠ x ∧ b ≠ d) ∧ (c ≠ x ∧ c ≠ d) ∧ (e ≠ x ∧ e ≠ d) := by omega
theorem four_ne {x d l : Addr} {a b c e : Addr × Obj} (ha : a.1 ≠ x ∧ a.1 ≠ d) (hb : b.1 ≠ x ∧ b.1 ≠ d) (hc : c.1 ≠ x ∧ c.1 ≠ d) (he : e.1 ≠ x ∧ e.1 ≠ d) (hl : ∀ p ∈ [a, b, c, e], p.1 ≠ l) : ∀ p ∈ [a, b, c, e], p.1 ≠ x ∧ p.1 ≠ d ∧ p.1 ≠ l := fun p hp => by
  have z := hl p hp
  rcases List.mem_cons.mp hp with rfl | hp
  · exact ⟨ha.1, ha.2, z⟩
  · rcases List.mem_cons.mp hp with rfl | hp
    · exact ⟨hb.1, hb.2, z⟩
    · rcases List.mem_cons.mp hp with rfl | hp
      · exact ⟨hc.1, hc.2, z⟩
      · obtain rfl := List.mem_singleton.mp hp
        exact ⟨he.1, he.2, z⟩
theorem join_bin {M : Model} {A : Around} {l r : Expr} {op : Operator} {pos : Pos} {env : Env} {Q : Value → Shared → Prop} {E : Value → Shared → Prop} {s : Shared} (P : Int → Prop)
    (h : wpAny M A (eval l env) (fun a s₁ => wpAny M A (eval r env) (fun b s₂ => wpAny M A (binaryOp op a b) (fun v s' => Stop (∃ n t tk, v = .int n t ∧ P n ∧ s' = { s with toks := tk })) E s₂) E s₁) E s)
    (k : ∀ n t tk, P n → Q (.int n t) { s with toks := tk }) : wpAny M A (eval (.BinOp l op r pos) env) Q E s :=
  wpAny_mono (wpAny_BinOp h) (fun v s' z => by
    obtain ⟨n, t, tk, rfl, p, rfl⟩ := z
    exact k n t tk p) fun _ _ x => x
theorem fmod_len (x : Int) {b c : Nat} (hc : c = 8) : 0 ≤ x.fmod ((b + c : Nat) : Int) ∧ x.fmod ((b + c : Nat) : Int) < b + 8 := by
  have h1 := Int.fmod_nonneg_of_pos x (b := ((b + c : Nat) : Int)) (by omega)
  have h2 := Int.fmod_lt_of_pos x (b := ((b + c : Nat) : Int)) (by omega)
  omega
theorem fmod_amount (x : Int) : 1 ≤ 1 + x.fmod 255 ∧ 1 + x.fmod 255 < 256 := by
  rw [Int.fmod_eq_emod_of_nonneg _ (by decide)]; omega
theorem told_err {ns : List Int} {w v : Str} {n m : Int} (h : told ns = .err w n) (k : told ns = .err v m) : v = w ∧ m = n := by
  rw [h] at k; cases k; exact ⟨rfl, rfl⟩
theorem told_not {ns b : List Int} {P : Prop} {w : Str} {n : Int} (h : told ns = .err w n) (k : told ns = .ok b) : P := by
  rw [h] at k; cases k
theorem news_add1L {g h h' : Heap} {L d : Addr} {o : Obj} {m : Str → Option Value} {news : List (Addr × Obj)} (F : Fr g L h m) (N : News g L h news) (keep : ∀ b o, b ≠ L → h.get? b = some o → h'.get? b = some o) (hd : h'.get? d = some o) (dn : h.get? d = none) : News g L h' ((d, o) :: news) := fun p hp => by
  rcases List.mem_cons.mp hp with rfl | hp
  · refine ⟨hd, fun z => ?_, kts_none F.keep dn⟩
    obtain ⟨oL, _, _, hL, _⟩ := F.ns
    have z : d = L := z
    rw [z, hL] at dn
    cases dn
  · exact news_keepL N keep p hp
theorem bad_item {k : Int} {t1 t2 t3 : Tok} (h0 : 0 ≤ k) (h3 : k < 3) : ∃ n t, [Value.int 256 t1, Value.int (-1) t2, Value.int 1000 t3][k.toNat]? = some (.int n t) ∧ badB n = true := by
  have : k = 0 ∨ k = 1 ∨ k = 2 := by omega
  rcases this with rfl | rfl | rfl
  · exact ⟨_, _, rfl, rfl⟩
  · exact ⟨_, _, rfl, rfl⟩
  · exact ⟨_, _, rfl, rfl⟩
theorem bad_sub {prog : Program} {w : World} {A : Around} {E : Value → Shared → Prop} {s : Shared} {Q : Value → Shared → Prop} {value slice : PySem.Expr} {l : Addr} {k : Int} {u t1 t2 t3 : Tok} {n0 : Nat}
    (hl : s.heap.get? l = some (W.listOf #[Value.int 256 t1, Value.int (-1) t2, Value.int 1000 t3] n0)) (h0 : 0 ≤ k) (h3 : k < 3) (h : ∀ n t, badB n = true → Q (.int n t) s)
    (hs : subscripted slice false (.ref l) (.int k u) = operate [.ref l, .int k u] (getItem (.ref l) (.int k u))) :
    wpAny (model prog w) A (subscriptTail value slice (.ref l) (.int k u)) Q E s := by
  obtain ⟨n, t, hx, hb⟩ := bad_item (t1 := t1) (t2 := t2) (t3 := t3) h0 h3
  have hL : s.heap.IsList l [Value.int 256 t1, Value.int (-1) t2, Value.int 1000 t3].toArray := ⟨_, hl, rfl, _, rfl⟩
  exact tail_any hL.typeIs PySem.F.slot_list_getitem.lookup (wpAny_getItem_list hL h0 (by omega) (by simpa using hx) (h n t hb)) hs
theorem fmod3 (a : Int) : 0 ≤ a.fmod 3 ∧ a.fmod 3 < 3 := by
  rw [Int.fmod_eq_emod_of_nonneg _ (by decide)]; omega
theorem fmod8 (a : Int) : 0 ≤ a.fmod 8 ∧ a.fmod 8 < 8 := by
  rw [Int.fmod_eq_emod_of_nonneg _ (by decide)]; omega
theorem keep_four {g hp : Heap} {L : Addr} {a b c d e f i j k l : Addr × Obj} (N : News g L hp [a, b, c, d, e, f, i, j, k, l]) : News g L hp [d, e, k, l] := fun p hq => by
  rcases List.mem_cons.mp hq with rfl | hq
  · exact N _ (.tail _ (.tail _ (.tail _ (.head _))))
  · rcases List.mem_cons.mp hq with rfl | hq
    · exact N _ (.tail _ (.tail _ (.tail _ (.tail _ (.head _)))))
    · rcases List.mem_cons.mp hq with rfl | hq
      · exact N _ (.tail _ (.tail _ (.tail _ (.tail _ (.tail _ (.tail _ (.tail _ (.tail _ (.head _)))))))))
      · rw [List.mem_singleton.mp hq]
        exact N _ (.tail _ (.tail _ (.tail _ (.tail _ (.tail _ (.tail _ (.tail _ (.tail _ (.tail _ (.head _))))))))))
section
local macro_rules | `(tactic| size_fits) => `(tactic| (simp only [Array.size_push, List.size_toArray]; rw [PySem.sizeLine_eq]; omega))
local macro_rules | `(tactic| walk_at "call ref") => `(tactic| (k_here; (with_reducible show wpAny _ _ (call (Value.ref 191) _) _ _ _); refine stop_of ?_))
local macro_rules | `(tactic| walk_at "call ref") => `(tactic| (k_here; (with_reducible show wpAny _ _ (call (Value.ref 198) _) _ _ _); refine stop_of ?_))
local macro_rules | `(tactic| walk_at "call ref") => `(tactic| (k_here; (with_reducible show wpAny _ _ (call (Value.ref 109) _) _ _ _); refine stop_of ?_))
local macro_rules | `(tactic| walk_at "call ref") => `(tactic| (k_here; (with_reducible show wpAny _ _ (call (Value.ref 177) _) _ _ _); refine stop_of ?_))
local macro_rules | `(tactic| walk_at "call ref") => `(tactic| (k_here; (with_reducible show wpAny _ _ (call (Value.ref 67) _) _ _ _); refine stop_of ?_))
local macro_rules | `(tactic| walk_at "eval IfExp") => `(tactic| (k_here; (with_reducible show wpAny _ _ (eval (Expr.IfExp (Expr.Compare _ [CmpOp.Gt] [Expr.Constant (Const.int 0) _ _] _) _ _ _) _) _ _ _); refine stop_of ?_))
local macro_rules | `(tactic| walk_at "eval BinOp") => `(tactic| (k_here; (with_reducible show wpAny _ _ (eval (Expr.BinOp (Expr.IfExp _ _ _ _) _ (Expr.Call _ _ _ _) _) _) _ _ _); refine stop_of ?_))
local macro_rules | `(tactic| walk_at "eval BinOp") => `(tactic| (k_here; (with_reducible show wpAny _ _ (eval (Expr.BinOp _ Operator.Add (Expr.BinOp (Expr.IfExp _ _ _ _) _ _ _) _) _) _ _ _); refine stop_of ?_))
local macro_rules | `(tactic| walk_at "compareOp NotEq ref ref") => `(tactic| (k_here; refine stop_of ?_))
local macro_rules | `(tactic| walk_at "compareOp Eq ref ref") => `(tactic| (k_here; refine stop_of ?_))
local macro_rules | `(tactic| walk_at "pyIter ref") => `(tactic| (k_here; refine stop_of ?_))
local macro_rules | `(tactic| walk_at "InvEndN") => `(tactic| (k_here; refine stop_of ?_))
local macro_rules | `(tactic| walk_at "subscriptTail") => `(tactic| (k_here; (with_reducible show wpAny _ _ (subscriptTail (Expr.List _ _) _ (Value.ref _) (Value.int _ _)) _ _ _); refine stop_of ?_))
local macro_rules | `(tactic| walk_at "subscriptTail Name Slice ref ref") => `(tactic| (k_here; (with_reducible show wpAny _ _ (subscriptTail _ (Expr.Slice (some _) none none _) (Value.ref _) (Value.ref _)) _ _ _); refine stop_of ?_))
set_option maxHeartbeats 16000000 in
theorem law_holds : PySem.Challenge.rw_pq0744_01.Holds := hd (by
  k_go0
  (all_goals try k_fold)
  k_steps
  all_goals (try k_data)
  unfold Stop
  refine join_if (fun n => 0 ≤ n ∧ n < 7) ?_ ?_
  · k_steps
    all_goals (try k_data)
    all_goals (unfold Stop; refine ⟨_, _, _, rfl, ?_, rfl⟩)
    · exact fmod7 _
    · decide
  intro m tm tk hm
  have hm0 := hm.1
  have hm7 := hm.2
  clear hm
  (try dsimp only)
  k_steps
  all_goals (try k_data)
  unfold Stop
  (rename IntsAre _ (List.map _ _) => hnI)
  (rename News _ _ _ _ => lN); (rename Fr _ _ _ _ => lF)
  obtain ⟨nums, hnI', hnl, hnb⟩ := nums_ok hnI (by assumption) (by assumption) (fun k k0 k7 => num_bound k0 k7 rfl)
  clear hnI
  obtain ⟨ne1, ne2, ne3, neD, neC⟩ := w_ne (by assumption) (by assumption) (by assumption)
  refine' ws_call (vs := []) (os := []) (nums := nums) ?k1 lF ?k3 ?k4 rfl (w_three lN) ne1 ne2 ne3 .nil ⟨_, (lN _ (.tail _ (.tail _ (.tail _ (.head _))))).1, rfl, _, rfl⟩ hnI' neD.1 neD.2.1 neD.2.2 (by omega) (fun n hn => ⟨Int.lt_trans (by decide) (hnb n hn).1, Int.lt_trans (hnb n hn).2 (by decide)⟩) (by decide) ?kd ?ku ?_
  (case k1 => assumption)
  (case k3 => assumption)
  (case k4 => assumption)
  (case kd => ktr_room)
  (case ku => ktr_units)
  intro vb nb h1 tk1 F1 N1 hib keep1
  have N1' := w_back lN N1 keep1 (two_all neD neC)
  clear lN lF N1
  obtain ⟨body, hbody, hib', hb1, hb2, hb3, hbb⟩ := body_ok hib hnl hnb
  clear hib
  (try dsimp only)
  k_steps
  all_goals (try k_data)
  unfold Stop
  (rename News _ _ _ _ => lN); (rename Fr _ _ _ _ => lF)
  refine' lc_call (vs := vb) (ns := body) ?k1 lF ?k3 ?k4 rfl ⟨_, (lN _ (.head _)).1, rfl, _, rfl⟩ hib' (by omega) hbb ?kd ?ku ?_
  (case k1 => assumption)
  (case k3 => assumption)
  (case k4 => assumption)
  (case kd => ktr_room)
  (case ku => ktr_units)
  intro lD vd nd h2 tk2 F2 keep2 hlD hid hlDn
  have N2 := news_add lF lN keep2 hlD hlDn
  have neD2 := add_ne lN hlDn
  clear lN lF
  (try dsimp only)
  k_steps
  all_goals (try k_data)
  unfold Stop
  (rename News _ _ _ _ => lN); (rename Fr _ _ _ _ => lF)
  have htold := told_closed hbb
  have hlenC := le8_len 8 (ckn body)
  have hlenD : (body ++ le8 8 (ckn body)).length = body.length + 8 := by rw [List.length_append, hlenC]
  refine' tl_call (vs := vd) (ns := body ++ le8 8 (ckn body)) ?k1 lF ?k3 ?k4 rfl ⟨_, (lN _ (.head _)).1, rfl, _, rfl⟩ hid (by omega) ?kd ?ku ?xb ?tb ?_ ?err
  (case k1 => assumption)
  (case k3 => assumption)
  (case k4 => assumption)
  (case kd => ktr_room)
  (case ku => ktr_units)
  (case xb => assumption)
  (case tb => assumption)
  (case err => intro wh n hw; exact told_no htold hw)
  intro body3 hb3' t3 tt3 l3 vs3 nn3 h3 tk3 F3 keep3 ht3 hl3 hi3 ht3n hl3n hlt3
  cases told_ok htold hb3'
  have N3 := news_add2 lF lN keep3 ht3 hl3 ht3n hl3n
  clear lN lF
  (try dsimp only)
  k_steps
  all_goals (try k_data)
  unfold Stop
  (rename News _ _ _ _ => lN)
  refine' ne_pair_list (ns := body) (vs := vs3) (ws := vb) (lN _ (.tail _ (.head _))).1 ⟨_, (lN _ (.tail _ (.tail _ (.head _)))).1, rfl, _, rfl⟩ hi3 (lN _ (.head _)).1 ⟨_, (lN _ (.tail _ (.tail _ (.tail _ (.tail _ (.head _)))))).1, rfl, _, rfl⟩ hib' (by kernel_rfl) ?ku ?_
  (case ku => ktr_units)
  have N4 := keep_four lN
  clear lN
  (try dsimp only)
  k_steps
  all_goals (try k_data)
  unfold Stop
  (rename News _ _ _ _ => lN); (rename Fr _ _ _ _ => lF)
  refine' cb_call (vs := vd) (ns := body ++ le8 8 (ckn body)) ?k1 lF ?k3 ?k4 rfl ⟨_, (lN _ (.head _)).1, rfl, _, rfl⟩ hid (by omega) ?kd ?ku ?_ ?err
  (case k1 => assumption)
  (case k3 => assumption)
  (case k4 => assumption)
  (case kd => ktr_room)
  (case ku => ktr_units)
  (case err => intro wh n hw; exact told_no htold hw)
  intro body5 hb5' l5 vs5 nn5 h5 tk5 F5 keep5 hl5 hi5 hl5n
  cases told_ok htold hb5'
  have N5 := news_add lF lN keep5 hl5 hl5n
  have neD5 := add_ne lN hl5n
  clear lN lF
  (try dsimp only)
  k_steps
  all_goals (try k_data)
  unfold Stop
  (rename News _ _ _ _ => lN); (rename Fr _ _ _ _ => lF)
  obtain ⟨r1, r2, r3, q1, q2, q3, q4⟩ := rd_ne (by assumption) (by assumption)
  refine' rs_call (vs := vs5) (ns := body) (nums := nums) (dr := _) ?k1 lF ?k3 ?k4 rfl lN r1 r2 r3 (four_ne q1 q2 q3 q4 neD5) hi5 (by omega) hbody hnb (by omega) ?kd ?ku ?_
  (case k1 => assumption)
  (case k3 => assumption)
  (case k4 => assumption)
  (case kd => ktr_room)
  (case ku => ktr_units)
  intro l6 vs6 h6 tk6 F6 N6 hi6
  clear lN lF
  (try dsimp only)
  k_steps
  all_goals (try k_data)
  unfold Stop
  refine' ne_intsK (ns := nums) (ms := nums) ⟨_, (N6 _ (.head _)).1, rfl, _, rfl⟩ hi6 ⟨_, (N6 _ (.tail _ (.tail _ (.tail _ (.head _))))).1, rfl, _, rfl⟩ hnI' (by ktr_units) ?_
  rw [decide_eq_true rfl]
  have N6' : News _ _ _ _ := fun p hp => N6 p (.tail _ hp)
  clear N6 r1 r2 r3 q1 q2 q3 q4 neD5
  k_steps
  all_goals (try k_data)
  unfold Stop
  have hvd := IntsAre.length hid
  refine join_bin (fun n => 0 ≤ n ∧ n < body.length + 8) ?_ ?_
  · k_steps
    all_goals (try k_data)
    all_goals (unfold Stop; exact ⟨_, _, _, rfl, fmod_len _ hlenC, rfl⟩)
  intro pl pt tk7 hpl
  have hp0 := hpl.1
  have hp1 := hpl.2
  clear hpl
  (try dsimp only)
  k_steps
  all_goals (try k_data)
  unfold Stop
  refine join_bin (fun n => 1 ≤ n ∧ n < 256) ?_ ?_
  · k_steps
    all_goals (try k_data)
    all_goals (unfold Stop; exact ⟨_, _, _, rfl, fmod_amount _, rfl⟩)
  intro am at_ tk8 ham
  have ha0 := ham.1
  have ha1 := ham.2
  clear ham
  (try dsimp only)
  k_steps
  all_goals (try k_data)
  unfold Stop
  (rename News _ _ _ _ => lN); (rename Fr _ _ _ _ => lF)
  (rename IntsAre (List.set _ _ _) _ => hisp)
  have htold1 := told_spoiled hbb hp0 hp1 ha0 ha1
  have hlen1 := congrArg List.length (rfl : (body ++ le8 8 (ckn body)).set pl.toNat (((body ++ le8 8 (ckn body)).getD pl.toNat 0 + am).fmod 256) = _)
  rw [List.length_set] at hlen1
  refine' tl_call (vs := vd.set pl.toNat _) (ns := (body ++ le8 8 (ckn body)).set pl.toNat (((body ++ le8 8 (ckn body)).getD pl.toNat 0 + am).fmod 256)) ?k1 lF ?k3 ?k4 rfl ⟨_, (lN _ (.head _)).1, rfl, _, rfl⟩ hisp (by omega) ?kd ?ku ?xb ?tb ?fine ?_
  (case k1 => assumption)
  (case k3 => assumption)
  (case k4 => assumption)
  (case kd => ktr_room)
  (case ku => ktr_units)
  (case xb => assumption)
  (case tb => assumption)
  (case fine => intro b9 hb9; exact told_not htold1 hb9)
  intro wh9 n9 hw9 t9 t91 t92 h9 tk9 F9 keep9 ht9 ht9n
  obtain ⟨e91, e92⟩ := told_err htold1 hw9
  subst e91 e92
  have N9 := news_add1L lF lN keep9 ht9 ht9n
  clear lN lF
  (try dsimp only)
  k_steps
  all_goals (try k_data)
  unfold Stop
  (rename News _ _ _ _ => lN)
  refine' ne_pair_int (n := body.length) (lN _ (.tail _ (.head _))).1 (lN _ (.head _)).1 (by kernel_rfl) ?ku ?_
  (case ku => ktr_units)
  have N10 : News _ _ _ _ := fun p hp => lN p (.tail _ (.tail _ hp))
  clear lN
  (try dsimp only)
  k_steps
  all_goals (try k_data)
  unfold Stop
  (rename News _ _ _ _ => lN)
  refine' bad_sub ?hl ?h0 ?h3 ?_ ?hs
  (case hl => exact (lN _ (.head _)).1)
  (case h0 => exact (fmod3 _).1)
  (case h3 => exact (fmod3 _).2)
  (case hs => with_unfolding_all rfl)
  intro bv bt hbv
  (try dsimp only)
  have N11 : News _ _ _ _ := fun p hp => lN p (.tail _ hp)
  clear lN
  k_steps
  all_goals (try k_data)
  unfold Stop
  (rename News _ _ _ _ => lN); (rename Fr _ _ _ _ => lF)
  (rename IntsAre (List.set (List.set _ _ _) _ _) _ => hisp2)
  have hbD : ∀ b ∈ body ++ le8 8 (ckn body), 0 ≤ b ∧ b < 256 := bytes_app hbb (le8_bytes 8 _)
  have htold2 := told_badbyte (b := ((body ++ le8 8 (ckn body)).getD pl.toNat 0 + am).fmod 256) hbD hp0 (by omega) (by omega) hbv
  refine' tl_call (vs := (vd.set pl.toNat _).set pl.toNat _) (ns := ((body ++ le8 8 (ckn body)).set pl.toNat (((body ++ le8 8 (ckn body)).getD pl.toNat 0 + am).fmod 256)).set pl.toNat bv) ?k1 lF ?k3 ?k4 rfl ⟨_, (lN _ (.head _)).1, rfl, _, rfl⟩ hisp2 (by rw [List.length_set, List.length_set]; omega) ?kd ?ku ?xb ?tb ?fine ?_
  (case k1 => assumption)
  (case k3 => assumption)
  (case k4 => assumption)
  (case kd => ktr_room)
  (case ku => ktr_units)
  (case xb => assumption)
  (case tb => assumption)
  (case fine => intro b12 hb12; exact told_not htold2 hb12)
  intro wh12 n12 hw12 t12 t121 t122 h12 tk12 F12 keep12 ht12 ht12n
  obtain ⟨e121, e122⟩ := told_err htold2 hw12
  subst e121 e122
  have N12 := news_add1L lF lN keep12 ht12 ht12n
  clear lN lF
  (try dsimp only)
  k_steps
  all_goals (try k_data)
  unfold Stop
  (rename News _ _ _ _ => lN)
  refine' ne_pair_int (lN _ (.tail _ (.head _))).1 (lN _ (.head _)).1 (by kernel_rfl) ?ku ?_
  (case ku => ktr_units)
  have N13 : News _ _ _ _ := fun p hp => lN p (.tail _ (.tail _ (.tail _ hp)))
  clear lN hisp2
  (try dsimp only)
  k_steps
  all_goals (try k_data)
  unfold Stop
  (rename Fr _ _ _ _ => lF'); (rename News _ _ _ _ => lN'); (rename IsRange _ _ _ _ _ _ _ _ => rgX)
  (with_unfolding_all refine' kst_range (σ := Unit) (fun _ => _) (fun _ => []) (fun _ => True) [Str.ofString "turned_body"] (fun _ _ => True) () (by rfl) (by exact rgX) (by exact small_one (by omega) (by omega) (by omega) (by omega)) (by exact rangeSize_nat _ _) lF' (by exact lN') trivial (fun _ hp => nomatch hp) trivial ?_ ?_)
  · intro _ kPre kK kT kU kH kTk kOwn kEq kLt kOff _ _ kFr kNews
    clear lF' lN'
    (try dsimp only [kstB] at kFr); (try dsimp only at kNews); (try k_fold)
    k_steps
    all_goals (try k_data)
    unfold Stop
    (rename News _ _ _ _ => lN); (rename Fr _ _ _ _ => lF)
    refine' kmk_slice_ints (ns := body ++ le8 8 (ckn body)) ?kzF ?kzN ?kzl ?kzp ?kzq hid ?kzm ?kzc ?_ ?kzs ?kzt ?kzz
    (case kzF => exact lF)
    (case kzN => exact lN)
    (case kzl => exact ⟨_, (lN _ (.tail _ (.head _))).1, rfl, _, rfl⟩)
    (case kzp => exact IsPart.int _ _)
    (case kzq => exact IsPart.none)
    (case kzm => exact kmk_from hid (by omega))
    (case kzc => exact rfl)
    (case kzs => with_unfolding_all rfl)
    (case kzt => intro _; with_unfolding_all rfl)
    (case kzz => size_fits)
    intro D13 ws13 h13 F13 N13 l13 hI13 _ _
    clear lN lF
    (try dsimp only)
    k_steps
    all_goals (try k_data)
    · unfold Stop
      (rename News _ _ _ _ => lN); (rename Fr _ _ _ _ => lF)
      (rename IntsAre _ (List.set (List.set _ _ _) _ _ ++ _) => hitb); (rename _ ≠ _ => hnab)
      have htold3 := told_turned (k := kK) hbb (by omega) (by omega) hnab
      have hlen3 : ((body.set kK.toNat (body.getD (kK + 1).toNat 0)).set (kK + 1).toNat (body.getD kK.toNat 0) ++ List.drop (body.length : Int).toNat (body ++ le8 8 (ckn body))).length < 900 := by
        rw [List.length_append, List.length_set, List.length_set, List.length_drop]; omega
      refine' tl_call ?k1 lF ?k3 ?k4 rfl ⟨_, (lN _ (.head _)).1, rfl, _, rfl⟩ hitb hlen3 ?kd ?ku ?xb ?tb ?fine ?_
      (case k1 => assumption)
      (case k3 => assumption)
      (case k4 => assumption)
      (case kd => ktr_room)
      (case ku => ktr_units)
      (case xb => assumption)
      (case tb => assumption)
      (case fine => intro b14 hb14; exact told_not htold3 hb14)
      intro wh14 n14 hw14 t14 t141 t142 h14 tk14 F14 keep14 ht14 ht14n
      obtain ⟨e141, e142⟩ := told_err htold3 hw14
      subst e141 e142
      have lN3 : News _ _ _ _ := fun p hp => lN p (.tail _ (.tail _ (.tail _ hp)))
      have N14 := news_add1L lF lN3 keep14 ht14 ht14n
      clear lN lN3 lF
      (try dsimp only)
      k_steps
      all_goals (try k_data)
      unfold Stop
      (rename News _ _ _ _ => lN)
      refine' ne_pair_int (n := body.length) (lN _ (.tail _ (.head _))).1 (lN _ (.head _)).1 (by kernel_rfl) ?ku ?_
      (case ku => ktr_units)
      have N15 : News _ _ _ _ := fun p hp => lN p (.tail _ (.tail _ hp))
      clear lN
      (try dsimp only)
      k_steps
      all_goals (try k_data)
      unfold Stop
      (rename News _ _ _ _ => lN); (rename Fr _ _ _ _ => lF)
      refine kst_end () lF lN (fun p hp => List.mem_append_left _ hp) (fun p hp => List.mem_append_right _ hp) rfl trivial (fun _ hp => nomatch hp) (fun z h1 _ h3 => ?_) trivial
      have h4 : z ≠ Str.ofString "turned_body" := fun e => absurd (e ▸ h3) (by decide +kernel)
      simp only [if_neg h4, if_neg h1, h3, if_false, Bool.false_eq_true]
    · unfold Stop
      (rename News _ _ _ _ => lN); (rename Fr _ _ _ _ => lF)
      refine kst_end () lF lN (fun p hp => List.mem_append_left _ hp) (fun p hp => List.mem_append_right _ hp) rfl trivial (fun _ hp => nomatch hp) (fun z h1 _ h3 => ?_) trivial
      simp only [if_neg h1, h3, if_false, Bool.false_eq_true]
  · intro _ kU kH kTk _ _ kFr kNews
    clear lF' lN'
    (try dsimp only [kstB] at kFr); (try dsimp only at kNews); (try k_fold)
    (try dsimp only)
    k_steps
    all_goals (try k_data)
    unfold Stop
    (rename News _ _ _ _ => lN); (rename Fr _ _ _ _ => lF)
    (rename IntsAre _ (List.take _ _) => hish)
    have hf8 := fmod8 n12
    have hlen4 : (List.take (n12.fmod 8).toNat (body ++ le8 8 (ckn body))).length < 8 := by rw [List.length_take]; omega
    have htold4 := told_cut hlen4
    refine' tl_call ?k1 lF ?k3 ?k4 rfl ⟨_, (lN _ (.head _)).1, rfl, _, rfl⟩ hish (Nat.lt_trans hlen4 (by decide)) ?kd ?ku ?xb ?tb ?fine ?_
    (case k1 => assumption)
    (case k3 => assumption)
    (case k4 => assumption)
    (case kd => ktr_room)
    (case ku => ktr_units)
    (case xb => assumption)
    (case tb => assumption)
    (case fine => intro b16 hb16; exact told_not htold4 hb16)
    intro wh16 n16 hw16 t16 t161 t162 h16 tk16 F16 keep16 ht16 ht16n
    obtain ⟨e161, e162⟩ := told_err htold4 hw16
    subst e161 e162
    have N16 := news_add1L lF lN keep16 ht16 ht16n
    clear lN lF
    (try dsimp only)
    k_steps
    all_goals (try k_data)
    unfold Stop
    (rename News _ _ _ _ => lN)
    refine' eq_pair_int (lN _ (.tail _ (.head _))).1 (lN _ (.head _)).1 (by kernel_rfl) ?ku ?_
    (case ku => ktr_units)
    (try dsimp only)
    k_steps
    all_goals (try k_data)
  done)
end
end Mine
end
theorem PySem.Challenge.cw_pq0744_01_holds : PySem.Challenge.rw_pq0744_01.Holds := by
  exact Mine.law_holds
