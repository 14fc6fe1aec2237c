import PyProof.Rows.All
import Wide.All
import OpenK.AllK
import Wide.FinOn
import PySem.Challenge.RW_rh0155_01
open PySem PySem.W PySem.Spec PySem.Calls PyProof.Rows PyProof.Rows.TI
set_option Elab.async false
set_option compiler.extract_closed false
set_option maxRecDepth 100000
set_option maxHeartbeats 8000000
namespace Mine
/-! part a0_head -/
open_top hd for PySem.Challenge.rw_rh0155_01
/-! part a1_flat -/
section
/-! flat frames: one base for every frame, a caller's frame an entry of the ledger -/
section
variable {prog : Program} {w : World} {A : Around} {s : Shared} {h₀ : Heap} {L : Addr} {m : Str → Option Value} {news : List (Addr × Obj)}
  {R : Result → Shared → Prop} {name qual : Str} {params : Arguments} {body : List Stmt} {scope : Scope} {cl : List (Str × Addr)} {dV kV doc pm cdv ct : Value} {an : Option Addr} {fo : Obj} {f : Addr} {args : Args} {binds : List (Str × Value)}

/-- a frame that goes on: its locals' object, whatever its slots -/
theorem caller_of (F : Fr h₀ L s.heap m) : ∃ oL, s.heap.get? L = some oL ∧ Caller h₀ L m oL := by
  obtain ⟨oL, es, ep, hL, hLd, hLk, hLf⟩ := F.ns
  exact ⟨oL, hL, ⟨fun h' sl e => ⟨_, es, ep, e, hLd, hLk, hLf⟩, ⟨es, ep, hLd⟩, F.above⟩⟩
theorem Caller.slots {oL : Obj} (C : Caller h₀ L m oL) (sl : Array (Option Value)) : Caller h₀ L m { oL with slots := sl } :=
  ⟨fun h' sl' e => C.ns h' sl' e, C.dict, C.above⟩

theorem news_in (F : Fr h₀ L s.heap m) (N : News h₀ L s.heap news) {oL : Obj} (hL : s.heap.get? L = some oL) {h₁ : Heap} (k : ∀ b o, s.heap.get? b = some o → h₁.get? b = some o) :
    News h₀ s.heap.objs.size h₁ ((L, oL) :: news) := fun p hp => by
  rcases List.mem_cons.mp hp with rfl | hp
  · exact ⟨k _ _ hL, Nat.ne_of_lt (Heap.lt_size hL), Heap.get?_none_of_le F.above⟩
  · exact ⟨k _ _ (N p hp).1, Nat.ne_of_lt (Heap.lt_size (N p hp).1), (N p hp).2.2⟩

def LeaveF (_L : Addr) (R : Result → Shared → Prop) (v : Value) (s' : Shared) : Prop := R (.ok (.ret v)) s'

theorem callF (F : Fr h₀ L s.heap m) (N : News h₀ L s.heap news) (hlim : h₀.NoLimit)
    (ho : s.heap.get? f = some fo) (hd : fo.data = .func (fnX name qual params body scope cl dV kV doc pm an cdv ct)) (hcd : s.heap.CodeRec cdv qual) (hroom : A.depth < recursionLimit)
    (hbind : BindsTo s (fnX name qual params body scope cl dV kV doc pm an cdv ct) args binds) (hloc : ∀ y ∈ binds, scope.names.lookup y.1 = some .local)
    (h : ∀ L' h₁ oL, Caller h₀ L m oL → Fr h₀ L' h₁ (fun y => binds.reverse.lookup y) → News h₀ L' h₁ ((L, oL) :: news) → L < L' → (∀ p ∈ news, p.1 < L') → (∀ p ∈ news, p.1 ≠ L) →
      wpAny (model prog w) (A.deeper (envX qual scope L' f cdv cl)) (execs body (envX qual scope L' f cdv cl))
        (fun fl s' => LeaveF L R (match fl with | .ret v => v | _ => .none) s')
        (fun e s' => wpAny (model prog w) (A.deeper (envX qual scope L' f cdv cl)) (leaving (envX qual scope L' f cdv cl) e) (fun _ s'' => R (.error e) s'') (fun e' s'' => R (.error e') s'') s')
        { s with heap := h₁, toks := s.toks + binds.length })
    (hcell : ∀ x ∈ scope.names, x.2 ≠ .cell) (hco : scope.isCoroutine = false) (hgen : scope.isGenerator = false) (hk : scope.kind = .function) : codeAny (model prog w) A (.call (.ref f) args) R s := by
  obtain ⟨oL, hL, C⟩ := caller_of F
  refine codeAny_call_def (fd := fnX name qual params body scope cl dV kV doc pm an cdv ct) (body := body) (binds := binds) hroom ho hd (hlim.keeps F.keep) hcd rfl hbind hcell hloc (fun h₁ hns hk₁ => ?_) hco hgen hk
  exact wpAny_mono (h s.heap.objs.size h₁ oL C ⟨hns, fun b o e => hk₁ b o (F.keep b o e), Nat.le_trans F.above (Nat.le_of_lt (Heap.lt_size hL))⟩
    (news_in F N hL hk₁) (Heap.lt_size hL) (fun p hp => Heap.lt_size (N p hp).1) (fun p hp => (N p hp).2.1)) (fun _ _ y => y) fun _ _ y => y

theorem callFC (F : Fr h₀ L s.heap m) (N : News h₀ L s.heap news) (hlim : h₀.NoLimit)
    (ho : s.heap.get? f = some fo) (hd : fo.data = .func (fnX name qual params body scope [] dV kV doc pm an cdv ct)) (hcd : s.heap.CodeRec cdv qual) (hroom : A.depth < recursionLimit)
    (hbind : BindsTo s (fnX name qual params body scope [] dV kV doc pm an cdv ct) args binds)
    (hkind : (binds.all fun y => scope.names.lookup y.1 == some .local || scope.names.lookup y.1 == some .cell) = true)
    (hnd : ((cellsFrom 0 scope.names []).map (·.1)).Nodup)
    (h : ∀ L' h₁ tk oL cells, Caller h₀ L m oL → Fr h₀ L' h₁ (bindL (envOfC qual scope L' f cdv).kindOf binds fun _ => none) → News h₀ L' h₁ (cells ++ ((L, oL) :: news)) →
      CellsAre (bindC (envOfC qual scope L' f cdv).kindOf binds fun _ => none) (cellsFrom (L' + 1) scope.names []) cells → L < L' → (∀ p ∈ news, p.1 < L') → (∀ p ∈ news, p.1 ≠ L) →
      wpAny (model prog w) (A.deeper (envOfC qual scope L' f cdv)) (execs body (envOfC qual scope L' f cdv))
        (fun fl s' => LeaveF L R (match fl with | .ret v => v | _ => .none) s')
        (fun e s' => wpAny (model prog w) (A.deeper (envOfC qual scope L' f cdv)) (leaving (envOfC qual scope L' f cdv) e) (fun _ s'' => R (.error e) s'') (fun e' s'' => R (.error e') s'') s')
        { s with heap := h₁, toks := tk })
    (hco : scope.isCoroutine = false) (hgen : scope.isGenerator = false) (hk : scope.kind = .function) : codeAny (model prog w) A (.call (.ref f) args) R s := by
  obtain ⟨oL, hL, C⟩ := caller_of F
  refine codeAny_call_function hroom ho hd hco hgen rfl hcd (hbind _ _ _ _ ?_)
  refine wpAny_newFunctionEnv_cells hk (kindsX hkind _) fun env' he s' x => ?_
  subst he
  refine ⟨(hlim.keeps F.keep).keeps x.toInCall.keep, codeAny_func ?_⟩
  obtain ⟨h₁, tk, rfl, _⟩ := x.done
  have hk₁ := x.toInCall.keep
  obtain ⟨cells, NC, Y⟩ := Cl.news (h₀ := s.heap) (Nat.le_refl _) fun n c hm => ⟨x.cell n c (lookup_of_mem_nodup (cellsFrom_names scope.names 0 (s.heap.objs.size + 1) [] [] rfl ▸ hnd) hm), x.above n c hm⟩
  refine wpAny_mono (h s.heap.objs.size h₁ tk oL cells C ⟨x.toInCall.ns, fun b o e => hk₁ b o (F.keep b o e), Nat.le_trans F.above (Nat.le_of_lt (Heap.lt_size hL))⟩ (fun p hp => ?_) Y (Heap.lt_size hL) (fun p hp => Heap.lt_size (N p hp).1) (fun p hp => (N p hp).2.1)) (fun _ _ y => y) fun _ _ y => y
  rcases List.mem_append.mp hp with hp | hp
  · exact ⟨(NC p hp).1, (NC p hp).2.1, none_of F.keep (NC p hp).2.2⟩
  · exact news_in F N hL hk₁ p hp
end

section
variable {prog : Program} {w : World} {A : Around} {s : Shared} {h₀ : Heap} {L : Addr} {m : Str → Option Value} {news : List (Addr × Obj)}
  {R : Result → Shared → Prop} {name qual : Str} {params : Arguments} {body : Expr} {scope : Scope} {cl : List (Str × Addr)} {pm ctv : Value} {c' f : Addr} {args : Args} {binds : List (Str × Value)}
/-- a lambda's call -/
theorem callFL (F : Fr h₀ L s.heap m) (N : News h₀ L s.heap news) (hlim : h₀.NoLimit)
    (ho : (f, kla_obj name qual params body scope cl pm c' ctv) ∈ news) (hcd : s.heap.CodeRec (.ref c') qual) (hroom : A.depth < recursionLimit)
    (hbind : bindArgs (kla_fn name qual params body scope cl pm (.ref c') ctv) args = pure binds) (hloc : ∀ y ∈ binds, scope.names.lookup y.1 = some .local)
    (h : ∀ L' h₁ oL, Caller h₀ L m oL → Fr h₀ L' h₁ (fun y => binds.reverse.lookup y) → News h₀ L' h₁ ((L, oL) :: news) → L < L' → (∀ p ∈ news, p.1 < L') → (∀ p ∈ news, p.1 ≠ L) →
      wpAny (model prog w) (A.deeper (envX qual scope L' f (.ref c') cl)) (eval body (envX qual scope L' f (.ref c') cl))
        (fun v s' => LeaveF L R v s')
        (fun e s' => wpAny (model prog w) (A.deeper (envX qual scope L' f (.ref c') cl)) (leaving (envX qual scope L' f (.ref c') cl) e) (fun _ s'' => R (.error e) s'') (fun e' s'' => R (.error e') s'') s')
        { s with heap := h₁, toks := s.toks + binds.length })
    (hco : scope.isCoroutine = false) (hgen : scope.isGenerator = false) (hk : scope.kind = .function)
    (hcell : ∀ x ∈ scope.names, x.2 ≠ .cell) : codeAny (model prog w) A (.call (.ref f) args) R s := by
  obtain ⟨oL, hL, C⟩ := caller_of F
  refine kla_callFunE hroom (N _ ho).1 rfl hco hgen rfl hcd ?_
  rw [hbind]
  refine wpAny_pure (wpAny_newFunctionEnv hcell hloc (fun h₁ hns hsb => ⟨(hlim.keeps F.keep).fresh _ hsb, ?_⟩) hk)
  show codeAny _ _ (.expr body (envX qual scope s.heap.objs.size f (.ref c') cl)) _ _
  have hk₁ : ∀ b o, s.heap.get? b = some o → h₁.get? b = some o := fun b o e => hsb.extBut b o (Nat.ne_of_lt (Heap.lt_size e)) (Heap.get?_push_of_some _ e)
  exact kla_codeExpr (wpAny_mono (h s.heap.objs.size h₁ oL C ⟨hns, fun b o e => hk₁ b o (F.keep b o e), Nat.le_trans F.above (Nat.le_of_lt (Heap.lt_size hL))⟩
    (news_in F N hL hk₁) (Heap.lt_size hL) (fun p hp => Heap.lt_size (N p hp).1) (fun p hp => (N p hp).2.1)) (fun _ _ y => y) fun _ _ y => y)
end

/-- an entry taken out of the ledger -/
inductive Rem (L : Addr) (o : Obj) : List (Addr × Obj) → List (Addr × Obj) → Prop
  | head {r} : (∀ p ∈ r, p.1 ≠ L) → Rem L o ((L, o) :: r) r
  | tail {p r r'} : p.1 ≠ L → Rem L o r r' → Rem L o (p :: r) (p :: r')
theorem Rem.mem {L : Addr} {o : Obj} : ∀ {l l' : List (Addr × Obj)}, Rem L o l l' → (L, o) ∈ l ∧ ∀ p ∈ l', p ∈ l ∧ p.1 ≠ L
  | _, _, .head h => ⟨.head _, fun p hp => ⟨.tail _ hp, h p hp⟩⟩
  | _, _, .tail h r =>
    ⟨.tail _ r.mem.1, fun p hp => by
      rcases List.mem_cons.mp hp with rfl | hp
      · exact ⟨.head _, h⟩
      · exact ⟨.tail _ (r.mem.2 p hp).1, (r.mem.2 p hp).2⟩⟩

theorem leaveF {h₀ : Heap} {L L' : Addr} {m m' : Str → Option Value} {oL : Obj} {news news' : List (Addr × Obj)} {R : Result → Shared → Prop} {v : Value} {s' : Shared}
    (C : Caller h₀ L m oL) (F' : Fr h₀ L' s'.heap m') (N' : News h₀ L' s'.heap news') (U : Rem L oL news' news)
    (k : Fr h₀ L s'.heap m → News h₀ L s'.heap news → R (.ok (.ret v)) s') : LeaveF L R v s' := by
  have hL := N' _ U.mem.1
  exact k ⟨C.ns _ oL.slots hL.1, F'.keep, C.above⟩ fun p hp => ⟨(N' p (U.mem.2 p hp).1).1, (U.mem.2 p hp).2, (N' p (U.mem.2 p hp).1).2.2⟩

theorem News.sub {h₀ h : Heap} {L : Addr} {a b : List (Addr × Obj)} (N : News h₀ L h a) (k : ∀ p ∈ b, p ∈ a) : News h₀ L h b := fun p hp => N p (k p hp)
end
/-! part a2_mkerr -/
section
theorem wpAny_room {α : Type} {M : Model} {A : Around} {t : Sem α} {Q : α → Shared → Prop} {E : Value → Shared → Prop} {s : Shared} {d u : Nat}
    (h : wpAny M { A with depth := d, units := u } t Q E s) (hd : A.depth ≤ d) (hu : A.units ≤ u) : wpAny M A t Q E s := fun Γ p hΓ =>
  h Γ p ⟨hΓ.1, Nat.le_trans hΓ.2.1 hd, hΓ.2.2.1, hΓ.2.2.2.1, Nat.le_trans hΓ.2.2.2.2 hu⟩

abbrev excObj (dx t : Addr) (tb : Value) : Obj := { cls := .ref 31, dict := some dx, data := .fields #[.ref t, tb, .none, .none, .bool false, .none] }
abbrev errDict (h1 h2 h3 : Int) (k1 k2 k3 : Tok) (v : Value) (tr : Addr) : Obj :=
  W.dictOf [⟨h1, .str (Str.ofString "value") k1, v⟩, ⟨h2, .str (Str.ofString "trace") k2, .ref tr⟩, ⟨h3, .str (Str.ofString "is_in_handler") k3, .bool false⟩] 3

def MadeErr (h : Heap) (g : Array GenState) (d : Drawn) (os : OsState) (v : Value) (r : Value) (s' : Shared) : Prop :=
  ∃ e dx t tr h' tk h1 h2 h3 k1 k2 k3, r = .ref e ∧ s' = ⟨h', g, d, tk, os⟩ ∧ (∀ b o, h.get? b = some o → h'.get? b = some o) ∧
    (h'.get? e = some (excObj dx t .none) ∧ h'.get? dx = some (errDict h1 h2 h3 k1 k2 k3 v tr)) ∧
    (h.get? e = none ∧ h.get? dx = none ∧ e < dx)
theorem made_of {h h' : Heap} {g : Array GenState} {d : Drawn} {os : OsState} {v : Value} {tr dx fr e t : Addr} {otr odx ofr oe ot : Obj} {tk : Nat}
    (D : X.Mem h h' [] [(tr, otr), (dx, odx), (fr, ofr), (e, oe), (t, ot)])
    (h1 h2 h3 : Int) (k1 k2 k3 : Tok) (e2 : odx = errDict h1 h2 h3 k1 k2 k3 v tr) (e3 : oe = excObj dx t .none) : MadeErr h g d os v (.ref e) ⟨h', g, d, tk, os⟩ := by
  subst e2 e3
  have o := D.ord
  simp only [List.map_cons, List.map_nil, List.pairwise_cons, List.mem_cons, List.not_mem_nil, or_false, forall_eq_or_imp, forall_eq] at o
  refine ⟨e, dx, t, tr, h', tk, h1, h2, h3, k1, k2, k3, rfl, rfl, fun b ob hb => D.keep b ob hb (by simp [X.away]), ⟨D.at 3 _ _ rfl, D.at 1 _ _ rfl⟩, (D.nw _ (List.mem_of_getElem? (i := 3) rfl)).2, (D.nw _ (List.mem_of_getElem? (i := 1) rfl)).2, ?_⟩
  exact Nat.lt_trans o.2.2.1.1 o.2.1.1
local macro_rules | `(tactic| x_close) => `(tactic| ((refine' made_of ?D _ _ _ _ _ _ ?a ?b; (case D => assumption)); (case b => with_unfolding_all rfl); (case a => with_unfolding_all rfl)))
theorem mk0 {w : World} {hdl : Option Value} {fr : Option (List Env)} {gd : Option (List Code)} (h : Heap) (g : Array GenState) (d : Drawn) (t : Nat) (os : OsState) (X : (hd.heap_39 w.params).In h) (v : Value) {E : Value → Shared → Prop} :
   wpAny (model PySem.Challenge.rw_rh0155_01.row.prog w) { handled := hdl, depth := 400, frames := fr, guards := gd, units := 4000 } (call (.ref 31) [v]) (MadeErr h g d os v) E ⟨h, g, d, t, os⟩ := by
  x_run
end
/-! part a3_errs -/
section
theorem fr_same {h₀ h h' : Heap} {L : Addr} {m : Str → Option Value} (F : Fr h₀ L h m) (k : ∀ b, h'.get? b = h.get? b) : Fr h₀ L h' m := by
  obtain ⟨⟨o, es, ep, ho, r⟩, kp, ab⟩ := F
  exact ⟨⟨o, es, ep, (k L).trans ho, r⟩, fun b o e => (k b).trans (kp b o e), ab⟩
theorem news_same {h₀ h h' : Heap} {L : Addr} {news : List (Addr × Obj)} (N : News h₀ L h news) (k : ∀ b, h'.get? b = h.get? b) : News h₀ L h' news :=
  fun p hp => ⟨(k p.1).trans (N p hp).1, (N p hp).2⟩

/-- the error in the air: its traceback's head is in no frame -/
def Fly (h : Heap) (e dx t : Addr) : Prop :=
  ∃ T oT ts, h.get? e = some (excObj dx t (.ref T)) ∧ T ≠ e ∧ h.get? T = some oT ∧ oT.data = .fields ts ∧ ts[3]? = some .none
/-- the error as made, or in the air -/
def Up (h : Heap) (e dx t : Addr) : Prop := h.get? e = some (excObj dx t .none) ∨ Fly h e dx t
/-- the error noted in the frame L -/
def Noted (h₀ h : Heap) (L e dx t : Addr) (led : List (Addr × Obj)) : Prop :=
  ∃ T oT ts, h.get? e = some (excObj dx t (.ref T)) ∧ T ≠ e ∧ h.get? T = some oT ∧ oT.data = .fields ts ∧ ts[3]? = some (rawInt L) ∧
    h₀.get? T = none ∧ T ≠ L ∧ ∀ p ∈ led, p.1 ≠ T

theorem up_there {h : Heap} {e dx t : Addr} (U : Up h e dx t) : ∃ tb, h.get? e = some (excObj dx t tb) := by
  rcases U with h1 | ⟨T, _, _, h1, _⟩
  · exact ⟨_, h1⟩
  · exact ⟨_, h1⟩

theorem set3_same {ts : Array Value} {x : Value} (h : ts[3]? = some x) : ts.setIfInBounds 3 x = ts := by
  apply Array.ext
  · simp
  · intro i h1 h2
    rw [Array.getElem_setIfInBounds]
    split
    · rename_i hi
      subst hi
      exact (Array.getElem?_eq_some_iff.mp h).2.symm
    · rfl
theorem upd_same {h : Heap} {T : Addr} {oT : Obj} {ts : Array Value} (hT : h.get? T = some oT) (hd : oT.data = .fields ts) (h3 : ts[3]? = some .none) (b : Addr) :
    (h.update T (Obj.mapFields (·.setIfInBounds 3 Value.none))).get? b = h.get? b := by
  by_cases q : b = T
  · subst q
    have hdm := Obj.data_mapFields hd (·.setIfInBounds 3 Value.none)
    rw [Heap.get?_update_self _ hT (Obj.isFreed_of_fields hdm), hT]
    obtain ⟨c, d, dt, sl⟩ := oT
    simp only at hd
    subst hd
    show some (⟨c, d, .fields (ts.setIfInBounds 3 .none), sl⟩ : Obj) = _
    rw [set3_same h3]
  · exact Heap.get?_update_other _ _ (Ne.symm q)

section
variable {M : Model} {A : Around} {E : Value → Shared → Prop} {s : Shared} {h₀ : Heap} {L e dx t : Addr} {m : Str → Option Value} {new frs : List (Addr × Obj)} {env : Env} {l : List Env} {tb : Value}

theorem entryF {head : Value} {hadNext : Bool} {Q : Unit → Shared → Prop} (hfr : A.frames = some (env :: l)) (hf : env.frame = some L) (hkind : env.scope.kind ≠ .module) (Fs : Frs l frs) (F : Fr h₀ L s.heap m) (N : News h₀ L s.heap (new ++ frs))
    (he : s.heap.get? e = some (excObj dx t tb)) (hen : h₀.get? e = none) (hap : ∀ p ∈ new, p.1 ≠ e ∧ p.1 ∉ frs.map (·.1))
    (k : ∀ h' frs', SameUp frs frs' → Fr h₀ L h' m → News h₀ L h' (new ++ frs') → Noted h₀ h' L e dx t (new ++ frs') → Q () { s with heap := h' }) :
    wpAny M A (do let a ← frameOf env; let pl ← entryPlaceOf L hadNext; let b ← EntryCells.newEntry head a .none (rawInt L) .none pl; setField (.ref e) 1 b) Q E s := by
  obtain ⟨oL, esL, epL, hL, hLd, hLk, hLf⟩ := F.ns
  have hLe : L ≠ e := fun q => by rw [q, he] at hL; cases hL; cases hLd
  have hFF : s.heap.FunFrames ({} : Heap) (env :: l) :=
    Heap.FunFrames.cons hkind hf F.ns rfl (Fs.fun fun p hp => ⟨(N p (List.mem_append_right _ hp)).1, rfl⟩)
  have hfs : (env :: l).filterMap (·.frame) = L :: frs.map (·.1) := by
    rw [List.filterMap_cons, hf, Fs.addrs]
  refine wpAny_bind (wpAny_frameOf_fun hfr hFF hf fun h₁ hs₁ => ?_)
  rw [hfs] at hs₁
  refine wpAny_bind (wpAny_entryPlaceOf fun pl hpl => ?_)
  unfold EntryCells.newEntry newFields
  refine wpAny_bind (wpAny_newObj_type ?_ (hpl.sizeOk5 _ _ _ _ _))
  have hfe : ∀ f ∈ L :: frs.map (·.1), f ≠ e := fun f hm q => by
    rcases List.mem_cons.mp hm with rfl | hm
    · exact hLe q
    · obtain ⟨p, hp, hpf⟩ := List.mem_map.mp hm
      obtain ⟨es, ep, hd⟩ := Fs.dict p hp
      have h2 := (N p (List.mem_append_right _ hp)).1
      rw [show p.1 = e from hpf.trans q, he] at h2
      have h3 := Option.some.inj h2
      rw [← h3] at hd
      cases hd
  have hene : e ∉ L :: frs.map (·.1) := fun hm => hfe e hm rfl
  have he₁ : h₁.get? e = some (excObj dx t tb) := (hs₁.2.1 e hene).trans he
  have he₂ := Heap.get?_push_of_some (h := h₁) { cls := .type "traceback", dict := none, data := .fields ([head, .ref L, .none, rawInt L, .none] ++ (if pl.isEmpty then List.replicate 6 Value.none else pl)).toArray } he₁
  refine wpAny_setField he₂ rfl (by show 1 < 6; decide) ?_
  have hTe : h₁.objs.size ≠ e := Nat.ne_of_gt (Heap.lt_size he₁)
  have he₃ := Heap.get?_update_self (Obj.mapFields (·.setIfInBounds 1 (Value.ref h₁.objs.size))) he₂ rfl
  have hT₃ := (Heap.get?_update_other (h₁.push { cls := .type "traceback", dict := none, data := .fields ([head, .ref L, .none, rawInt L, .none] ++ (if pl.isEmpty then List.replicate 6 Value.none else pl)).toArray })
    (Obj.mapFields (·.setIfInBounds 1 (Value.ref h₁.objs.size))) (Ne.symm hTe)).trans (Heap.get?_push_size h₁ rfl)
  have keep : ∀ b o, b ≠ e → h₁.get? b = some o →
      ((h₁.push { cls := .type "traceback", dict := none, data := .fields ([head, .ref L, .none, rawInt L, .none] ++ (if pl.isEmpty then List.replicate 6 Value.none else pl)).toArray }).update e (Obj.mapFields (·.setIfInBounds 1 (Value.ref h₁.objs.size)))).get? b = some o :=
    fun b o hbe hb => by
      rw [Heap.get?_update_other _ _ (Ne.symm hbe)]
      exact Heap.get?_push_of_some _ hb
  generalize hH : ((h₁.push { cls := .type "traceback", dict := none, data := .fields ([head, .ref L, .none, rawInt L, .none] ++ (if pl.isEmpty then List.replicate 6 Value.none else pl)).toArray }).update e (Obj.mapFields (·.setIfInBounds 1 (Value.ref h₁.objs.size)))) = H at *
  have other : ∀ b o, b ≠ e → b ∉ L :: frs.map (·.1) → s.heap.get? b = some o → H.get? b = some o := fun b o hbe hb ho => keep b o hbe ((hs₁.2.1 b hb).trans ho)
  have fup : ∀ b o, b ∈ L :: frs.map (·.1) → s.heap.get? b = some o → ∃ sl, H.get? b = some { o with slots := sl } := fun b o hb ho => by
    obtain ⟨sl, hs⟩ := hs₁.2.2 b o ho
    exact ⟨sl, keep b _ (hfe b hb) hs⟩
  obtain ⟨frs', SU, ht⟩ := sameUp_of (h' := H) (frs := frs) fun p hp => fup p.1 p.2 (List.mem_cons_of_mem _ (List.mem_map_of_mem hp)) (N p (List.mem_append_right _ hp)).1
  obtain ⟨slL, hL'⟩ := fup L oL List.mem_cons_self hL
  have base_ne : ∀ b o, h₀.get? b = some o → b ∉ L :: frs.map (·.1) := fun b o hb hm => by
    rcases List.mem_cons.mp hm with rfl | hm
    · exact absurd (Nat.lt_of_lt_of_le (Heap.lt_size hb) F.above) (Nat.lt_irrefl _)
    · obtain ⟨p, hp, rfl⟩ := List.mem_map.mp hm
      have := (N p (List.mem_append_right _ hp)).2.2
      rw [hb] at this; cases this
  have szT : ∀ b o, s.heap.get? b = some o → b ≠ h₁.objs.size := fun b o hb => by
    have := Heap.lt_size hb
    rw [← hs₁.1] at this
    exact Nat.ne_of_lt this
  have F' : Fr h₀ L H m := ⟨⟨_, esL, epL, hL', hLd, hLk, hLf⟩, fun b o hb => other b o (fun q => by rw [q, hen] at hb; cases hb) (base_ne b o hb) (F.keep b o hb), F.above⟩
  have N' : News h₀ L H (new ++ frs') := fun p hp => by
    rcases List.mem_append.mp hp with hp | hp
    · have n := N p (List.mem_append_left _ hp)
      have a := hap p hp
      exact ⟨other p.1 p.2 a.1 (fun hm => by
        rcases List.mem_cons.mp hm with q | hm
        · exact n.2.1 q
        · exact a.2 hm) n.1, n.2⟩
    · obtain ⟨x, hx, q⟩ := SU.fwd p hp
      have n := N x (List.mem_append_right _ hx)
      exact ⟨ht p hp, by rw [q]; exact n.2.1, by rw [q]; exact n.2.2⟩
  refine k H frs' SU F' N' ⟨h₁.objs.size, _, _, he₃, hTe, hT₃, rfl, by first | (simp; done) | (rcases hpl with rfl | ⟨_, _, _, _, _, _, _, rfl⟩ <;> simp), ?_, Ne.symm (szT L oL hL), fun p hp => ?_⟩
  · cases q : h₀.get? h₁.objs.size with
    | none => rfl
    | some o => exact absurd rfl (szT _ _ (F.keep _ _ q))
  · rcases List.mem_append.mp hp with hp | hp
    · exact szT _ _ (N p (List.mem_append_left _ hp)).1
    · obtain ⟨x, hx, q⟩ := SU.fwd p hp
      rw [q]; exact szT _ _ (N x (List.mem_append_right _ hx)).1

theorem noteF {Q : Unit → Shared → Prop} (hfr : A.frames = some (env :: l)) (hf : env.frame = some L) (hkind : env.scope.kind ≠ .module) (Fs : Frs l frs) (F : Fr h₀ L s.heap m) (N : News h₀ L s.heap (new ++ frs))
    (U : Up s.heap e dx t) (hen : h₀.get? e = none) (hap : ∀ p ∈ new, p.1 ≠ e ∧ p.1 ∉ frs.map (·.1))
    (k : ∀ h' frs', SameUp frs frs' → Fr h₀ L h' m → News h₀ L h' (new ++ frs') → Noted h₀ h' L e dx t (new ++ frs') → Q () { s with heap := h' }) :
    wpAny M A (noteFrame (.ref e) env) Q E s := by
  unfold noteFrame
  simp only [hf]
  rcases U with he | ⟨T, oT, ts, he, hTe, hT, hd, h3⟩
  · refine wpAny_bind (wpAny_field he rfl (x := .none) rfl ?_)
    rw [if_neg (by decide)]
    exact entryF hfr hf hkind Fs F N he hen hap k
  · refine wpAny_bind (wpAny_field he rfl (x := .ref T) rfl ?_)
    rw [if_pos (show (Value.ref T != Value.none) = true from by simp)]
    refine wpAny_bind (wpAny_field hT hd h3 ?_)
    rw [if_neg (show ¬ ((Value.none == rawInt L) = true) from by simp [rawInt])]
    refine wpAny_bind (wpAny_setField hT hd (Array.getElem?_eq_some_iff.mp h3).1 ?_)
    have sm := upd_same hT hd h3
    exact entryF (s := { s with heap := _ }) hfr hf hkind Fs (fr_same F sm) (news_same N sm) ((sm e).trans he) hen hap k

theorem landF {Q : Unit → Shared → Prop} {news : List (Addr × Obj)} (F : Fr h₀ L s.heap m) (N : News h₀ L s.heap news) (H : Noted h₀ s.heap L e dx t news)
    (k : ∀ h', Fr h₀ L h' m → News h₀ L h' news → Fly h' e dx t → Q () { s with heap := h' }) : wpAny M A (setFlight (.ref e) none) Q E s := by
  obtain ⟨T, oT, ts, he, hTe, hT, hd, h3, h0, hTL, hne⟩ := H
  have hsz3 : 3 < ts.size := (Array.getElem?_eq_some_iff.mp h3).1
  have other : ∀ b, b ≠ T → (s.heap.update T (Obj.mapFields (·.setIfInBounds 3 ((none : Option Addr).elim Value.none fun f => rawInt f)))).get? b = s.heap.get? b :=
    fun b hb => Heap.get?_update_other _ _ (Ne.symm hb)
  unfold setFlight
  refine wpAny_bind (wpAny_field he rfl (x := .ref T) rfl ?_)
  rw [if_pos (show (Value.ref T != Value.none) = true from by simp)]
  refine wpAny_setField hT hd hsz3 (k _ ?_ (fun p hp => ⟨(other p.1 (hne p hp)).trans (N p hp).1, (N p hp).2⟩) ?_)
  · obtain ⟨⟨o, es, ep, ho, r⟩, kp, ab⟩ := F
    exact ⟨⟨o, es, ep, (other L (Ne.symm hTL)).trans ho, r⟩, fun b o hb => (other b (fun q => by rw [q, h0] at hb; cases hb)).trans (kp b o hb), ab⟩
  · exact ⟨T, _, _, (other e (Ne.symm hTe)).trans he, hTe, Heap.get?_update_self _ hT (Obj.isFreed_of_fields (Obj.data_mapFields hd _)), Obj.data_mapFields hd _, by simp [hsz3]⟩

/-- the frame is left by the error: what stands of the ledger then -/
structure Flown (h₀ h : Heap) (e dx t : Addr) (led : List (Addr × Obj)) : Prop where
  keep : ∀ b o, h₀.get? b = some o → h.get? b = some o
  led : ∀ p ∈ led, h.get? p.1 = some p.2 ∧ h₀.get? p.1 = none
  fly : Fly h e dx t

theorem leavingF {Q : Unit → Shared → Prop} (hfr : A.frames = some (env :: l)) (hf : env.frame = some L) (hkind : env.scope.kind ≠ .module) (Fs : Frs l frs) (F : Fr h₀ L s.heap m) (N : News h₀ L s.heap (new ++ frs))
    (U : Up s.heap e dx t) (hen : h₀.get? e = none) (hap : ∀ p ∈ new, p.1 ≠ e ∧ p.1 ∉ frs.map (·.1))
    (k : ∀ h' frs', SameUp frs frs' → Flown h₀ h' e dx t (new ++ frs') → Q () { s with heap := h' }) : wpAny M A (leaving env (.ref e)) Q E s := by
  unfold leaving
  refine wpAny_bind (noteF hfr hf hkind Fs F N U hen hap fun h' frs' SU F' N' H => ?_)
  exact landF (s := { s with heap := h' }) F' N' H fun h'' F'' N'' X => k h'' frs' SU ⟨F''.keep, fun p hp => ⟨(N'' p hp).1, (N'' p hp).2.2⟩, X⟩

/-- back in the caller's frame -/
theorem Flown.back {h h₀ : Heap} {e dx t L : Addr} {led news : List (Addr × Obj)} {m : Str → Option Value} {oL : Obj} (X : Flown h₀ h e dx t led) (C : Caller h₀ L m oL) (U : Rem L oL led news) : Fr h₀ L h m ∧ News h₀ L h news := by
  have hL := X.led _ U.mem.1
  exact ⟨⟨C.ns _ oL.slots hL.1, X.keep, C.above⟩, fun p hp => ⟨(X.led p (U.mem.2 p hp).1).1, (U.mem.2 p hp).2, (X.led p (U.mem.2 p hp).1).2⟩⟩
end
end
/-! part a4_catch -/
section
section
variable {M : Model} {A : Around} {E : Value → Shared → Prop} {s : Shared} {h₀ : Heap} {L e dx t : Addr} {m : Str → Option Value} {news : List (Addr × Obj)}
theorem landAgainF {Q : Unit → Shared → Prop} (F : Fr h₀ L s.heap m) (N : News h₀ L s.heap news) (X : Fly s.heap e dx t)
    (k : ∀ h', Fr h₀ L h' m → News h₀ L h' news → Fly h' e dx t → Q () { s with heap := h' }) : wpAny M A (setFlight (.ref e) none) Q E s := by
  obtain ⟨T, oT, ts, he, hTe, hT, hd, h3⟩ := X
  have sm := upd_same hT hd h3
  unfold setFlight
  refine wpAny_bind (wpAny_field he rfl (x := .ref T) rfl ?_)
  rw [if_pos (show (Value.ref T != Value.none) = true from by simp)]
  refine wpAny_setField hT hd (Array.getElem?_eq_some_iff.mp h3).1 (k _ (fr_same F sm) (news_same N sm) ?_)
  exact ⟨T, oT, ts, (sm e).trans he, hTe, (sm T).trans hT, hd, h3⟩
theorem news_err (F : Fr h₀ L s.heap m) (N : News h₀ L s.heap news) (X : Up s.heap e dx t) (hen : h₀.get? e = none) : ∃ tb, News h₀ L s.heap ((e, excObj dx t tb) :: news) := by
  obtain ⟨tb, he⟩ := up_there X
  refine ⟨tb, fun p hp => ?_⟩
  rcases List.mem_cons.mp hp with rfl | hp
  · refine ⟨he, fun q => ?_, hen⟩
    obtain ⟨oL, esL, epL, hL, hLd, _⟩ := F.ns
    rw [show e = L from q, hL] at he; cases he; cases hLd
  · exact N p hp
end

section
variable {prog : Program} {w : World} {A : Around} {E : Value → Shared → Prop} {s' : Shared} {h₀ : Heap} {L a e dx t C : Addr} {m : Str → Option Value} {name : Str} {scope : Scope} {cd : Value} {cl : List (Str × Addr)}
  {n x : Str} {b₀ : Stmt} {suite : List Stmt} {pos np : Pos} {rest : List ExceptHandler} {Q : Flow → Shared → Prop} {new frs : List (Addr × Obj)} {l : List Env} {KF : Frag}
  {p : Program} {loose : List Str} {mg mb : Str → Option Value}

theorem caughtF (hfr : A.frames = some (envX name scope L a cd cl :: l)) (Fs : Frs l frs) (F : Fr h₀ L s'.heap m) (N : News h₀ L s'.heap (new ++ frs)) (U : Up s'.heap e dx t) (hen : h₀.get? e = none)
    (hap : ∀ p ∈ new, p.1 ≠ e ∧ p.1 ∉ frs.map (·.1)) (X : KF.In h₀) (T : TopRead p loose mg mb h₀) (ex : nsIn KF mainGlobals x = some (some (.ref 31))) (q : ktsIn KF 31 "BaseException" = true)
    (k : ∀ h' frs' tb tk, SameUp frs frs' → Fr h₀ L h' (fun y => if y = n then some (.ref e) else m y) → News h₀ L h' ((e, excObj dx t tb) :: (new ++ frs')) →
      wpAny (model prog w) (A.mark (some (.ref e))) (execs (b₀ :: suite) (envX name scope L a cd cl))
        (fun f s₄ => wpAny (model prog w) A (do bindName (envX name scope L a cd cl) n .none; unbindBehindTheSuite (envX name scope L a cd cl) n pos) (fun _ s₅ => Q f s₅) E s₄)
        (AsSuiteRaised (model prog w) (A.mark (some (.ref e))) (envX name scope L a cd cl) n pos (notedBy (model prog w) (A.mark (some (.ref e))) (envX name scope L a cd cl) (cameBackBy (model prog w) A (envX name scope L a cd cl) E)))
        { s' with heap := h', toks := tk })
    (hk : scope.kind = .function := by rfl) (hlo : (envX name scope L a cd cl).kindOf n = some .local := by rfl) (hx : (envX name scope L a cd cl).kindOf x = some .globalImplicit := by rfl) (hd : (x == ("__debug__" : Str)) = false := by decide) :
    wpAny (model prog w) A (noteFrame (.ref e) (envX name scope L a cd cl))
      (fun _ s₂ => wpAny (model prog w) A (setFlight (.ref e) none) (fun _ s₃ =>
        wpAny (model prog w) A (handleBy (.ref e) (envX name scope L a cd cl) (.ExceptHandler (some (.Name x np)) (some n) (b₀ :: suite) pos :: rest)) Q E s₃) E s₂) E s' := by
  refine noteF hfr rfl (by show scope.kind ≠ .module; rw [hk]; decide) Fs F N U hen hap fun h₁ frs' SU F₁ N₁ H₁ => ?_
  refine landF (s := { s' with heap := h₁ }) F₁ N₁ H₁ fun h₂ F₂ N₂ Y₂ => ?_
  obtain ⟨nm, q', Nn, bs, bm, hdct, sn, sub, ab, col, dd, k0, k1, k2, k3, k5, newId, hC, hbase, hbT⟩ := kts_cls X q
  have hC₂ := F₂.keep _ _ hC
  obtain ⟨tb₂, he₂⟩ := up_there (.inr Y₂)
  refine wpAny_handleBy_cons (codeAny_handlers_test (nameX_K F₂ X T ex ?_ hk hx hd)) (by intro q; cases q)
  refine wpAny_excMatches_sub_self hC₂ he₂ rfl hbase (codeAny_handlers_suite_as ?_)
  refine landAgainF (s := { s' with heap := h₂ }) F₂ N₂ Y₂ fun h₃ F₃ N₃ Y₃ => ?_
  obtain ⟨tb, N₄⟩ := news_err (s := { s' with heap := h₃ }) F₃ N₃ (.inr Y₃) hen
  refine storeX_L (s := { s' with heap := h₃ }) F₃ N₄ (fun h₄ F₅ N₅ => ?_) hk hlo
  exact k h₄ frs' tb _ SU F₅ N₅
end

section
variable {M : Model} {A : Around} {E : Value → Shared → Prop} {env : Env} {KF : Frag}
/-- a raise of an error of the text's own class, made with its attributes -/
def RaiseAt (E : Value → Shared → Prop) (v : Value) (s₁ : Shared) : Prop := ∃ e dx t h C, v = .ref e ∧ h = s₁.heap ∧ h.get? e = some (excObj dx t .none) ∧ (∃ KF : Frag, KF.In h ∧ ktsIn KF C "BaseException" = true ∧ C = 31) ∧ E (.ref e) s₁
theorem raiseF {s : Shared} {x : PySem.Expr} {pos : Pos} {Q : Flow → Shared → Prop} (hh : A.handled = none) (h : wpAny M A (eval x env) (RaiseAt E) E s) :
    wpAny M A (exec (.Raise (some x) none pos) env) Q E s := by
  have key : ∀ (y : Sem Value), wpAny M A y (RaiseAt E) E s → wpAny M A (raiseStmt env (some y) none) Q E s := by
    intro y hy
    unfold raiseStmt
    refine wpAny_bind (wpAny_mono hy (fun v s₁ h₁ => ?_) fun _ _ x => x)
    obtain ⟨e, dx, t, hp, C, rfl, rfl, he, ⟨KF, X, q, rfl⟩, hE⟩ := h₁
    obtain ⟨nm, q', Nn, bs, bm, hdct, sn, sub, ab, col, dd, k0, k1, k2, k3, k5, newId, hC, hbase, hbT⟩ := kts_cls X q
    obtain ⟨hp, g, d, tk, os⟩ := s₁
    have hcB : (Value.ref 31 :: bm).contains (.type "BaseException") = true := by rw [List.contains_cons, hbase, Bool.or_true]
    repeat (first | with_reducible refine wpAny_loadPart_at he ?_ | with_reducible refine wpAny_loadPart_at hC ?_ | (with_reducible refine wpAny_isSubtype_exc hC ?_; rw [hcB]) | wp_step)
    exact wpAny_raiseNew_none hh hE
  rw [arm_exec_Raise]
  first
    | exact wpAny_bind (wpAny_standAt (key _ (wpAny_bind (wpAny_mono h (fun v s₁ h₁ => wpAny_bind (wpAny_standAt (wpAny_pure h₁))) fun _ _ x => x))))
    | (simp only [evalOpt, Option.map]; exact wpAny_bind (wpAny_standAt (key _ (wpAny_bind (wpAny_mono h (fun v s₁ h₁ => wpAny_bind (wpAny_standAt (wpAny_pure h₁))) fun _ _ x => x)))))
end

/-- LuaError(v), over the ledger -/
theorem mkErr {w : World} {A : Around} {E : Value → Shared → Prop} {s : Shared} {h₀ : Heap} {L : Addr} {m : Str → Option Value} {news : List (Addr × Obj)} {v : Value} {Q : Value → Shared → Prop}
    (F : Fr h₀ L s.heap m) (N : News h₀ L s.heap news) (X : (hd.heap_39 w.params).In h₀) (hdp : A.depth ≤ 400) (hun : A.units ≤ 4000)
    (k : ∀ e dx t tr h' tk h1 h2 h3 k1 k2 k3, Fr h₀ L h' m → News h₀ L h' ((e, excObj dx t .none) :: (dx, errDict h1 h2 h3 k1 k2 k3 v tr) :: news) → (∀ p ∈ (L, default) :: news, p.1 ≠ e) → (∀ p ∈ (L, default) :: news, p.1 ≠ dx) → e < dx →
      Q (.ref e) { s with heap := h', toks := tk }) : wpAny (model PySem.Challenge.rw_rh0155_01.row.prog w) A (call (.ref 31) [v]) Q E s := by
  obtain ⟨h, g, d, t, os⟩ := s
  refine wpAny_room (d := 400) (u := 4000) (wpAny_mono (mk0 (hdl := A.handled) (fr := A.frames) (gd := A.guards) h g d t os (X.keeps F.keep) v) (fun r s' hr => ?_) fun _ _ x => x) hdp hun
  obtain ⟨e, dx, t, tr, h', tk, h1, h2, h3, k1, k2, k3, rfl, rfl, kp, ⟨he, hdx⟩, ne, nd, lt⟩ := hr
  obtain ⟨oL, esL, epL, hL, hLd, hLk, hLf⟩ := F.ns
  have nn : ∀ b, h.get? b = none → ∀ p ∈ (L, default) :: news, p.1 ≠ b := fun b hb p hp q => by
    rcases List.mem_cons.mp hp with rfl | hp
    · rw [show L = b from q, hb] at hL; cases hL
    · have := (N p hp).1; rw [q, hb] at this; cases this
  refine k e dx t tr h' tk h1 h2 h3 k1 k2 k3 ⟨⟨oL, esL, epL, kp _ _ hL, hLd, hLk, hLf⟩, fun b o e => kp _ _ (F.keep b o e), F.above⟩ (fun p hp => ?_) (nn e ne) (nn dx nd) lt
  rcases List.mem_cons.mp hp with rfl | hp
  · exact ⟨he, fun q => nn e ne _ (.head _) q.symm, none_of F.keep ne⟩
  · rcases List.mem_cons.mp hp with rfl | hp
    · exact ⟨hdx, fun q => nn dx nd _ (.head _) q.symm, none_of F.keep nd⟩
    · exact ⟨kp _ _ (N p hp).1, (N p hp).2⟩
end
/-! part a5_prog -/
section
abbrev PR : Program := PySem.Challenge.rw_rh0155_01.row.prog
theorem ne_at {l : List (Addr × Obj)} {L a : Nat} {o : Obj} (h : ∀ p ∈ l, p.1 ≠ L) (hm : (a, o) ∈ l) : L ≠ a := fun e => h _ hm e.symm
theorem ne_at' {l : List (Addr × Obj)} {L a : Nat} {o : Obj} (h : ∀ p ∈ l, p.1 ≠ L) (hm : (a, o) ∈ l) : a ≠ L := fun e => h _ hm e
theorem lt_at {l : List (Addr × Obj)} {L a : Nat} {o : Obj} (h : ∀ p ∈ l, p.1 < L) (hm : (a, o) ∈ l) : L ≠ a := Nat.ne_of_gt (h _ hm)
theorem lt_at' {l : List (Addr × Obj)} {L a : Nat} {o : Obj} (h : ∀ p ∈ l, p.1 < L) (hm : (a, o) ∈ l) : a ≠ L := Nat.ne_of_lt (h _ hm)
theorem all_ne {l r : List (Addr × Obj)} {L : Nat} (h : ∀ p ∈ l, p.1 ≠ L) (k : ∀ p ∈ r, p ∈ l) : ∀ p ∈ r, p.1 ≠ L := fun p hp => h p (k p hp)
theorem all_lt {l r : List (Addr × Obj)} {L : Nat} (h : ∀ p ∈ l, p.1 < L) (k : ∀ p ∈ r, p ∈ l) : ∀ p ∈ r, p.1 ≠ L := fun p hp => Nat.ne_of_lt (h p (k p hp))
theorem ne_up {l : List (Addr × Obj)} {B a b : Nat} {o : Obj} (h : ∀ p ∈ l, p.1 < B) (hm : (a, o) ∈ l) (hb : B ≤ b) : b ≠ a := fun e => by
  have := h _ hm
  subst e
  exact absurd (Nat.lt_of_lt_of_le this hb) (Nat.lt_irrefl _)
theorem ne_up' {l : List (Addr × Obj)} {B a b : Nat} {o : Obj} (h : ∀ p ∈ l, p.1 < B) (hm : (a, o) ∈ l) (hb : B ≤ b) : a ≠ b := (ne_up h hm hb).symm
theorem all_app {a b : List (Addr × Obj)} {L : Nat} (h : ∀ p ∈ a, p.1 ≠ L) (k : ∀ p ∈ b, p.1 ≠ L) : ∀ p ∈ a ++ b, p.1 ≠ L := fun p hp => (List.mem_append.mp hp).elim (h p) (k p)
theorem all_ge {a : List (Addr × Obj)} {B L : Nat} (h : ∀ p ∈ a, B ≤ p.1) (k : L < B) : ∀ p ∈ a, p.1 ≠ L := fun p hp e => by
  have := h p hp
  rw [e] at this
  omega
theorem lt_mem {l : List (Addr × Obj)} {B a : Nat} {o : Obj} (h : ∀ p ∈ l, p.1 < B) (hm : (a, o) ∈ l) : a < B := h _ hm

/-- new things put behind the written part of the ledger -/
inductive Ins (more tl : List (Addr × Obj)) : List (Addr × Obj) → List (Addr × Obj) → Prop
  | tail : Ins more tl tl (more ++ tl)
  | cons {x l l'} : Ins more tl l l' → Ins more tl (x :: l) (x :: l')
theorem Ins.mem {more tl : List (Addr × Obj)} : ∀ {l l' : List (Addr × Obj)}, Ins more tl l l' → ∀ p ∈ l', p ∈ more ++ l
  | _, _, .tail, p, hp => hp
  | _, _, .cons (x := x) (l := l) h, p, hp => by
    rcases List.mem_cons.mp hp with rfl | hp
    · exact List.mem_append_right _ (.head _)
    · rcases List.mem_append.mp (Ins.mem h p hp) with q | q
      · exact List.mem_append_left _ q
      · exact List.mem_append_right _ (.tail _ q)
theorem News.ins {h₀ h : Heap} {L : Addr} {more tl l l' : List (Addr × Obj)} (N : News h₀ L h (more ++ l)) (I : Ins more tl l l') : News h₀ L h l' := News.sub N I.mem
theorem News.put4 {h₀ h : Heap} {L : Addr} {a b c d x : Addr × Obj} {tl : List (Addr × Obj)} (N : News h₀ L h (a :: b :: c :: d :: x :: tl)) : News h₀ L h (x :: ([a, b, c, d] ++ tl)) :=
  News.sub N fun p hp => by
    simp only [List.mem_cons, List.mem_append, List.not_mem_nil, or_false] at hp ⊢
    rcases hp with h | (h | h | h | h) | h <;> simp [h]
theorem News.put3 {h₀ h : Heap} {L : Addr} {a b c x : Addr × Obj} {tl : List (Addr × Obj)} (N : News h₀ L h (a :: b :: c :: x :: tl)) : News h₀ L h (x :: ([a, b, c] ++ tl)) :=
  News.sub N fun p hp => by
    simp only [List.mem_cons, List.mem_append, List.not_mem_nil, or_false] at hp ⊢
    rcases hp with h | (h | h | h) | h <;> simp [h]
theorem leN {a b : Nat} (h : a ≤ b) : a ≤ b := h
end
/-! part a6_unpack -/
section
/-! a tuple unpacked while an error is handled: the StopIteration at its end takes that error as context -/
section
variable {prog : Program} {w : World} {A : Around} {E : Value → Shared → Prop} {s : Shared}

theorem next_tuple_endH {it t : Addr} {i : Nat} {items} {e0 : Addr} {oE : Obj} {es : Array Value} {Q : Option Value → Shared → Prop} (hh : A.handled = some (.ref e0))
    (he : s.heap.get? e0 = some oE) (hed : oE.data = .fields es) (h2 : es[2]? = some .none) (hei : e0 ≠ it)
    (hit : IsTupIter s.heap it t i) (ht : IsTup s.heap t items) (hx : items[i]? = none)
    (hQ : ∀ h', Heap.ExtBut it s.heap h' → Q none { s with heap := h' }) : wpAny (model prog w) A (pyNext (.ref it)) Q E s := by
  obtain ⟨o, ho, hc, hd⟩ := id hit
  obtain ⟨ol, hol, _, nl, hdl⟩ := ht
  unfold pyNext
  refine wpAny_bind (wpAny_attempt (wpAny_callSpecial?_slot (name := Str.ofString "__next__") hit.typeIs slot_tupleiter_next
    (wpAny_call_entry slot_tupleiter_next hit.typeIs entry_tupleiter_next ?_ (args_tupleiter_next _))))
  show wpAny _ _ (field (.ref it) 0 >>= _) _ _ s
  refine wpAny_bind (wpAny_field ho hd (x := .ref t) rfl ?_)
  show wpAny _ _ (if (Value.ref t == Value.none) = true then _ else _) _ _ s
  rw [if_neg (show ¬ ((Value.ref t == Value.none) = true) from Bool.false_ne_true)]
  show wpAny _ _ (field (.ref it) 1 >>= _) _ _ s
  refine wpAny_bind (wpAny_field ho hd (x := .int i 0) rfl ?_)
  show wpAny _ _ (seqItems? (.ref t) >>= _) _ _ s
  refine wpAny_bind (wpAny_seqItems hol hdl ?_)
  simp only [Int.toNat_natCast, hx]
  refine wpAny_bind (wpAny_rule (wpAny_bind (wpAny_setField ho hd (by simp) ?_)))
  show wpAny _ _ (newExc (.type "StopIteration") [] >>= _) _ _ _
  refine wpAny_bind ?_
  simp only [newExc, newTuple]
  refine wpAny_bind (wpAny_newObj_type ?_ (by size_fits))
  refine wpAny_bind (m := firstArgMember _ _) (wpAny_of_eq (a := Value.none) (by first | rfl | (simp only [firstArgMember]; rfl)) ?_)
  refine wpAny_newObj_type ?_ (by size_fits)
  generalize hH1 : (s.heap.update it (Obj.mapFields (·.setIfInBounds 0 Value.none))) = H1 at *
  have X1 : Heap.ExtBut it s.heap H1 := by subst hH1; exact (Heap.SameBut.update ..).extBut
  generalize hH2 : H1.push _ = H2 at *
  have X2 : ∀ b ob, H1.get? b = some ob → H2.get? b = some ob := by subst hH2; exact fun b ob e => Heap.get?_push_of_some _ e
  have X3 : ∀ ox b ob, H2.get? b = some ob → (H2.push ox).get? b = some ob := fun ox b ob e => Heap.get?_push_of_some _ e
  have he2 := X2 _ _ (X1 e0 oE hei he)
  have hlt : e0 < H2.objs.size := Heap.lt_size he2
  simp only [raiseNew]
  refine wpAny_bind (wpAny_handled ?_)
  first | rw [show A.in1.handled = some (.ref e0) from hh] | rw [hh]
  have hbne : (Value.ref e0 != Value.ref H2.objs.size) = true := by
    simpa [bne_iff_ne] using Nat.ne_of_lt hlt
  simp only [hbne, if_true]
  refine wpAny_bind (wpAny_holding ?_)
  refine runValue_entry (b := Builtin.«proto.unchain») (entryFor_of_fast (by kernel_rfl)) ?_
  have hg : ∀ ox, (H2.push ox).get? e0 = some oE := fun ox => X3 ox _ _ he2
  show wpAny _ _ (field (.ref e0) 2 >>= _) _ _ _
  refine wpAny_bind (wpAny_field (hg _) hed h2 ?_)
  refine wpAny_pure ⟨_, rfl, ?_⟩
  have ha := Heap.get?_push_size H2 (o := { cls := .type "StopIteration", data := .fields #[Value.ref H1.objs.size, .none, .none, .none, .bool false, .none] }) rfl
  refine wpAny_bind ?_
  show wpAny _ _ (setField (.ref H2.objs.size) 2 (.ref e0)) _ _ _
  refine wpAny_setField ha rfl (by simp) ?_
  refine wpAny_throw ?_
  have ha2 := Heap.get?_update_self (Obj.mapFields (·.setIfInBounds 2 (Value.ref e0))) ha rfl
  refine wpAny_bind (wpAny_isInstance (T := "StopIteration") (b := true) ⟨_, ha2, rfl⟩ isSubtype_stop ?_)
  refine wpAny_pure (hQ _ fun b ob hb e => ?_)
  have e2 := X2 _ _ (X1 b ob hb e)
  rw [Heap.get?_update_other _ _ (Nat.ne_of_gt (Heap.lt_size e2))]
  exact X3 _ _ _ e2
theorem unpackItems_tupleH {t : Addr} {items : Array Value} {e0 : Addr} {oE : Obj} {es : Array Value} {Q : List Value → Shared → Prop} (hh : A.handled = some (.ref e0))
    (he : s.heap.get? e0 = some oE) (hed : oE.data = .fields es) (h2 : es[2]? = some .none) (ht : IsTup s.heap t items)
    (hQ : ∀ h', Heap.ExtBut s.heap.objs.size s.heap h' → Q items.toList { s with heap := h' }) : wpAny (model prog w) A (unpackItems (.ref t) items.size none) Q E s := by
  have hlt : t ≠ s.heap.objs.size := by obtain ⟨o, ho, _⟩ := ht; exact Nat.ne_of_lt (Heap.lt_size ho)
  have hle : e0 ≠ s.heap.objs.size := Nat.ne_of_lt (Heap.lt_size he)
  unfold unpackItems
  refine wpAny_bind ?_
  · unfold notIterableAtAll
    refine wpAny_bind (wpAny_specialOf ht.typeIs slot_tuple_iter.lookup ?_)
    refine wpAny_pure ?_
    simp only [Bool.false_eq_true, if_false]
    refine wpAny_bind (wpAny_holding (iter_tuple ht ?_))
    refine wpAny_bind (wpAny_holding (draw_tuple hlt items.size 0 _ _ ⟨_, Heap.get?_push_size _ rfl, rfl, rfl⟩ (ht.push _) (by omega) fun h₁ hit₁ hs₁ => ?_))
    have hall : List.take items.size (List.drop 0 items.toList) = items.toList := by
      rw [List.drop_zero]; exact List.take_of_length_le (by simp)
    rw [hall]
    rw [if_neg (by simp)]
    have ht₁ : IsTup h₁ t items := (ht.push _).extBut hs₁.extBut hlt
    have he₁ : h₁.get? e0 = some oE := hs₁.extBut e0 oE hle (Heap.get?_push_of_some _ he)
    refine wpAny_bind (wpAny_holding (next_tuple_endH hh he₁ hed h2 hle hit₁ ht₁ (by simp) fun h₂ he₂ => ?_))
    simp only [Option.isSome_none, Bool.false_eq_true, if_false]
    refine wpAny_pure (hQ h₂ fun b o hb e => he₂ b o hb (hs₁.extBut b o hb (Heap.get?_push_of_some _ e)))

theorem assign_Tuple_tupleH {env : Env} {elts : List PySem.Expr} {x1} {pos : Pos} {t : Addr} {items : Array Value} {e0 : Addr} {oE : Obj} {es : Array Value} {Q : Unit → Shared → Prop} (hh : A.handled = some (.ref e0))
    (he : s.heap.get? e0 = some oE) (hed : oE.data = .fields es) (h2 : es[2]? = some .none) (ht : IsTup s.heap t items)
    (hn : (assignEach elts env).length = items.size) (hstar : (assignEach elts env).findIdx? (·.1) = none)
    (h : ∀ h', Heap.ExtBut s.heap.objs.size s.heap h' → wpAny (model prog w) A (assignInOrder ((assignEach elts env).map (·.2)) items.toList) Q E { s with heap := h' }) :
    wpAny (model prog w) A (assign (.Tuple elts x1 pos) env (.ref t)) Q E s := by
  rw [assign_Tuple]
  refine wpAny_bind (wpAny_standAt ?_)
  unfold unpack
  rw [hn, hstar]
  exact wpAny_bind (wpAny_holding (unpackItems_tupleH hh he hed h2 ht h))
theorem unpackNH {env : Env} {h₀ : Heap} {L : Addr} {m : Str → Option Value} {news : List (Addr × Obj)} {elts : List PySem.Expr} {k} {pos : Pos} {t : Addr} {items : Array Value} {e0 dx tt : Addr} {tb : Value} {Q : Unit → Shared → Prop} (F : Fr h₀ L s.heap m) (N : News h₀ L s.heap news) (ht : IsTup s.heap t items)
    (hh : A.handled = some (.ref e0)) (he : (e0, excObj dx tt tb) ∈ news) (hn : (assignEach elts env).length = items.size) (hstar : (assignEach elts env).findIdx? (·.1) = none)
    (h : ∀ h', Fr h₀ L h' m → News h₀ L h' news → wpAny (model prog w) A (assignInOrder ((assignEach elts env).map (·.2)) items.toList) Q E { s with heap := h' }) :
    wpAny (model prog w) A (assign (.Tuple elts k pos) env (.ref t)) Q E s :=
  assign_Tuple_tupleH hh (N _ he).1 rfl rfl ht hn hstar fun h' he => h h' (F.extBut he (Nat.le_refl _)) (N.extBut he (Nat.le_refl _))
end
/-! a call of a function that stands in the ledger -/
def FunAt (f : Addr) (h : Heap) : Prop := ∃ o fd, h.get? f = some o ∧ o.data = .func fd
section
variable {M : Model} {A : Around} {E : Value → Shared → Prop} {s : Shared} {env : Env} {pos : Pos} {f : Addr} {first : List Value} {Q : Value → Shared → Prop}
theorem keeps_F (h : Heap) (X : FunAt f h) : ∃ k, (k = Keeper.frame ∨ k = Keeper.machine ∨ k = Keeper.boundFrame) ∧ Looks M h (keeperOf (.ref f)) k := by
  obtain ⟨o, fd, ho, hd⟩ := X
  refine ⟨.frame, .inl rfl, (Looks.ld (part := none) ho).andThen ?_⟩
  simp only [hd]
  exact .now
theorem callWith_F {h₀ : Heap} {L : Addr} {news : List (Addr × Obj)} {o : Obj} {e : PySem.Expr} {rest : List PySem.Expr} (_N : News h₀ L s.heap news) (_hm : (f, o) ∈ news)
    (h : wpAny M A (spliced (backTo pos (starEach (e :: rest) env))) (fun vs s₁ => FunAt f s₁.heap ∧ wpAny M A (call (.ref f) (first ++ vs)) Q E s₁) E s)
    (he : starEach (e :: rest) env = (false, eval e env) :: starEach rest env := by rfl) (hplain : (backTo pos (starEach rest env)).any (·.1) = false := by rfl) :
    wpAny M A (callWith pos (.ref f) first (backTo pos (starEach (e :: rest) env)) []) Q E s := by
  rw [he] at h ⊢
  exact callWith_of (by show ((false || (backTo pos (starEach rest env)).any (·.1)) || false) = false; rw [hplain]; rfl) keeps_F (evalArgs_plain h)
theorem callWith_F0 (X : FunAt f s.heap) (h : wpAny M A (call (.ref f) (first ++ [])) Q E s) : wpAny M A (callWith pos (.ref f) first (backTo pos (starEach [] env)) []) Q E s :=
  callWith_of rfl keeps_F (evalArgs_nil3 ⟨X, h⟩)
theorem funAt_of {h₀ h : Heap} {L : Addr} {news : List (Addr × Obj)} {name qual : Str} {params : Arguments} {body : PySem.Expr} {scope : Scope} {cl : List (Str × Addr)} {pm ctv : Value} {c' : Addr}
    (N : News h₀ L h news) (hm : (f, kla_obj name qual params body scope cl pm c' ctv) ∈ news) : FunAt f h := ⟨_, _, (N _ hm).1, rfl⟩
end
theorem eq_same {prog : Program} {w : World} {A : Around} {E : Value → Shared → Prop} {s : Shared} {h₀ : Heap} {L t : Addr} {news : List (Addr × Obj)} {items : Array Value} {Q : Value → Shared → Prop} (N : News h₀ L s.heap news) (hm : (t, ({ cls := .type "tuple", data := .seq items } : Obj)) ∈ news)
    (hu : A.units < cLine) (h : Q (.bool true) s) : wpAny (model prog w) A (compareOp .Eq (.ref t) (.ref t)) Q E s := by
  have hT : s.heap.IsTuple t items := ⟨_, (N _ hm).1, rfl, _, rfl⟩
  refine PySem.SeqAt.eq_tupleAt (e := fun _ => true) hT hT hu (fun j h1 h2 => PySem.SeqAt.EqAt.same _) ?_
  rw [show ((List.range (min items.size items.size)).all (fun _ => true) && items.size == items.size) = true from by rw [Bool.and_eq_true]; exact ⟨List.all_eq_true.mpr fun _ _ => rfl, beq_self_eq_true _⟩]
  exact h
theorem inst_err {h₀ h : Heap} {L e dx t : Addr} {tb v : Value} {tr : Addr} {h1 h2 h3 : Int} {k1 k2 k3 : Tok} {news : List (Addr × Obj)} (N : News h₀ L h news) (a : (e, excObj dx t tb) ∈ news) (b : (dx, errDict h1 h2 h3 k1 k2 k3 v tr) ∈ news) :
    InstAt h e (excObj dx t tb) 31 (some (errDict h1 h2 h3 k1 k2 k3 v tr)) := ⟨(N _ a).1, rfl, rfl, (N _ b).1⟩
/-! an attribute of an error of the text's own class, out of its dict -/
section
variable {prog : Program} {w : World} {A : Around} {E : Value → Shared → Prop} {h : Heap} {g : Array GenState} {d : Drawn} {t : Nat} {os : OsState} {e : Addr} {ox od : Obj} {K : Frag} {name : Str} {v : Value}
theorem err_entry {tk : Tok} {Q : Fin → Shared → Prop} (X : K.In h) (I : InstAt h e ox 31 (some od)) (hf : findObj K 31 (some od) name = some (.value v)) (hq : Q (.done (.ret v)) ⟨h, g, d, t, os⟩) :
    wpAny (model prog w) A (Builtin.«object.__getattribute__» ⟨[.ref e, .str name tk], []⟩) Q E ⟨h, g, d, t, os⟩ := by
  have hx := I.at_
  have hc := I.cls
  repeat (any_goals (first | assumption | (with_reducible refine wpAny_loadPart_at hx ?_; rw [hc]) | with_reducible refine (looks_find X I hf).here ?_ | wp_step))
theorem err_call {tk : Tok} {R : Result → Shared → Prop} (X : K.In h) (q : ktsIn K 31 "BaseException" = true) (I : InstAt h e ox 31 (some od)) (hf : findObj K 31 (some od) name = some (.value v)) (hq : R (.ok (.ret v)) ⟨h, g, d, t, os⟩) :
    codeAny (model prog w) A (.call (.builtin "BaseException.__getattribute__") ⟨[.ref e, .str name tk], []⟩) R ⟨h, g, d, t, os⟩ := by
  refine codeAny_call_builtin PySem.F.attr_Exception.ga.plain PySem.F.entry_bexc_ga ?_
  obtain ⟨nm, q', Nn, bs, bm, hdct, sn, sub, ab, col, dd, k0, k1, k2, k3, k5, newId, hC, hbase, hbT⟩ := kts_cls X q
  have hx := I.at_
  have hc := I.cls
  have hk : builtinKind "BaseException.__getattribute__" = some .slot := by decide +kernel
  have hsplit : splitId "BaseException.__getattribute__" = some ("BaseException", "__getattribute__") := by decide +kernel
  have hcB : (Value.ref 31 :: bm).contains (.type "BaseException") = true := by rw [List.contains_cons, hbase, Bool.or_true]
  have ha := PySem.F.args_bexc_ga (.ref e) (.str name tk)
  simp only [checkBuiltinCall, hk, hsplit]
  refine wpAny_bind ?_
  unfold isInstance
  repeat (first | with_reducible refine err_entry X I hf ?_ | (with_reducible refine wpAny_loadPart_at hx ?_; rw [hc]) | (with_reducible refine wpAny_isSubtype_exc hC ?_; rw [hcB]) | with_reducible refine (looks_find X I hf).here ?_ | wp_step)
  exact hq
theorem err_by {tk : Tok} {fill expr : Bool} {Q : Value → Shared → Prop} (X : K.In h) (q : ktsIn K 31 "BaseException" = true) (I : InstAt h e ox 31 (some od)) (hf : findObj K 31 (some od) name = some (.value v)) (hv : handedIn v = true)
    (g1 : findIn K (.ref 31) "__getattribute__" = some (some (.builtin "BaseException.__getattribute__"))) (g2 : findIn K (.ref 31) "__getattr__" = some none) (hq : Q v ⟨h, g, d, t, os⟩) :
    wpAny (model prog w) A (getAttrBy (.ref e) (.str name tk) fill expr) Q E ⟨h, g, d, t, os⟩ := by
  have hx := I.at_
  have hc := I.cls
  have f3 := PySem.F.attr_Exception.ga.bind (.ref e)
  have hx0 : (expr && onTheHeap (Value.builtin "BaseException.__getattribute__")) = false := by cases expr <;> rfl
  have hx2 : (Value.builtin "BaseException.__getattribute__" == Value.builtin "object.__getattribute__") = false := by decide +kernel
  have hx1 : (onTheHeap (Value.ref 31) && Value.builtin "BaseException.__getattribute__" == Value.builtin "object.__getattribute__") = false := by rw [hx2]; rfl
  have hho := handedOut_of hv
  repeat (any_goals (first | assumption | (with_reducible refine wpAny_loadPart_at hx ?_; rw [hc]) | with_reducible refine Looks.here (s := ⟨h, g, d, t, os⟩) (looks_findIn X g1) ?_ | with_reducible refine Looks.here (s := ⟨h, g, d, t, os⟩) (looks_findIn X g2) ?_ | wp_step))
  refine err_call X q I hf ?_
  repeat (any_goals (first | assumption | wp_step))
theorem err_attr {expr : Bool} {Q : Value → Shared → Prop} (X : K.In h) (q : ktsIn K 31 "BaseException" = true) (I : InstAt h e ox 31 (some od)) (hf : findObj K 31 (some od) name = some (.value v)) (hv : handedIn v = true)
    (g1 : findIn K (.ref 31) "__getattribute__" = some (some (.builtin "BaseException.__getattribute__"))) (g2 : findIn K (.ref 31) "__getattr__" = some none) (hq : Q v ⟨h, g, d, t + 1, os⟩) :
    wpAny (model prog w) A (getAttr (.ref e) name expr) Q E ⟨h, g, d, t, os⟩ := by
  unfold getAttr
  repeat (any_goals (first | assumption | with_reducible apply err_by X q I hf hv g1 g2 | wp_step))
end
theorem looks_dict {name : Str} {es : List DictEntry} {n : Nat} {v : Value} (h : getL name es = some (some v)) : lookIn name (W.dictOf es n) = some (some v) := h
theorem nameGoesF {M : Model} {A : Around} {E : Value → Shared → Prop} {s : Shared} {h₀ : Heap} {L a : Addr} {m : Str → Option Value} {news : List (Addr × Obj)} {name n : Str} {scope : Scope} {cd : Value} {cl : List (Str × Addr)} {pos : Pos} {Q : Unit → Shared → Prop}
    (F : Fr h₀ L s.heap m) (N : News h₀ L s.heap news)
    (h : ∀ h' v, Fr h₀ L h' (fun x => if x = n then v else m x) → News h₀ L h' news → Q () { s with heap := h', toks := s.toks + 1 })
    (hk : scope.kind = .function := by rfl) (hl : (envX name scope L a cd cl).kindOf n = some .local := by rfl) :
    wpAny M A (do bindName (envX name scope L a cd cl) n .none; unbindBehindTheSuite (envX name scope L a cd cl) n pos) Q E s :=
  wpAny_nameGoes_keeps hl F.ns (by show (scope.kind == .class || (scope.kind == .module && L != mainGlobals)) = false; rw [hk]; rfl) fun h' v hn hs => h h' v (F.set hn hs) (N.set hs)
theorem lstN {h₀ h : Heap} {L l : Addr} {news : List (Addr × Obj)} {items : Array Value} {n : Nat} (N : News h₀ L h news) (hm : (l, W.listOf items n) ∈ news) : h.IsList l items := ⟨_, (N _ hm).1, rfl, n, rfl⟩
theorem lenF {prog : Program} {w : World} {A : Around} {E : Value → Shared → Prop} {s : Shared} {h₀ : Heap} {L l : Addr} {news : List (Addr × Obj)} {items : Array Value} {n : Nat} {Q : Value → Shared → Prop} (N : News h₀ L s.heap news) (hm : (l, W.listOf items n) ∈ news) (hfit : items.size ≤ 1000)
    (h : Q (.int items.size (s.toks + 1)) { s with toks := s.toks + 1 + 1 }) : wpAny (model prog w) A (call (.builtin "len") [.ref l]) Q E s := PyProof.Rows.len_list (lstN N hm) (by omega) h
theorem itemF {prog : Program} {w : World} {A : Around} {E : Value → Shared → Prop} {s : Shared} {h₀ : Heap} {L l : Addr} {news : List (Addr × Obj)} {items : Array Value} {n : Nat} {value slice : PySem.Expr} {k : Int} {u : Tok} {x : Value} {Q : Value → Shared → Prop} (N : News h₀ L s.heap news) (hm : (l, W.listOf items n) ∈ news)
    (hx : items[k.toNat]? = some x) (h0 : 0 ≤ k) (hfit : k < 2 ^ 63) (h : Q x s)
    (hs : subscripted slice false (.ref l) (.int k u) = operate [.ref l, .int k u] (getItem (.ref l) (.int k u)) := by with_unfolding_all rfl) (hg : ∀ r, letTemporaryGo value (.ref l) r = pure () := by intro _; with_unfolding_all rfl) :
    wpAny (model prog w) A (subscriptTail value slice (.ref l) (.int k u)) Q E s := PyProof.Rows.item_list (lstN N hm) h0 hfit hx h hs hg
end
/-! part b1_ans -/
section
theorem freshB1 : True := by
  w_top off
  trivial
/-! what answers: the pair that _law_answers gives -/
abbrev ansQual : Str := (Str.ofString "_law_answers" ++ ".<locals>.") ++ Str.ofString "<lambda>"
abbrev ansParams : Arguments :=
  { posonlyargs := [],
    args := [{ arg := Str.ofString "holder", annotation := none, pos := { line := 54, col := 19, endLine := 54, endCol := 25 } }, { arg := Str.ofString "value", annotation := none, pos := { line := 54, col := 27, endLine := 54, endCol := 32 } }],
    vararg := none, kwonlyargs := [], kw_defaults := [], kwarg := none, defaults := [] }
abbrev ansBody : PySem.Expr :=
  ((Expr.Name (Str.ofString "value") { line := 54, col := 34, endLine := 54, endCol := 39 }).BinOp Operator.Add
    (Expr.List [Expr.Name (Str.ofString "number") { line := 54, col := 43, endLine := 54, endCol := 49 }] { line := 54, col := 42, endLine := 54, endCol := 50 })
    { line := 54, col := 34, endLine := 54, endCol := 50 })
abbrev ansScope : Scope :=
  { kind := ScopeKind.function, names := [(Str.ofString "holder", NameKind.local), (Str.ofString "value", NameKind.local), (Str.ofString "number", NameKind.free)], isGenerator := false, isCoroutine := false }
abbrev ansFn (cl : Addr) (pm : Value) (c' : Addr) (ctv : Value) : Obj := kla_obj (Str.ofString "<lambda>") ansQual ansParams ansBody ansScope [(Str.ofString "number", cl)] pm c' ctv
def CodeIs (q : Str) (oc : Obj) : Prop := ∃ vs t, oc.data = .fields vs ∧ vs[1]? = some (.str q t)
def TabA (tb : Array Value) (news : List (Addr × Obj)) : Prop := tb = #[] ∨ ∃ c oc, tb = #[rawInt 54, rawInt 12, .ref c] ∧ (c, oc) ∈ news ∧ CodeIs ansQual oc
def Ans (news : List (Addr × Obj)) (v : Value) (k : Int) : Prop :=
  ∃ tup f cl c' oc occ pm ctv t9 tk, v = .ref tup ∧ (tup, ({ cls := .type "tuple", data := .seq #[.ref f, .int 9 t9] } : Obj)) ∈ news ∧ (f, ansFn cl pm c' ctv) ∈ news ∧
    (cl, oc) ∈ news ∧ oc.data = .cell (some (.int k tk)) ∧ (c', occ) ∈ news ∧ CodeIs ansQual occ
theorem TabA.mono {tb : Array Value} {a b : List (Addr × Obj)} (h : TabA tb a) (k : ∀ p ∈ a, p ∈ b) : TabA tb b := h.imp id fun ⟨c, oc, e, hm, r⟩ => ⟨c, oc, e, k _ hm, r⟩
theorem Ans.mono {v : Value} {i : Int} {a b : List (Addr × Obj)} (h : Ans a v i) (k : ∀ p ∈ a, p ∈ b) : Ans b v i := by
  obtain ⟨tup, f, cl, c', oc, occ, pm, ctv, t9, tk, h1, h2, h3, h4, h5, h6, h7⟩ := h
  exact ⟨tup, f, cl, c', oc, occ, pm, ctv, t9, tk, h1, k _ h2, k _ h3, k _ h4, h5, k _ h6, h7⟩

/-- a lambda made for the first time at its place, with all orders told -/
theorem lamNew {M : Model} {A : Around} {E : Value → Shared → Prop} {s : Shared} {h₀ : Heap} {L a c P : Addr} {m : Str → Option Value} {cn : Str} {cs : Scope} {ccd : Value} {cl : List (Str × Addr)} {news : List (Addr × Obj)} {g : Obj → List (Addr × Obj)}
    {p : Program} {loose : List Str} {mean : ExcName → Option Value} {mg mb : Str → Option Value} {name qual : Str} {params : Arguments} {body : PySem.Expr} {scope : Scope} {ps : Array Value} {pos : Pos} {firstLine : Nat} {clos : List (Str × Addr)}
    {Q : Value → Shared → Prop} (F : Fr h₀ L s.heap m) (N : News h₀ L s.heap news) (T : Top p loose mean mg mb h₀) (C : CodeHd h₀ c P) (hcd : ccd = .ref c) (U : UpdF P (tabObj ps) news g) (ht : TriplesOk ps.toList) (hnf : codeAmong pos ps.toList = none)
    (hcl : closureFor scope (envX cn cs L a ccd cl) = pure clos)
    (h : ∀ f c' oc h' tk ctv, Fr h₀ L h' m →
      News h₀ L h' ((f, kla_obj name qual params body scope clos ((mg "__name__").getD .none) c' ctv) :: (c', oc) :: g (tabObj (ps ++ #[rawInt pos.line, rawInt pos.col, .ref c']))) →
      CodeIs qual oc → (∀ q ∈ news, q.1 < c') → (∀ q ∈ (c', oc) :: news, q.1 < f) → Q (.ref f) { s with heap := h', toks := tk }) :
    wpAny M A (makeFunction name qual params (.expr body) scope (envX cn cs L a ccd cl) [] [] [] pos firstLine) Q E s :=
  kla_nest F N T C hcd U ht hnf hcl fun f c' oc vs t ctv h' tk F' N' hd hv l1 l2 => h f c' oc h' tk ctv F' N' ⟨vs, t, hd, hv⟩ l1 fun q hq => by
    rcases List.mem_cons.mp hq with rfl | hq
    · exact l2
    · exact Nat.lt_trans (l1 q hq) l2
end
/-! part b2_holder -/
section
theorem freshB2 : True := by
  w_top off
  trivial
/-! the holder, a Ground with four attributes more -/
structure HK where
  h1 : Int
  h2 : Int
  h3 : Int
  h4 : Int
  h5 : Int
  h6 : Int
  h7 : Int
  h8 : Int
  k1 : Tok
  k2 : Tok
  k3 : Tok
  k4 : Tok
  k5 : Tok
  k6 : Tok
  k7 : Tok
  k8 : Tok
  stk : Value
  opn : Value
  frm : Value
  top : Value
abbrev hdict (κ : HK) (ans : Value) (cc hn : Value) : Obj := W.dictOf [⟨κ.h1, .str (Str.ofString "stack") κ.k1, κ.stk⟩, ⟨κ.h2, .str (Str.ofString "open_upvals") κ.k2, κ.opn⟩,
  ⟨κ.h3, .str (Str.ofString "answers") κ.k3, ans⟩, ⟨κ.h4, .str (Str.ofString "is_over") κ.k4, .bool false⟩, ⟨κ.h5, .str (Str.ofString "frames") κ.k5, κ.frm⟩,
  ⟨κ.h6, .str (Str.ofString "ccalls") κ.k6, cc⟩, ⟨κ.h7, .str (Str.ofString "handling") κ.k7, hn⟩, ⟨κ.h8, .str (Str.ofString "top") κ.k8, κ.top⟩] 8
end
/-! part b3_spec -/
section
theorem freshB3 : True := by
  w_top off
  trivial
inductive All2 {α β : Type} (R : α → β → Prop) : List α → List β → Prop
  | nil : All2 R [] []
  | cons {a b l l'} : R a b → All2 R l l' → All2 R (a :: l) (b :: l')
theorem All2.mono {α β : Type} {R S : α → β → Prop} (k : ∀ a b, R a b → S a b) : ∀ {l : List α} {l' : List β}, All2 R l l' → All2 S l l'
  | _, _, .nil => .nil
  | _, _, .cons h t => .cons (k _ _ h) (t.mono k)
theorem All2.append {α β : Type} {R : α → β → Prop} {m : List α} {m' : List β} (x : All2 R m m') : ∀ {l : List α} {l' : List β}, All2 R l l' → All2 R (l ++ m) (l' ++ m')
  | _, _, .nil => x
  | _, _, .cons h t => .cons h (All2.append x t)
theorem All2.len {α β : Type} {R : α → β → Prop} : ∀ {l : List α} {l' : List β}, All2 R l l' → l.length = l'.length
  | _, _, .nil => rfl
  | _, _, .cons _ t => by simp [t.len]
/-! what _law_done gives: the plain law, and its contract -/
def ansd : Option (List Int) → Option Int → Option (List Int)
  | some l, some k => some (l ++ [k])
  | some l, none => some l
  | none, _ => none
def numOf (f : Int) (i : Int) (near : Option Int) : Option Int := if f = 0 then some i else if f = 1 then none else near
noncomputable def run (r : Bool) : List (Int × Bool) → Option Int → Int → List (Option (List Int)) × Option (List Int)
  | [], _, _ => ([], if r then some [] else none)
  | (f, b) :: ps, near, i =>
    ((run r ps (numOf f i near) (i + 1)).1 ++ [ansd (run r ps (numOf f i near) (i + 1)).2 (numOf f i near)],
      if b then ansd (run r ps (numOf f i near) (i + 1)).2 (numOf f i near) else none)
theorem run_len {r : Bool} : ∀ {ps : List (Int × Bool)} {near : Option Int} {i : Int} {ns : List Int}, (run r ps near i).2 = some ns → ns.length ≤ ps.length
  | [], near, i, ns, h => by
    unfold run at h
    cases r <;> simp at h
    subst h; exact Nat.le_refl _
  | (f, b) :: ps, near, i, ns, h => by
    unfold run at h
    cases b
    · simp at h
    · simp only [if_true] at h
      cases h1 : (run r ps (numOf f i near) (i + 1)).2 with
      | none => rw [h1] at h; simp [ansd] at h
      | some l =>
        have := run_len h1
        rw [h1] at h
        cases h2 : numOf f i near with
        | none => rw [h2] at h; simp only [ansd, Option.some.injEq] at h; subst h; simp only [List.length_cons]; omega
        | some k => rw [h2] at h; simp only [ansd, Option.some.injEq] at h; subst h; simp only [List.length_append, List.length_cons, List.length_nil]; omega

abbrev workQual : Str := (Str.ofString "_law_done" ++ ".<locals>.") ++ Str.ofString "<lambda>"
def TabD (tb : Array Value) (news : List (Addr × Obj)) : Prop := tb = #[] ∨ ∃ c oc, tb = #[rawInt 61, rawInt 37, .ref c] ∧ (c, oc) ∈ news ∧ CodeIs workQual oc
theorem TabD.mono {tb : Array Value} {a b : List (Addr × Obj)} (h : TabD tb a) (k : ∀ p ∈ a, p ∈ b) : TabD tb b := h.imp id fun ⟨c, oc, e, hm, r⟩ => ⟨c, oc, e, k _ hm, r⟩

structure Ad where
  aw : Addr
  ah : Addr
  ahd : Addr
  ap : Addr
  atd : Addr
structure St where
  κ : HK
  cur : Value
  tcc : Tok
  thn : Tok
  hn : Int
  ow : Obj
  told : List Value
  nt : Nat
  tA : Array Value
  tD : Array Value
abbrev coreOf (c : Ad) (plans : List Value) (np : Nat) (σ : St) : List (Addr × Obj) :=
  [(c.aw, σ.ow), (c.ah, instObj 72 c.ahd), (c.ahd, hdict σ.κ σ.cur (.int 0 σ.tcc) (.int σ.hn σ.thn)), (c.ap, W.listOf plans.toArray np), (c.atd, W.listOf σ.told.toArray σ.nt), (85, tabObj σ.tA), (92, tabObj σ.tD)]
abbrev adrs (c : Ad) : List Addr := [c.aw, c.ah, c.ahd, c.ap, c.atd, 85, 92]
abbrev worldKV (c : Ad) (r : Bool) : List (Str × Value) :=
  [(Str.ofString "holder", .ref c.ah), (Str.ofString "plans", .ref c.ap), (Str.ofString "raises", .bool r), (Str.ofString "told", .ref c.atd), (Str.ofString "well", .bool true)]
structure Inv (w : World) (c : Ad) (r : Bool) (σ : St) (rest : List (Addr × Obj)) : Prop where
  ow : σ.ow.IsDictOf (PySem.strKind PR w) (worldKV c r)
  tA : TabA σ.tA rest
  tD : TabD σ.tD rest
/-- no address of the one is an address of the other -/
def Off (a : List (Addr × Obj)) (b : List Addr) : Prop := ∀ p ∈ a, p.1 ∉ b
abbrev adsOf (a : List (Addr × Obj)) : List Addr := a.map (·.1)
def OV (news : List (Addr × Obj)) (o : Option (List Int)) (v : Value) : Prop :=
  match o with
  | none => v = .none
  | some ns => ∃ b ws n, v = .ref b ∧ (b, W.listOf ws.toArray n) ∈ news ∧ IntsAre ws ns
theorem OV.mono {a b : List (Addr × Obj)} {o : Option (List Int)} {v : Value} (h : OV a o v) (k : ∀ p ∈ a, p ∈ b) : OV b o v := by
  cases o with
  | none => exact h
  | some ns => obtain ⟨x, ws, n, h1, h2, h3⟩ := h; exact ⟨x, ws, n, h1, k _ h2, h3⟩
def NearV (news : List (Addr × Obj)) (v : Value) (near : Option Int) : Prop :=
  match near with
  | none => v = .none
  | some k => Ans news v k
theorem NearV.mono {a b : List (Addr × Obj)} {o : Option Int} {v : Value} (h : NearV a v o) (k : ∀ p ∈ a, p ∈ b) : NearV b v o := by
  cases o with
  | none => exact h
  | some ns => exact Ans.mono h k
def PlanV (news : List (Addr × Obj)) (p : Int × Bool) (v : Value) : Prop :=
  (p.1 = 0 ∨ p.1 = 1 ∨ p.1 = 2) ∧ ∃ t tf, v = .ref t ∧ (t, ({ cls := .type "tuple", data := .seq #[.int p.1 tf, .bool p.2] } : Obj)) ∈ news
theorem PlanV.mono {a b : List (Addr × Obj)} {p : Int × Bool} {v : Value} (h : PlanV a p v) (k : ∀ p ∈ a, p ∈ b) : PlanV b p v := by
  obtain ⟨h1, t, tf, h2, h3⟩ := h
  exact ⟨h1, t, tf, h2, k _ h3⟩
structure After (w : World) (h₀ : Heap) (c : Ad) (plans : List Value) (np : Nat) (r : Bool) (L : Addr) (m : Str → Option Value) (cur : Value) (told : List Value) (rest frs : List (Addr × Obj)) (ts : List (Option (List Int)))
    (h' : Heap) (σ' : St) (more frs' : List (Addr × Obj)) : Prop where
  su : SameUp frs frs'
  F : Fr h₀ L h' m
  N : News h₀ L h' (coreOf c plans np σ' ++ ((more ++ rest) ++ frs'))
  inv : Inv w c r σ' (more ++ rest)
  cur : σ'.cur = cur
  told : ∃ vs, σ'.told = told ++ vs ∧ All2 (OV (more ++ rest)) ts vs
  off : Off more (adrs c ++ adsOf frs)
structure ErrUp (h₀ h' : Heap) (e dx t : Addr) (led all : List (Addr × Obj)) (ns : List Int) : Prop where
  up : Up h' e dx t
  hen : h₀.get? e = none
  ne : ∀ p ∈ all, p.1 ≠ e
  val : ∃ h1 h2 h3 k1 k2 k3 v tr, (dx, errDict h1 h2 h3 k1 k2 k3 v tr) ∈ led ∧ OV led (some ns) v
structure Outc (w : World) (h₀ : Heap) (c : Ad) (plans : List Value) (np : Nat) (r : Bool) (L : Addr) (m : Str → Option Value) (cur : Value) (told : List Value) (rest frs : List (Addr × Obj)) (res : List (Option (List Int)) × Option (List Int))
    (s : Shared) (Q E : Value → Shared → Prop) : Prop where
  ok : res.2 = none → ∀ h' tk σ' more frs', After w h₀ c plans np r L m cur told rest frs res.1 h' σ' more frs' → Q .none { s with heap := h', toks := tk }
  er : ∀ ns, res.2 = some ns → ∀ h' tk σ' more frs' e dx t, After w h₀ c plans np r L m cur told rest frs res.1 h' σ' more frs' →
    ErrUp h₀ h' e dx t (more ++ rest) (coreOf c plans np σ' ++ ((more ++ rest) ++ frs')) ns → E (.ref e) { s with heap := h', toks := tk }
structure Callr (A : Around) (L : Addr) (l : List Env) (envL : Env) (frs : List (Addr × Obj)) : Prop where
  fr : A.frames = some (envL :: l)
  L : envL.frame = some L
  kind : envL.scope.kind ≠ .module
  frs : Frs l frs
structure Pre (w : World) (h₀ : Heap) (c : Ad) (plans : List Value) (np : Nat) (r : Bool) (L : Addr) (m : Str → Option Value) (σ : St) (rest frs : List (Addr × Obj)) (h : Heap) (near : Option Int) (ps : List (Int × Bool)) (i : Nat) : Prop where
  F : Fr h₀ L h m
  N : News h₀ L h (coreOf c plans np σ ++ (rest ++ frs))
  inv : Inv w c r σ rest
  near : NearV rest σ.cur near
  plans : All2 (PlanV rest) ps (plans.drop i)
  core : Off (rest ++ frs) (adrs c)
  off : Off rest (adsOf frs)
structure Base (w : World) (h₀ : Heap) (c : Ad) (plans : List Value) : Prop where
  X : (hd.heap_39 w.params).In h₀
  T : ∃ p loose mean mg mb, Top p loose mean mg mb h₀
  C1 : CodeHd h₀ 89 85
  C2 : CodeHd h₀ 96 92
  nd : (adrs c).Nodup
  len : plans.length ≤ 5
def DoneC (w : World) (h₀ : Heap) (c : Ad) (plans : List Value) (np : Nat) (r : Bool) (ps : List (Int × Bool)) (i : Nat) : Prop :=
  ∀ (A : Around) (E : Value → Shared → Prop) (s : Shared) (L : Addr) (m : Str → Option Value) (near : Option Int) (σ : St) (rest frs : List (Addr × Obj)) (l : List Env) (envL : Env) (t0 : Tok) (Q : Value → Shared → Prop),
    A.handled = none → A.depth + 8 * ps.length ≤ 380 → A.units + 60 * ps.length ≤ 3000 → σ.told.length ≤ 100 → Callr A L l envL frs → Pre w h₀ c plans np r L m σ rest frs s.heap near ps i →
    Outc w h₀ c plans np r L m σ.cur σ.told rest frs (run r ps near i) s Q E → wpAny (model PySem.Challenge.rw_rh0155_01.row.prog w) A (call (.ref 97) [.ref c.aw, .int i t0]) Q E s
theorem stored_well {w : World} {o : Obj} {ah ap atd : Addr} {r : Bool} (h : o.IsDictOf (PySem.strKind PR w) (stored [(Str.ofString "holder", Value.ref ah), (Str.ofString "plans", .ref ap), (Str.ofString "raises", .bool r), (Str.ofString "told", .ref atd), (Str.ofString "well", .bool true)] (Str.ofString "well") (.bool true))) :
    o.IsDictOf (PySem.strKind PR w) [(Str.ofString "holder", Value.ref ah), (Str.ofString "plans", .ref ap), (Str.ofString "raises", .bool r), (Str.ofString "told", .ref atd), (Str.ofString "well", .bool true)] := h
end
/-! part b4_pass -/
section
theorem freshB4 : True := by
  w_top off
  trivial
/-! from a callee's frame back to the caller's -/
theorem sameAds : ∀ {a b : List (Addr × Obj)}, SameUp a b → adsOf b = adsOf a
  | [], [], _ => rfl
  | p :: ps, q :: qs, h => by
    obtain ⟨h1, _, h3⟩ := h
    show q.1 :: adsOf qs = p.1 :: adsOf ps
    rw [h1, sameAds h3]
  | [], _ :: _, h => False.elim h
  | _ :: _, [], h => False.elim h
theorem Off.sub {a a' : List (Addr × Obj)} {b b' : List Addr} (h : Off a b) (k : ∀ p ∈ a', p ∈ a) (j : ∀ x ∈ b', x ∈ b) : Off a' b' := fun p hp hx => h p (k p hp) (j _ hx)
/-- a frame apart from all else -/
structure Lone (c : Ad) (L : Addr) (rest frs : List (Addr × Obj)) : Prop where
  core : L ∉ adrs c
  rest : ∀ p ∈ rest, p.1 ≠ L
  frs : L ∉ adsOf frs

section
variable {w : World} {h₀ : Heap} {c : Ad} {plans : List Value} {np : Nat} {r : Bool} {L L' : Addr} {m m' : Str → Option Value} {cur : Value} {told : List Value} {σ' : St} {rest frs more frs1 frs2 : List (Addr × Obj)} {ts : List (Option (List Int))} {h' h'' : Heap} {oL : Obj} {e dx t : Addr} {ns : List Int}

theorem core_ads (σ : St) : adsOf (coreOf c plans np σ) = adrs c := rfl

theorem After.back0 (AF : After w h₀ c plans np r L' m' cur told rest ((L, oL) :: frs) ts h' σ' more frs1) (C : Caller h₀ L m oL) (Y : Lone c L rest frs)
    (SU : SameUp frs1 frs2) (keep : ∀ b o, h₀.get? b = some o → h''.get? b = some o) (led : ∀ p ∈ (coreOf c plans np σ' ++ (more ++ rest)) ++ frs2, h''.get? p.1 = some p.2 ∧ h₀.get? p.1 = none) :
    ∃ frs', After w h₀ c plans np r L m cur told rest frs ts h'' σ' more frs' ∧ frs2 = (L, { oL with slots := (frs2.head?.map (·.2.slots)).getD #[] }) :: frs' := by
  have su := AF.su.trans SU
  cases frs2 with
  | nil => exact False.elim su
  | cons q frs' =>
    obtain ⟨q1, ⟨sl, q2⟩, q3⟩ := su
    obtain ⟨qa, qo⟩ := q
    simp only at q1 q2
    subst q1 q2
    refine ⟨frs', ⟨q3, ?_, fun p hp => ?_, AF.inv, AF.cur, AF.told, ?_⟩, rfl⟩
    · exact ⟨C.ns _ sl (led _ (List.mem_append_right _ (.head _))).1, keep, C.above⟩
    · rcases List.mem_append.mp hp with hp | hp
      · have g := led p (List.mem_append_left _ (List.mem_append_left _ hp))
        exact ⟨g.1, fun q => Y.core (q ▸ (core_ads (c := c) (plans := plans) (np := np) σ') ▸ List.mem_map_of_mem hp), g.2⟩
      · rcases List.mem_append.mp hp with hp | hp
        · have g := led p (List.mem_append_left _ (List.mem_append_right _ hp))
          refine ⟨g.1, fun q => ?_, g.2⟩
          rcases List.mem_append.mp hp with hp | hp
          · exact AF.off p hp (List.mem_append_right _ (q ▸ .head _))
          · exact Y.rest p hp q
        · have g := led p (List.mem_append_right _ (.tail _ hp))
          refine ⟨g.1, fun q => Y.frs ?_, g.2⟩
          rw [← sameAds q3]
          exact q ▸ List.mem_map_of_mem hp
    · exact AF.off.sub (fun p hp => hp) fun x hx => by
        rcases List.mem_append.mp hx with hx | hx
        · exact List.mem_append_left _ hx
        · exact List.mem_append_right _ (.tail _ hx)

theorem regroup {a b d : List (Addr × Obj)} {p : Addr × Obj} (hp : p ∈ (a ++ b) ++ d) : p ∈ a ++ (b ++ d) := by rw [← List.append_assoc]; exact hp
theorem After.back (AF : After w h₀ c plans np r L' m' cur told rest ((L, oL) :: frs) ts h' σ' more frs1) (C : Caller h₀ L m oL) (Y : Lone c L rest frs) :
    ∃ frs', After w h₀ c plans np r L m cur told rest frs ts h' σ' more frs' := by
  obtain ⟨frs', a, _⟩ := AF.back0 C Y (SameUp.refl _) AF.F.keep fun p hp => ⟨(AF.N p (regroup hp)).1, (AF.N p (regroup hp)).2.2⟩
  exact ⟨frs', a⟩

theorem leaveErr {A : Around} {E E' : Value → Shared → Prop} {s : Shared} {env envL : Env} {l : List Env} {s₀ : Shared} {tk : Nat} {res : List (Option (List Int)) × Option (List Int)} {Q : Value → Shared → Prop}
    (O : Outc w h₀ c plans np r L m cur told rest frs res s₀ Q E) (AF : After w h₀ c plans np r L' m' cur told rest ((L, oL) :: frs) res.1 s.heap σ' more frs1) (C : Caller h₀ L m oL) (Y : Lone c L rest frs)
    (K : Callr A L' (envL :: l) env ((L, oL) :: frs)) (coff : Off ((L, oL) :: frs) (adrs c)) (roff : Off rest (adsOf ((L, oL) :: frs))) (hns : res.2 = some ns)
    (ER : ErrUp h₀ s.heap e dx t (more ++ rest) (coreOf c plans np σ' ++ ((more ++ rest) ++ frs1)) ns) (hs : s = { s₀ with heap := s.heap, toks := tk }) :
    wpAny (model PySem.Challenge.rw_rh0155_01.row.prog w) A (leaving env (.ref e)) (fun _ s'' => E (.ref e) s'') E' s := by
  have N : News h₀ L' s.heap ((coreOf c plans np σ' ++ (more ++ rest)) ++ frs1) := News.sub AF.N fun p hp => regroup hp
  refine leavingF (l := envL :: l) K.fr K.L K.kind (Frs.up K.frs AF.su) AF.F N ER.up ER.hen (fun p hp => ⟨ER.ne p (regroup (List.mem_append_left _ hp)), ?_⟩) fun h'' frs2 SU X => ?_
  · show p.1 ∉ adsOf frs1
    rw [sameAds AF.su]
    rcases List.mem_append.mp hp with hp | hp
    · intro hx
      obtain ⟨q, hq, e1⟩ := List.mem_map.mp hx
      exact coff q hq (e1 ▸ (core_ads (c := c) (plans := plans) (np := np) σ') ▸ List.mem_map_of_mem hp)
    · rcases List.mem_append.mp hp with hp | hp
      · exact fun hx => AF.off p hp (List.mem_append_right _ hx)
      · exact roff p hp
  · obtain ⟨frs', a, e2⟩ := AF.back0 (h'' := h'') C Y SU X.keep X.led
    rw [hs]
    refine O.er ns hns h'' tk σ' more frs' e dx t a ⟨.inr X.fly, ER.hen, fun p hp => ?_, ER.val⟩
    rcases List.mem_append.mp hp with hp | hp
    · exact ER.ne p (List.mem_append_left _ hp)
    · rcases List.mem_append.mp hp with hp | hp
      · exact ER.ne p (List.mem_append_right _ (List.mem_append_left _ hp))
      · have h1 : p.1 ∈ adsOf frs1 := by
          rw [← sameAds SU, e2]
          exact .tail _ (List.mem_map_of_mem hp)
        obtain ⟨q, hq, e1⟩ := List.mem_map.mp h1
        exact e1 ▸ ER.ne q (List.mem_append_right _ (List.mem_append_right _ hq))
end

theorem resort {core rest frs : List (Addr × Obj)} {x : Addr × Obj} : ∀ p ∈ core ++ (rest ++ (x :: frs)), p ∈ x :: (core ++ (rest ++ frs)) := fun p hp => by
  simp only [List.mem_append, List.mem_cons] at hp ⊢
  rcases hp with h | h | h | h <;> simp [h]
theorem lone_of {c : Ad} {plans : List Value} {np : Nat} {σ : St} {rest frs : List (Addr × Obj)} {L : Addr} (h : ∀ p ∈ coreOf c plans np σ ++ (rest ++ frs), p.1 ≠ L) : Lone c L rest frs where
  core := fun hx => by
    rw [← core_ads (c := c) (plans := plans) (np := np) σ] at hx
    obtain ⟨q, hq, e⟩ := List.mem_map.mp hx
    exact h q (List.mem_append_left _ hq) e
  rest := fun p hp => h p (List.mem_append_right _ (List.mem_append_left _ hp))
  frs := fun hx => by
    obtain ⟨q, hq, e⟩ := List.mem_map.mp hx
    exact h q (List.mem_append_right _ (List.mem_append_right _ hq)) e
theorem Lone.coff {c : Ad} {L : Addr} {oL : Obj} {rest frs : List (Addr × Obj)} (Y : Lone c L rest frs) (h : Off (rest ++ frs) (adrs c)) : Off ((L, oL) :: frs) (adrs c) := fun p hp => by
  rcases List.mem_cons.mp hp with rfl | hp
  · exact Y.core
  · exact h p (List.mem_append_right _ hp)
theorem Lone.coffr {c : Ad} {L : Addr} {oL : Obj} {rest frs : List (Addr × Obj)} (Y : Lone c L rest frs) (h : Off (rest ++ frs) (adrs c)) : Off (rest ++ ((L, oL) :: frs)) (adrs c) := fun p hp => by
  rcases List.mem_append.mp hp with hp | hp
  · exact h p (List.mem_append_left _ hp)
  · exact Y.coff h p hp
theorem Lone.roff {c : Ad} {L : Addr} {oL : Obj} {rest frs : List (Addr × Obj)} (Y : Lone c L rest frs) (h : Off rest (adsOf frs)) : Off rest (adsOf ((L, oL) :: frs)) := fun p hp hx => by
  rcases List.mem_cons.mp hx with e | hx
  · exact Y.rest p hp e
  · exact h p hp hx

theorem seven {tl : List (Addr × Obj)} {aw ah ahd ap atd : Addr} (h : Off tl (adrs ⟨aw, ah, ahd, ap, atd⟩)) :
    (∀ q ∈ tl, q.1 ≠ aw) ∧ (∀ q ∈ tl, q.1 ≠ ah) ∧ (∀ q ∈ tl, q.1 ≠ ahd) ∧ (∀ q ∈ tl, q.1 ≠ ap) ∧ (∀ q ∈ tl, q.1 ≠ atd) ∧ (∀ q ∈ tl, q.1 ≠ 85) ∧ (∀ q ∈ tl, q.1 ≠ 92) :=
  ⟨fun q hq e => h q hq (by simp [e]), fun q hq e => h q hq (by simp [e]), fun q hq e => h q hq (by simp [e]), fun q hq e => h q hq (by simp [e]), fun q hq e => h q hq (by simp [e]), fun q hq e => h q hq (by simp [e]), fun q hq e => h q hq (by simp [e])⟩
theorem After.core_off {w : World} {h₀ : Heap} {c : Ad} {plans : List Value} {np : Nat} {r : Bool} {L : Addr} {m : Str → Option Value} {cur : Value} {told : List Value} {σ' : St} {rest frs more frs' : List (Addr × Obj)} {ts : List (Option (List Int))} {h' : Heap}
    (AF : After w h₀ c plans np r L m cur told rest frs ts h' σ' more frs') (h : Off (rest ++ frs) (adrs c)) : Off ((more ++ rest) ++ frs') (adrs c) := fun p hp => by
  rcases List.mem_append.mp hp with hp | hp
  · rcases List.mem_append.mp hp with hp | hp
    · exact fun hx => AF.off p hp (List.mem_append_left _ hx)
    · exact h p (List.mem_append_left _ hp)
  · have h1 : p.1 ∈ adsOf frs := by rw [← sameAds AF.su]; exact List.mem_map_of_mem hp
    obtain ⟨q, hq, e1⟩ := List.mem_map.mp h1
    exact e1 ▸ h q (List.mem_append_right _ hq)
theorem ansd_none (k : Option Int) : ansd none k = none := by cases k <;> rfl
theorem sorted2 {core m : List (Addr × Obj)} : ∀ p ∈ core ++ m, p ∈ core ++ m := fun _ hp => hp
theorem resort1 {core rest frs : List (Addr × Obj)} {x y : Addr × Obj} : ∀ p ∈ core ++ (rest ++ (x :: frs)), p ∈ y :: x :: (core ++ (rest ++ frs)) := fun p hp => .tail _ (resort p hp)
theorem After.hap {w : World} {h₀ : Heap} {c : Ad} {plans : List Value} {np : Nat} {r : Bool} {L : Addr} {m : Str → Option Value} {cur : Value} {told : List Value} {σ' : St} {rest frs more frs' : List (Addr × Obj)} {ts : List (Option (List Int))} {h' : Heap} {e : Addr}
    (AF : After w h₀ c plans np r L m cur told rest frs ts h' σ' more frs') (coff : Off frs (adrs c)) (roff : Off rest (adsOf frs)) (ne : ∀ p ∈ coreOf c plans np σ' ++ ((more ++ rest) ++ frs'), p.1 ≠ e) :
    ∀ p ∈ coreOf c plans np σ' ++ (more ++ rest), p.1 ≠ e ∧ p.1 ∉ frs'.map (·.1) := fun p hp => ⟨ne p (regroup (List.mem_append_left _ hp)), by
  show p.1 ∉ adsOf frs'
  rw [sameAds AF.su]
  rcases List.mem_append.mp hp with hp | hp
  · intro hx
    obtain ⟨q, hq, e1⟩ := List.mem_map.mp hx
    exact coff q hq (e1 ▸ (core_ads (c := c) (plans := plans) (np := np) σ') ▸ List.mem_map_of_mem hp)
  · rcases List.mem_append.mp hp with hp | hp
    · exact fun hx => AF.off p hp (List.mem_append_right _ hx)
    · exact roff p hp⟩
theorem ErrUp.off {w : World} {h₀ : Heap} {c : Ad} {plans : List Value} {np : Nat} {r : Bool} {L : Addr} {m : Str → Option Value} {cur : Value} {told : List Value} {σ' : St} {rest frs more frs' led : List (Addr × Obj)} {ts : List (Option (List Int))} {h' h'' : Heap} {e dx t : Addr} {ns : List Int}
    (ER : ErrUp h₀ h'' e dx t led (coreOf c plans np σ' ++ ((more ++ rest) ++ frs')) ns) (AF : After w h₀ c plans np r L m cur told rest frs ts h' σ' more frs') : e ∉ adrs c ++ adsOf frs := fun hx => by
  rcases List.mem_append.mp hx with hx | hx
  · rw [← core_ads (c := c) (plans := plans) (np := np) σ'] at hx
    obtain ⟨q, hq, e1⟩ := List.mem_map.mp hx
    exact ER.ne q (List.mem_append_left _ hq) e1
  · rw [← sameAds AF.su] at hx
    obtain ⟨q, hq, e1⟩ := List.mem_map.mp hx
    exact ER.ne q (List.mem_append_right _ (List.mem_append_right _ hq)) e1
theorem off_cons {a : List (Addr × Obj)} {b : List Addr} {x : Addr × Obj} (h : x.1 ∉ b) (k : Off a b) : Off (x :: a) b := fun p hp => by
  rcases List.mem_cons.mp hp with rfl | hp
  · exact h
  · exact k p hp
theorem told_mono {a b : List (Addr × Obj)} {told told' : List Value} {ts : List (Option (List Int))} (h : ∃ vs, told' = told ++ vs ∧ All2 (OV a) ts vs) (k : ∀ p ∈ a, p ∈ b) : ∃ vs, told' = told ++ vs ∧ All2 (OV b) ts vs := by
  obtain ⟨vs, h1, h2⟩ := h
  exact ⟨vs, h1, h2.mono fun _ _ x => x.mono k⟩
theorem put1 {core more rest frs : List (Addr × Obj)} {x : Addr × Obj} : ∀ p ∈ core ++ (((x :: more) ++ rest) ++ frs), p ∈ x :: (core ++ ((more ++ rest) ++ frs)) := fun p hp => by
  simp only [List.mem_append, List.mem_cons] at hp ⊢
  rcases hp with h | (((h | h) | h) | h) <;> simp [h]
/-- new things above a frame -/
theorem offM {M : List (Addr × Obj)} {L1 : Nat} {b : List Addr} (h : ∀ p ∈ M, L1 < p.1) (k : ∀ x ∈ b, x < L1) : Off M b := fun p hp hx => Nat.lt_irrefl _ (Nat.lt_trans (h p hp) (k _ hx))
theorem offTl {c : Ad} {M rest frs : List (Addr × Obj)} (h : Off M (adrs c)) (k : Off (rest ++ frs) (adrs c)) : Off ((M ++ rest) ++ frs) (adrs c) := fun p hp => by
  rcases List.mem_append.mp hp with hp | hp
  · rcases List.mem_append.mp hp with hp | hp
    · exact h p hp
    · exact k p (List.mem_append_left _ hp)
  · exact k p (List.mem_append_right _ hp)
theorem neTl {M rest frs : List (Addr × Obj)} {x : Nat} {L1 : Nat} (h : ∀ p ∈ M, p.1 ≠ x) (k : ∀ p ∈ rest ++ frs, p.1 < L1) (hx : L1 < x) : ∀ p ∈ (M ++ rest) ++ frs, p.1 ≠ x := fun p hp => by
  rcases List.mem_append.mp hp with hp | hp
  · rcases List.mem_append.mp hp with hp | hp
    · exact h p hp
    · exact Nat.ne_of_lt (Nat.lt_trans (k p (List.mem_append_left _ hp)) hx)
  · exact Nat.ne_of_lt (Nat.lt_trans (k p (List.mem_append_right _ hp)) hx)
end
/-! part b5_rows -/
section
theorem freshB5 : True := by
  w_top off
  trivial
/-! lemmas for the rows: their arguments stand in the order in which the rows fill them -/
section
variable {prog : Program} {w : World} {A : Around} {s : Shared} {h₀ : Heap} {L : Addr} {m : Str → Option Value} {news : List (Addr × Obj)} {R : Result → Shared → Prop} {name qual : Str} {params : Arguments} {scope : Scope} {cl : List (Str × Addr)}
  {dV kV doc pm cdv ct ctv : Value} {an : Option Addr} {fo oc : Obj} {c' f : Addr} {args : Args} {binds : List (Str × Value)} {K : Frag} {p : Program} {loose : List Str} {mean : ExcName → Option Value} {mg mb : Str → Option Value} {vs : Array Value} {tq : Tok}
theorem callF2 {body : List Stmt} (F : Fr h₀ L s.heap m) (N : News h₀ L s.heap news) (T : Top p loose mean mg mb h₀) (X : K.In h₀) (i1 : K.lookup f = some fo)
    (hd : fo.data = .func (fnX name qual params body scope cl dV kV doc pm an cdv ct)) (i2 : codeIn K cdv qual = true) (hroom : A.depth < recursionLimit)
    (hbind : bindArgs (fnX name qual params body scope cl dV kV doc pm an cdv ct) args = pure binds) (hloc : (binds.all fun x => decide (scope.names.lookup x.1 = some .local)) = true)
    (h : ∀ L' h₁ oL, Caller h₀ L m oL → Fr h₀ L' h₁ (fun y => binds.reverse.lookup y) → News h₀ L' h₁ ((L, oL) :: news) → (∀ p ∈ news, p.1 < L') → (∀ p ∈ news, p.1 ≠ L) → @LT.lt Nat _ L L' →
      wpAny (model prog w) (A.deeper (envX qual scope L' f cdv cl)) (execs body (envX qual scope L' f cdv cl))
        (fun fl s' => LeaveF L R (match fl with | .ret v => v | _ => .none) s')
        (fun e s' => wpAny (model prog w) (A.deeper (envX qual scope L' f cdv cl)) (leaving (envX qual scope L' f cdv cl) e) (fun _ s'' => R (.error e) s'') (fun e' s'' => R (.error e') s'') s')
        { s with heap := h₁, toks := s.toks + binds.length })
    (hcell : ∀ x ∈ scope.names, x.2 ≠ .cell) (hco : scope.isCoroutine = false) (hgen : scope.isGenerator = false) (hk : scope.kind = .function) : codeAny (model prog w) A (.call (.ref f) args) R s :=
  callF F N T.nolimit (X.keeps F.keep _ _ i1) hd (codeRec_of (X.keeps F.keep) i2) hroom (BindsTo.of_eq hbind) (locs hloc) (fun L' h₁ oL C F N l a b => h L' h₁ oL C F N a b l) hcell hco hgen hk
theorem callFC2 {body : List Stmt} (F : Fr h₀ L s.heap m) (N : News h₀ L s.heap news) (T : Top p loose mean mg mb h₀) (X : K.In h₀) (i1 : K.lookup f = some fo)
    (hd : fo.data = .func (fnX name qual params body scope [] dV kV doc pm an cdv ct)) (i2 : codeIn K cdv qual = true) (hroom : A.depth < recursionLimit)
    (hbind : bindArgs (fnX name qual params body scope [] dV kV doc pm an cdv ct) args = pure binds)
    (hkind : (binds.all fun y => scope.names.lookup y.1 == some .local || scope.names.lookup y.1 == some .cell) = true)
    (hnd : ((cellsFrom 0 scope.names []).map (·.1)).Nodup)
    (h : ∀ L' h₁ tk oL cells, Caller h₀ L m oL → Fr h₀ L' h₁ (bindL (envOfC qual scope L' f cdv).kindOf binds fun _ => none) → News h₀ L' h₁ (cells ++ ((L, oL) :: news)) →
      CellsAre (bindC (envOfC qual scope L' f cdv).kindOf binds fun _ => none) (cellsFrom (L' + 1) scope.names []) cells → (∀ p ∈ news, p.1 < L') → (∀ p ∈ news, p.1 ≠ L) → @LT.lt Nat _ L L' →
      wpAny (model prog w) (A.deeper (envOfC qual scope L' f cdv)) (execs body (envOfC qual scope L' f cdv))
        (fun fl s' => LeaveF L R (match fl with | .ret v => v | _ => .none) s')
        (fun e s' => wpAny (model prog w) (A.deeper (envOfC qual scope L' f cdv)) (leaving (envOfC qual scope L' f cdv) e) (fun _ s'' => R (.error e) s'') (fun e' s'' => R (.error e') s'') s')
        { s with heap := h₁, toks := tk })
    (hco : scope.isCoroutine = false) (hgen : scope.isGenerator = false) (hk : scope.kind = .function) : codeAny (model prog w) A (.call (.ref f) args) R s :=
  callFC F N T.nolimit (X.keeps F.keep _ _ i1) hd (codeRec_of (X.keeps F.keep) i2) hroom (BindsTo.of_eq hbind) hkind hnd (fun L' h₁ tk oL cells C F N Y l a b => h L' h₁ tk oL cells C F N Y a b l) hco hgen hk
theorem callFL2 {body : PySem.Expr} (F : Fr h₀ L s.heap m) (N : News h₀ L s.heap news) (T : Top p loose mean mg mb h₀)
    (ho : (f, kla_obj name qual params body scope cl pm c' ctv) ∈ news) (hm : (c', oc) ∈ news) (hd : oc.data = .fields vs) (hv : vs[1]? = some (.str qual tq)) (hroom : A.depth < recursionLimit)
    (hbind : bindArgs (kla_fn name qual params body scope cl pm (.ref c') ctv) args = pure binds) (hloc : (binds.all fun x => decide (scope.names.lookup x.1 = some .local)) = true)
    (h : ∀ L' h₁ oL, Caller h₀ L m oL → Fr h₀ L' h₁ (fun y => binds.reverse.lookup y) → News h₀ L' h₁ ((L, oL) :: news) → (∀ p ∈ news, p.1 < L') → (∀ p ∈ news, p.1 ≠ L) → @LT.lt Nat _ L L' →
      wpAny (model prog w) (A.deeper (envX qual scope L' f (.ref c') cl)) (eval body (envX qual scope L' f (.ref c') cl))
        (fun v s' => LeaveF L R v s')
        (fun e s' => wpAny (model prog w) (A.deeper (envX qual scope L' f (.ref c') cl)) (leaving (envX qual scope L' f (.ref c') cl) e) (fun _ s'' => R (.error e) s'') (fun e' s'' => R (.error e') s'') s')
        { s with heap := h₁, toks := s.toks + binds.length })
    (hco : scope.isCoroutine = false) (hgen : scope.isGenerator = false) (hk : scope.kind = .function)
    (hcell : ∀ x ∈ scope.names, x.2 ≠ .cell) : codeAny (model prog w) A (.call (.ref f) args) R s :=
  callFL F N T.nolimit ho (codeRec_news N hm hd hv) hroom hbind (locs hloc) (fun L' h₁ oL C F N l a b => h L' h₁ oL C F N a b l) hco hgen hk hcell
end
section
variable {M : Model} {A : Around} {E : Value → Shared → Prop} {s : Shared} {h₀ : Heap} {L a c P : Addr} {m mg mb : Str → Option Value} {cn : Str} {cs : Scope} {ccd : Value} {cl : List (Str × Addr)} {news : List (Addr × Obj)} {g : Obj → List (Addr × Obj)}
  {p : Program} {loose : List Str} {mean : ExcName → Option Value} {params : Arguments} {body : PySem.Expr} {scope : Scope} {ps : Array Value} {pos : Pos} {clos : List (Str × Addr)} {Q : Value → Shared → Prop}
theorem lamNew2 (F : Fr h₀ L s.heap m) (N : News h₀ L s.heap news) (T : Top p loose mean mg mb h₀) (hdef : defaultsOf params (envX cn cs L a ccd cl) = ([], [])) (hcd : ccd = .ref c) (C : CodeHd h₀ c P) (U : UpdF P (tabObj ps) news g) (ht : TriplesOk ps.toList)
    (hnf : codeAmong pos ps.toList = none) (hcl : closureFor scope (envX cn cs L a ccd cl) = pure clos)
    (h : ∀ f c' oc h' tk ctv, Fr h₀ L h' m →
      News h₀ L h' ((f, kla_obj "<lambda>" ((envX cn cs L a ccd cl).qual ++ "<lambda>") params body scope clos ((mg "__name__").getD .none) c' ctv) :: (c', oc) :: g (tabObj (ps ++ #[rawInt pos.line, rawInt pos.col, .ref c']))) →
      CodeIs ((envX cn cs L a ccd cl).qual ++ "<lambda>") oc → (∀ q ∈ news, q.1 < c') → (∀ q ∈ (c', oc) :: news, q.1 < f) → Q (.ref f) { s with heap := h', toks := tk }) :
    wpAny M A (eval (.Lambda params body scope pos) (envX cn cs L a ccd cl)) Q E s := kla_eval hdef (lamNew F N T C hcd U ht hnf hcl h)
theorem lamHit2 {c' : Addr} (F : Fr h₀ L s.heap m) (N : News h₀ L s.heap news) (T : Top p loose mean mg mb h₀) (hdef : defaultsOf params (envX cn cs L a ccd cl) = ([], [])) (hcd : ccd = .ref c) (C : CodeHd h₀ c P) (hmem : (P, tabObj ps) ∈ news) (ht : TriplesOk ps.toList)
    (hf : codeAmong pos ps.toList = some (.ref c')) (hcl : closureFor scope (envX cn cs L a ccd cl) = pure clos)
    (h : ∀ f ctv h' tk, Fr h₀ L h' m → News h₀ L h' ((f, kla_obj "<lambda>" ((envX cn cs L a ccd cl).qual ++ "<lambda>") params body scope clos ((mg "__name__").getD .none) c' ctv) :: news) → (∀ q ∈ news, q.1 < f) → Q (.ref f) { s with heap := h', toks := tk }) :
    wpAny M A (eval (.Lambda params body scope pos) (envX cn cs L a ccd cl)) Q E s := kla_eval hdef (kla_hit F N T C hcd hmem ht hf hcl h)
theorem nameX2 {o : Obj} {x : Str} {v : Value} (hk : cs.kind = .function) (hx : (envX cn cs L a ccd cl).kindOf x = some .free) (N : News h₀ L s.heap news) (hc : cl.lookup x = some c) (hm : (c, o) ∈ news) (hd : o.data = .cell (some v)) (h : Q v s)
    (hb : (x == ("__debug__" : Str)) = false := by decide) (hn : (x == ("__classdict__" : Str)) = false := by decide) :
    wpAny M A (eval (.Name x pos) (envX cn cs L a ccd cl)) Q E s := nameX_F N hc hm hd h hk hx hb hn
end
section
variable {prog : Program} {w : World} {A : Around} {E : Value → Shared → Prop} {s : Shared} {env : Env} {h₀ : Heap} {L d : Addr} {m : Str → Option Value} {news : List (Addr × Obj)} {o : Obj} {kvs : List (Str × Value)} {k : Str} {tk : Tok} {v : Value}
theorem unpackNH2 {elts : List PySem.Expr} {k} {pos : Pos} {t : Addr} {items : Array Value} {n : Nat} {dct : Option Addr} {sl : Array (Option Value)} {e0 dx tt : Addr} {tb : Value} {Q : Unit → Shared → Prop} (F : Fr h₀ L s.heap m) (N : News h₀ L s.heap news) (hh : A.handled = some (.ref e0))
    (ht : (t, ({ cls := .type "tuple", dict := dct, data := .seq items n, slots := sl } : Obj)) ∈ news) (he : (e0, excObj dx tt tb) ∈ news) (hn : (assignEach elts env).length = items.size) (hstar : (assignEach elts env).findIdx? (·.1) = none)
    (h : ∀ h', Fr h₀ L h' m → News h₀ L h' news → wpAny (model prog w) A (assignInOrder ((assignEach elts env).map (·.2)) items.toList) Q E { s with heap := h' }) :
    wpAny (model prog w) A (assign (.Tuple elts k pos) env (.ref t)) Q E s := unpackNH F N (N.isTup ht) hh he hn hstar h
theorem itemStr {value slice : PySem.Expr} {Q : Value → Shared → Prop} (N : News h₀ L s.heap news) (hd : o.IsDictOf (PySem.strKind prog w) kvs) (hp : (d, o) ∈ news) (hl : valueAt kvs k = some v) (h : Q v { s with toks := s.toks + 1 })
    (hs : subscripted slice false (.ref d) (.str k tk) = operate [.ref d, .str k tk] (getItem (.ref d) (.str k tk)) := by with_unfolding_all rfl) (hg : ∀ r, letTemporaryGo value (.ref d) r = pure () := by intro _; with_unfolding_all rfl) :
    wpAny (model prog w) A (subscriptTail value slice (.ref d) (.str k tk)) Q E s := kda_item N hp hd (strKind_is _ _ _ _) hl h hs hg
theorem getItemStr {Q : Value → Shared → Prop} (N : News h₀ L s.heap news) (hd : o.IsDictOf (PySem.strKind prog w) kvs) (hp : (d, o) ∈ news) (hl : valueAt kvs k = some v) (h : Q v { s with toks := s.toks + 1 }) :
    wpAny (model prog w) A (getItem (.ref d) (.str k tk)) Q E s := kdt_getItem N hp hd (strKind_is _ _ _ _) hl h
theorem setItemStr {g : Obj → List (Addr × Obj)} {Q : Unit → Shared → Prop} (F : Fr h₀ L s.heap m) (N : News h₀ L s.heap news) (hd : o.IsDictOf (PySem.strKind prog w) kvs) (U : UpdF d o news g) (hsz : Nat.ble kvs.length 1000 = true)
    (h : ∀ h' o', Fr h₀ L h' m → News h₀ L h' (g o') → o'.IsDictOf (PySem.strKind prog w) (stored kvs k v) → Q () { s with heap := h', toks := s.toks + 1 }) : wpAny (model prog w) A (setItem (.ref d) (.str k tk) v) Q E s :=
  kda_set F N U hd (strKind_is _ _ _ _) (by rw [sizeLine_eq]; exact Nat.le_trans (Nat.le_of_ble_eq_true hsz) (Nat.le_of_ble_eq_true (by with_unfolding_all rfl))) h
theorem itemInt {value slice : PySem.Expr} {l : Addr} {items : Array Value} {n : Nat} {k : Int} {u : Tok} {x : Value} {Q : Value → Shared → Prop} (N : News h₀ L s.heap news) (hm : (l, W.listOf items n) ∈ news)
    (hx : items[k.toNat]? = some x) (h0 : 0 ≤ k) (hfit : k < 2 ^ 63) (h : Q x s)
    (hs : subscripted slice false (.ref l) (.int k u) = operate [.ref l, .int k u] (getItem (.ref l) (.int k u)) := by with_unfolding_all rfl) :
    wpAny (model prog w) A (subscriptTail value slice (.ref l) (.int k u)) Q E s :=
  kba_turn (value' := PySem.Expr.Name (PySem.Str.ofString "_") ⟨0, 0, 0, 0⟩) (fun _ => rfl) (itemF N hm hx h0 hfit h hs (by intro _; with_unfolding_all rfl))
theorem errAttr2 {expr : Bool} {name : Str} {Q : Value → Shared → Prop} {h : Heap} {g : Array GenState} {d : Drawn} {t : Nat} {os : OsState} {e dx tt tr : Addr} {tb v v0 : Value} {h1 h2 h3 : Int} {k1 k2 k3 : Tok} {K : Frag}
    (F : Fr h₀ L h m) (X : K.In h₀) (N : News h₀ L h news) (a : (e, excObj dx tt tb) ∈ news) (b : (dx, errDict h1 h2 h3 k1 k2 k3 v0 tr) ∈ news) (q : ktsIn K 31 "BaseException" = true)
    (hf : findObj K 31 (some (errDict h1 h2 h3 k1 k2 k3 v0 tr)) name = some (.value v)) (hv : handedIn v = true)
    (g1 : findIn K (.ref 31) "__getattribute__" = some (some (.builtin "BaseException.__getattribute__"))) (g2 : findIn K (.ref 31) "__getattr__" = some none) (hq : Q v ⟨h, g, d, t + 1, os⟩) :
    wpAny (model prog w) A (getAttr (.ref e) name expr) Q E ⟨h, g, d, t, os⟩ := err_attr (X.keeps F.keep) q (inst_err N a b) hf hv g1 g2 hq
end
end
local macro_rules | `(tactic| k_lt $_) => `(tactic| skip)
local macro_rules | `(tactic| walk_at "MyIn") => `(tactic| ((fail_if_success (with_reducible show _ ∈ ([] : List (PySem.Addr × PySem.Obj)))); first | assumption | (refine List.Mem.tail _ ?_; walk_at "MyIn") | (refine List.mem_append_left _ ?_; walk_at "MyIn") | (refine List.mem_append_right _ ?_; walk_at "MyIn")))
local macro_rules | `(tactic| walk_at "MyTail") => `(tactic| (intro q hq; walk_at "MyIn"))
local macro_rules | `(tactic| k_all) => `(tactic| first | exact List.forall_mem_nil _ | assumption | exact all_ne (by assumption) (by walk_at "MyTail") | exact all_lt (by assumption) (by walk_at "MyTail") | ((fail_if_success (with_reducible show ∀ p ∈ ([] : List (PySem.Addr × PySem.Obj)), _)); exact all_app (by k_all) (by k_all)) | exact all_ge (by assumption) (by first | exact lt_mem (by assumption) (by k_mem) | omega))
local macro_rules | `(tactic| k_mem) => `(tactic| ((fail_if_success (with_reducible show _ ∈ ([] : List (PySem.Addr × PySem.Obj)))); first | assumption | (refine List.mem_append_left _ ?_; k_mem) | (refine List.mem_append_right _ ?_; k_mem)))
local macro_rules | `(tactic| k_ne) => `(tactic| (refine neN ?_; (try dsimp only); first | assumption | exact Ne.symm (by assumption) | exact ne_at (by assumption) (by k_mem) | exact ne_at' (by assumption) (by k_mem) | exact lt_at (by assumption) (by k_mem) | exact lt_at' (by assumption) (by k_mem) | exact ne_up (by assumption) (by k_mem) (by omega) | exact ne_up' (by assumption) (by k_mem) (by omega) | omega))
local macro_rules | `(tactic| walk_at "MyRem") => `(tactic| first | exact Rem.head (by k_all) | exact Rem.tail (by k_ne) (by walk_at "MyRem"))
local macro_rules | `(tactic| walk_at "MyLeave") => `(tactic| refine' leaveF (by assumption) (by k_asm) (by k_asm) (by walk_at "MyRem") ?_)
local macro_rules | `(tactic| walk_at "MyEnter") => `(tactic| (k_dflt (refine' callF2 (by k_asm) (by k_asm) (by k_asm) (by k_asm) (by k_is) (by exact rfl) (by k_is) (by k_room) (by exact rfl) (by exact rfl) ?_ (by decide) (by exact rfl) (by exact rfl) (by exact rfl)); intro L' h' oL' C' F' N' l1 nL lL; (try dsimp only)))
local macro_rules | `(tactic| walk_at "MyEnterC") => `(tactic| (k_dflt (refine' callFC2 (by k_asm) (by k_asm) (by k_asm) (by k_asm) (by k_is) (by exact rfl) (by k_is) (by k_room) (by exact rfl) (by exact rfl) (by decide +kernel) ?_ (by exact rfl) (by exact rfl) (by exact rfl)); intro L' h' tk' oL' cells' C' F' N' Y' l1 nL lL; k_cells Y'; (try simp only [List.cons_append, List.nil_append] at N'); (try dsimp only)))
local macro_rules | `(tactic| walk_at "eval Lambda") => `(tactic| (k_here; first | (k_dflt (refine' lamNew2 (by k_asm) (by k_asm) (by k_asm) (by exact rfl) (by exact rfl) (by kn_code) (by k_updF) (by kn_triples) (by kn_among) (by exact rfl) ?_; k_whole); intro f' c' oc' h' tk' ctv' F' N' d1' l1 l2; (try dsimp only at N')) | (k_dflt (refine' lamHit2 (by k_asm) (by k_asm) (by k_asm) (by exact rfl) (by exact rfl) (by kn_code) (by k_mem) (by kn_triples) (by kn_hit) (by exact rfl) ?_; k_whole); intro f' ct' h' tk' F' N' l1; (try dsimp only at N'))))
local macro_rules | `(tactic| walk_at "MyEnterL") => `(tactic| (k_dflt (refine' callFL2 (by k_asm) (by k_asm) (by k_asm) (by k_mem) (by k_mem) (by assumption) (by assumption) (by k_room) (by exact rfl) (by exact rfl) ?_ (by exact rfl) (by exact rfl) (by exact rfl) (by decide)); intro L' h' oL' C' F' N' l1 nL lL; (try dsimp only)))
local macro_rules | `(tactic| walk_at "eval Name") => `(tactic| (k_here; k_dflt (refine' nameX2 (by rfl) (by rfl) (by k_asm) (by rfl) (by k_mem) (by k_asm) ?_; k_whole)))
local macro_rules | `(tactic| walk_at "assign Tuple") => `(tactic| (k_here; (with_reducible show wpAny _ _ (assign (Expr.Tuple _ _ _) _ (Value.ref _)) _ _ _); k_dflt (refine' unpackNH2 (by k_asm) (by k_asm) (by exact rfl) (by k_mem) (by k_mem) (by exact rfl) (by exact rfl) ?_; k_whole); intro h' F' N'))
local macro_rules | `(tactic| walk_at "callWith ref") => `(tactic| (k_here; first
  | ((with_reducible show wpAny _ _ (callWith _ _ _ (backTo _ (starEach [] _)) _) _ _ _); k_dflt (refine' callWith_F0 ?k1 ?_; (case k1 => exact funAt_of (by k_asm) (by k_mem)); k_whole))
  | (k_dflt (refine' callWith_F ?k1 ?k2 ?_; (case k1 => k_asm); (case k2 => k_mem); k_whole))))
local macro_rules | `(tactic| walk_at "And") => `(tactic| ((with_reducible show FunAt _ _ ∧ _); k_dflt (refine ⟨funAt_of (by k_asm) (by k_mem), ?_⟩); (try dsimp only [List.nil_append, List.cons_append])))
local macro_rules | `(tactic| walk_at "call ref") => `(tactic| (k_here; k_dflt (refine' mkErr (by k_asm) (by k_asm) (by k_asm) (by first | exact Nat.le_of_ble_eq_true rfl | (show _ + 1 ≤ _; omega)) (by first | exact Nat.le_of_ble_eq_true rfl | omega) ?_; k_whole); intro e' dx' t' tr' h' tk' a1' a2' a3' b1' b2' b3' F' N' ne' nd' le'))
local macro_rules | `(tactic| walk_at "subscriptTail") => `(tactic| (k_here; (with_reducible show wpAny _ _ (subscriptTail _ _ (Value.ref _) (Value.str _ _)) _ _ _); k_dflt (refine' itemStr (by k_asm) (by assumption) (by k_mem) (by rfl) ?_; k_whole)))
local macro_rules | `(tactic| walk_at "getItem ref str") => `(tactic| (k_here; k_dflt (refine' getItemStr (by k_asm) (by assumption) (by k_mem) (by rfl) ?_; k_whole)))
local macro_rules | `(tactic| walk_at "setItem ref str") => `(tactic| (k_here; k_dflt (refine' setItemStr (by k_asm) (by k_asm) (by assumption) (by k_updF) (by with_unfolding_all rfl) ?_; k_whole); intro h' o' F' N' hd'; (try dsimp only at N'); replace hd' := stored_well hd'))
local macro_rules | `(tactic| k_room) => `(tactic| exact Nat.lt_of_le_of_lt (m := 990) (by (try simp only [depth_under_make, depth_under_kw, depth_in1, depth_deeper, depth_caller]); omega) (by decide))
local macro_rules | `(tactic| k_handed) => `(tactic| assumption)
local macro_rules | `(tactic| walk_at "getAttr ref") => `(tactic| (k_here; k_dflt (refine' errAttr2 (by k_asm) (by assumption) (by k_asm) (by k_mem) (by k_mem) (by first | rfl | decide +kernel) (findObj_own (attr := none) (by k_is) (by k_is) (by k_is) (looks_dict (by k_get))) (by k_handed) (by k_is) (by k_is) ?_; k_whole)))
local macro_rules | `(tactic| walk_at "bind") => `(tactic| (k_here; (with_reducible show wpAny _ _ (do bindName _ _ Value.none; unbindBehindTheSuite _ _ _) _ _ _); k_dflt (refine' nameGoesF (by k_asm) (by k_asm) ?_; k_whole); intro h' v' F' N'))

theorem fillOnce (w : World) (h : Heap) : (hd.heap_39 w.params).In h → PR = PySem.Challenge.rw_rh0155_01.row.prog := by
  k_fill
  intro _; rfl
/-! part c1_poked -/
section
theorem freshC1 : True := by
  w_top off
  trivial

theorem poked0 {w : World} {fr : Option (List Env)} {gd : Option (List Code)} {E : Value → Shared → Prop} {s : Shared} {h₀ : Heap} {L : Addr} {m : Str → Option Value} {p : Program} {loose : List Str} {mean : ExcName → Option Value} {mg mb : Str → Option Value}
    {st cl : Addr} {turn many : Int} {t0 t1 : Tok} {n1 n2 : Nat} {ws : List Value} {ns : List Int} {tl : List (Addr × Obj)} {Q : Value → Shared → Prop}
    (X : (hd.heap_39 w.params).In h₀) (T : Top p loose mean mg mb h₀) (F : Fr h₀ L s.heap m) 
    (N : News h₀ L s.heap ((st, W.listOf #[.ref cl, .int turn t1] n1) :: (cl, W.listOf ws.toArray n2) :: tl)) (hI : IntsAre ws ns) (hlen : ns.length ≤ 64)
    (h0 : 0 ≤ turn) (h1 : turn ≤ 100) (hm0 : 0 < many) (hm1 : many ≤ 5) (hne : cl ≠ st) (htl : ∀ q ∈ tl, q.1 ≠ st)
    (k : ∀ v tv t2 n' h' tk, 0 ≤ v → v < many → Fr h₀ L h' m → News h₀ L h' ((st, W.listOf #[.ref cl, .int (turn + 1) t2] n') :: (cl, W.listOf ws.toArray n2) :: tl) → Q (.int v tv) { s with heap := h', toks := tk }) :
    wpAny (model PySem.Challenge.rw_rh0155_01.row.prog w) { handled := none, depth := 900, frames := fr, guards := gd, units := 9000 } (call (.ref 83) [.ref st, .int many t0]) Q E s := by
  refine wpAny_call ?_
  walk_at "MyEnter"
  k_steps
  · walk_at "MyLeave"
    intro F' N'
    exact k _ _ _ _ _ _ (Int.fmod_nonneg_of_pos _ hm0) (Int.fmod_lt_of_pos _ hm0) F' N'
  · walk_at "MyLeave"
    intro F' N'
    exact k _ _ _ _ _ _ (Int.fmod_nonneg_of_pos _ hm0) (Int.fmod_lt_of_pos _ hm0) F' N'

theorem poked {w : World} {A : Around} {E : Value → Shared → Prop} {s : Shared} {h₀ : Heap} {L : Addr} {m : Str → Option Value} {p : Program} {loose : List Str} {mean : ExcName → Option Value} {mg mb : Str → Option Value}
    {st cl : Addr} {turn many : Int} {t0 t1 : Tok} {n1 n2 : Nat} {ws : List Value} {ns : List Int} {tl : List (Addr × Obj)} {Q : Value → Shared → Prop}
    (X : (hd.heap_39 w.params).In h₀) (T : Top p loose mean mg mb h₀) (hh : A.handled = none) (hdp : A.depth ≤ 900) (hun : A.units ≤ 9000) (F : Fr h₀ L s.heap m) 
    (N : News h₀ L s.heap ((st, W.listOf #[.ref cl, .int turn t1] n1) :: (cl, W.listOf ws.toArray n2) :: tl)) (hI : IntsAre ws ns) (hlen : ns.length ≤ 64)
    (h0 : 0 ≤ turn) (h1 : turn ≤ 100) (hm0 : 0 < many) (hm1 : many ≤ 5) (hne : cl ≠ st) (htl : ∀ q ∈ tl, q.1 ≠ st)
    (k : ∀ v tv t2 n' h' tk, 0 ≤ v → v < many → Fr h₀ L h' m → News h₀ L h' ((st, W.listOf #[.ref cl, .int (turn + 1) t2] n') :: (cl, W.listOf ws.toArray n2) :: tl) → Q (.int v tv) { s with heap := h', toks := tk }) :
    wpAny (model PySem.Challenge.rw_rh0155_01.row.prog w) A (call (.ref 83) [.ref st, .int many t0]) Q E s := by
  obtain ⟨hdl, dp, fr, gd, un⟩ := A
  simp only at hh hdp hun
  subst hh
  exact wpAny_room (d := 900) (u := 9000) (poked0 X T F N hI hlen h0 h1 hm0 hm1 hne htl k) hdp hun
end
/-! part c2_answers -/
section
theorem freshC2 : True := by
  w_top off
  trivial

theorem answers0 {w : World} {fr : Option (List Env)} {gd : Option (List Code)} {E : Value → Shared → Prop} {s : Shared} {h₀ : Heap} {L : Addr} {m : Str → Option Value} {p : Program} {loose : List Str} {mean : ExcName → Option Value} {mg mb : Str → Option Value}
    {num : Int} {t0 : Tok} {tb : Array Value} {tl im : List (Addr × Obj)} {Q : Value → Shared → Prop}
    (X : (hd.heap_39 w.params).In h₀) (T : Top p loose mean mg mb h₀) (CH : CodeHd h₀ 89 85) (F : Fr h₀ L s.heap m)
    (N : News h₀ L s.heap ((85, tabObj tb) :: tl)) (htl : ∀ q ∈ tl, q.1 ≠ 85) (him : ∀ p ∈ im, p ∈ tl) (hT : TabA tb im)
    (k : ∀ hv tb' more B h' tk, Fr h₀ L h' m → News h₀ L h' ((85, tabObj tb') :: (more ++ tl)) → TabA tb' (more ++ im) → Ans (more ++ im) hv num → L < B → (∀ p ∈ (85, tabObj tb) :: tl, p.1 < B) → (∀ p ∈ more, B ≤ p.1) → Q hv { s with heap := h', toks := tk }) :
    wpAny (model PySem.Challenge.rw_rh0155_01.row.prog w) { handled := none, depth := 900, frames := fr, guards := gd, units := 9000 } (call (.ref 90) [.int num t0]) Q E s := by
  rcases hT with rfl | ⟨c, oc, rfl, hc, vsc, tc, hoc, hvc⟩
  · refine wpAny_call ?_
    walk_at "MyEnterC"
    try k_fold
    k_steps
    walk_at "MyLeave"
    intro F' N'
    have hlt := ‹∀ p ∈ (85, tabObj #[]) :: tl, p.1 < _›
    have hc := ‹CodeIs _ _›
    have g1 := lt_mem ‹∀ q ∈ (_, _) :: (L, _) :: (85, tabObj #[]) :: tl, q.1 < _› (.head _)
    have g2 := lt_mem ‹∀ q ∈ (_, _) :: (_, _) :: (L, _) :: (85, tabObj #[]) :: tl, q.1 < _› (.head _)
    have g3 := lt_mem ‹∀ q ∈ (_, _) :: (_, _) :: (_, _) :: (L, _) :: (85, _) :: tl, q.1 < _› (.head _)
    refine k _ _ _ _ _ _ F' (News.put4 N') (.inr ⟨_, _, rfl, .tail _ (.tail _ (.head _)), hc⟩)
      ⟨_, _, _, _, _, _, _, _, _, _, rfl, .head _, .tail _ (.head _), .tail _ (.tail _ (.tail _ (.head _))), (by assumption), .tail _ (.tail _ (.head _)), hc⟩ (by assumption) hlt ?_
    intro q hq
    simp only [List.mem_cons, List.not_mem_nil, or_false] at hq
    rcases hq with rfl | rfl | rfl | rfl <;> exact leN (by dsimp only; omega)
  · have hc2 := him _ hc
    refine wpAny_call ?_
    walk_at "MyEnterC"
    try k_fold
    k_steps
    walk_at "MyLeave"
    intro F' N'
    have hlt := ‹∀ p ∈ (85, tabObj _) :: tl, p.1 < _›
    have g2 := lt_mem ‹∀ q ∈ (_, _) :: (L, _) :: (85, _) :: tl, q.1 < _› (.head _)
    have g3 := lt_mem ‹∀ q ∈ (_, _) :: (_, _) :: (L, _) :: (85, _) :: tl, q.1 < _› (.head _)
    refine k _ _ _ _ _ _ F' (News.put3 N') (.inr ⟨_, _, rfl, List.mem_append_right _ hc, _, _, hoc, hvc⟩)
      ⟨_, _, _, _, _, _, _, _, _, _, rfl, .head _, .tail _ (.head _), .tail _ (.tail _ (.head _)), (by assumption), List.mem_append_right _ hc, _, _, hoc, hvc⟩ (by assumption) hlt ?_
    intro q hq
    simp only [List.mem_cons, List.not_mem_nil, or_false] at hq
    rcases hq with rfl | rfl | rfl <;> exact leN (by dsimp only; omega)

theorem answers {w : World} {A : Around} {E : Value → Shared → Prop} {s : Shared} {h₀ : Heap} {L : Addr} {m : Str → Option Value} {p : Program} {loose : List Str} {mean : ExcName → Option Value} {mg mb : Str → Option Value}
    {num : Int} {t0 : Tok} {tb : Array Value} {news im : List (Addr × Obj)} {g : Obj → List (Addr × Obj)} {Q : Value → Shared → Prop}
    (X : (hd.heap_39 w.params).In h₀) (T : Top p loose mean mg mb h₀) (CH : CodeHd h₀ 89 85) (hh : A.handled = none) (hdp : A.depth ≤ 900) (hun : A.units ≤ 9000) (F : Fr h₀ L s.heap m)
    (N : News h₀ L s.heap news) (U : UpdF 85 (tabObj tb) news g) (him : ∀ p ∈ im, p ∈ news) (him2 : ∀ p ∈ im, p.1 ≠ 85) (hT : TabA tb im)
    (k : ∀ hv tb' more B h' tk, Fr h₀ L h' m → News h₀ L h' (more ++ g (tabObj tb')) → TabA tb' (more ++ im) → Ans (more ++ im) hv num → L < B → (∀ p ∈ news, p.1 < B) → (∀ p ∈ more, B ≤ p.1) → Q hv { s with heap := h', toks := tk }) :
    wpAny (model PySem.Challenge.rw_rh0155_01.row.prog w) A (call (.ref 90) [.int num t0]) Q E s := by
  obtain ⟨hdl, dp, fr, gd, un⟩ := A
  simp only at hh hdp hun
  subst hh
  obtain ⟨pre, post, rfl, hg, h1, h2⟩ := U.split
  have him' : ∀ p ∈ im, p ∈ pre ++ post := fun p hp => by
    rcases List.mem_append.mp (him p hp) with hq | hq
    · exact List.mem_append_left _ hq
    · rcases List.mem_cons.mp hq with q | hq
      · exact absurd (q ▸ rfl) (him2 p hp)
      · exact List.mem_append_right _ hq
  refine wpAny_room (d := 900) (u := 9000) (answers0 (tl := pre ++ post) (im := im) X T CH F (News.sub N fun q hq => ?_) (fun q hq => ?_) him' hT fun hv tb' more B h' tk F' N' hA hB hL hlt hge => ?_) hdp hun
  · rcases List.mem_cons.mp hq with rfl | hq
    · exact List.mem_append_right _ (.head _)
    · rcases List.mem_append.mp hq with hq | hq
      · exact List.mem_append_left _ hq
      · exact List.mem_append_right _ (.tail _ hq)
  · rcases List.mem_append.mp hq with hq | hq
    · exact h1 q hq
    · exact h2 q hq
  · refine k hv tb' more B h' tk F' (News.sub N' fun q hq => ?_) hA hB hL (fun q hq => ?_) hge
    · rw [hg] at hq
      rcases List.mem_append.mp hq with hq | hq
      · exact .tail _ (List.mem_append_left _ hq)
      · rcases List.mem_append.mp hq with hq | hq
        · exact .tail _ (List.mem_append_right _ (List.mem_append_left _ hq))
        · rcases List.mem_cons.mp hq with rfl | hq
          · exact .head _
          · exact .tail _ (List.mem_append_right _ (List.mem_append_right _ hq))
    · rcases List.mem_append.mp hq with hq | hq
      · exact hlt q (.tail _ (List.mem_append_left _ hq))
      · rcases List.mem_cons.mp hq with rfl | hq
        · exact hlt _ (.head _)
        · exact hlt q (.tail _ (List.mem_append_right _ hq))
end
/-! part c3_reply -/
section
theorem freshC3 : True := by
  w_top off
  trivial

theorem reply0 {w : World} {hdl : Option Value} {fr : Option (List Env)} {gd : Option (List Code)} {E : Value → Shared → Prop} {s : Shared} {h₀ : Heap} {L : Addr} {m : Str → Option Value} {p : Program} {loose : List Str} {mean : ExcName → Option Value} {mg mb : Str → Option Value}
    {f cl c' a : Addr} {oc occ : Obj} {pm ctv hv : Value} {num : Int} {tk0 : Tok} {vsc : Array Value} {tc : Tok} {vs : List Value} {ns : List Int} {n : Nat} {tl : List (Addr × Obj)} {Q : Value → Shared → Prop}
    (X : (hd.heap_39 w.params).In h₀) (T : Top p loose mean mg mb h₀) (F : Fr h₀ L s.heap m) (N : News h₀ L s.heap tl)
    (hf : (f, ansFn cl pm c' ctv) ∈ tl) (hcl : (cl, oc) ∈ tl) (hoc : oc.data = .cell (some (.int num tk0))) (hcc : (c', occ) ∈ tl) (hcd : occ.data = .fields vsc) (hcv : vsc[1]? = some (.str ansQual tc))
    (ha : (a, W.listOf vs.toArray n) ∈ tl) (hI : IntsAre vs ns) (hlen : ns.length ≤ 64)
    (k : ∀ b ws h' tk, Fr h₀ L h' m → News h₀ L h' ((b, W.listOf ws.toArray 0) :: tl) → IntsAre ws (ns ++ [num]) → (∀ p ∈ (L, default) :: tl, p.1 < b) → Q (.ref b) { s with heap := h', toks := tk }) :
    wpAny (model PySem.Challenge.rw_rh0155_01.row.prog w) { handled := hdl, depth := 900, frames := fr, guards := gd, units := 9000 } (call (.ref f) [hv, .ref a]) Q E s := by
  refine wpAny_call ?_
  walk_at "MyEnterL"
  dsimp only [ansBody, ansScope, ansQual]
  try k_fold
  k_steps
  walk_at "MyLeave"
  intro F' N'
  have l1 := ‹∀ p ∈ (_, W.listOf _ _) :: (L, _) :: tl, p.1 < _›
  refine k _ _ _ _ F' (News.sub N' fun q hq => ?_) (by assumption) fun q hq => ?_
  · rcases List.mem_cons.mp hq with rfl | hq
    · exact .head _
    · exact .tail _ (.tail _ hq)
  · rcases List.mem_cons.mp hq with rfl | hq
    · exact lt_mem l1 (.tail _ (.head _))
    · exact l1 _ (.tail _ (.tail _ hq))

theorem reply {w : World} {A : Around} {E : Value → Shared → Prop} {s : Shared} {h₀ : Heap} {L : Addr} {m : Str → Option Value} {p : Program} {loose : List Str} {mean : ExcName → Option Value} {mg mb : Str → Option Value}
    {f cl c' a : Addr} {oc occ : Obj} {pm ctv hv : Value} {num : Int} {tk0 : Tok} {vsc : Array Value} {tc : Tok} {vs : List Value} {ns : List Int} {n : Nat} {tl : List (Addr × Obj)} {Q : Value → Shared → Prop}
    (X : (hd.heap_39 w.params).In h₀) (T : Top p loose mean mg mb h₀) (hdp : A.depth ≤ 900) (hun : A.units ≤ 9000) (F : Fr h₀ L s.heap m) (N : News h₀ L s.heap tl)
    (hf : (f, ansFn cl pm c' ctv) ∈ tl) (hcl : (cl, oc) ∈ tl) (hoc : oc.data = .cell (some (.int num tk0))) (hcc : (c', occ) ∈ tl) (hcd : occ.data = .fields vsc) (hcv : vsc[1]? = some (.str ansQual tc))
    (ha : (a, W.listOf vs.toArray n) ∈ tl) (hI : IntsAre vs ns) (hlen : ns.length ≤ 64)
    (k : ∀ b ws h' tk, Fr h₀ L h' m → News h₀ L h' ((b, W.listOf ws.toArray 0) :: tl) → IntsAre ws (ns ++ [num]) → (∀ p ∈ (L, default) :: tl, p.1 < b) → Q (.ref b) { s with heap := h', toks := tk }) :
    wpAny (model PySem.Challenge.rw_rh0155_01.row.prog w) A (call (.ref f) [hv, .ref a]) Q E s := by
  obtain ⟨hdl, dp, fr, gd, un⟩ := A
  simp only at hdp hun
  exact wpAny_room (d := 900) (u := 9000) (reply0 X T F N hf hcl hoc hcc hcd hcv ha hI hlen k) hdp hun
end
/-! part c4_handled -/
section
theorem freshC4 : True := by
  w_top off
  trivial
local macro_rules | `(tactic| walk_at "call ref") => `(tactic| (k_here; k_dflt (refine' reply (by k_asm) (by k_asm) (by exact Nat.le_of_ble_eq_true rfl) (by exact Nat.le_of_ble_eq_true rfl) (by k_asm) (by k_asm) (by k_mem) (by k_mem) (by k_asm) (by k_mem) (by k_asm) (by k_asm) (by k_mem) (by k_asm) (by k_asm) ?_; k_whole); intro b' ws' h' tk' F' N' I' l'))

theorem handled0 {w : World} {e0 dx0 t0 : Addr} {tb0 : Value} {fr : Option (List Env)} {gd : Option (List Code)} {E : Value → Shared → Prop} {s : Shared} {h₀ : Heap} {L : Addr} {m : Str → Option Value} {p : Program} {loose : List Str} {mean : ExcName → Option Value} {mg mb : Str → Option Value}
    {ah ahd a tup f cl c' : Addr} {oc occ : Obj} {pm ctv ans : Value} {num hn : Int} {κ : HK} {t9 tk0 tcc thn : Tok} {vsc : Array Value} {tc : Tok} {vs : List Value} {ns : List Int} {n : Nat} {tl : List (Addr × Obj)} {Q : Value → Shared → Prop}
    (X : (hd.heap_39 w.params).In h₀) (T : Top p loose mean mg mb h₀) (F : Fr h₀ L s.heap m) (N : News h₀ L s.heap ((ah, instObj 72 ahd) :: (ahd, hdict κ ans (.int 0 tcc) (.int hn thn)) :: tl)) (hne : ah ≠ ahd) (htl : ∀ q ∈ tl, q.1 ≠ ahd)
    (htup : (tup, ({ cls := .type "tuple", data := .seq #[.ref f, .int 9 t9] } : Obj)) ∈ tl)
    (hf : (f, ansFn cl pm c' ctv) ∈ tl) (hcl : (cl, oc) ∈ tl) (hoc : oc.data = .cell (some (.int num tk0))) (hcc : (c', occ) ∈ tl) (hcd : occ.data = .fields vsc) (hcv : vsc[1]? = some (.str ansQual tc))
    (ha : (a, W.listOf vs.toArray n) ∈ tl) (hI : IntsAre vs ns) (hlen : ns.length ≤ 64) (hE : (e0, excObj dx0 t0 tb0) ∈ tl)
    (k : ∀ e dx t b ws tr h' tk tcc' thn' h1 h2 h3 k1 k2 k3, Fr h₀ L h' m → News h₀ L h' ((e, excObj dx t .none) :: (dx, errDict h1 h2 h3 k1 k2 k3 (.ref b) tr) :: (b, W.listOf ws.toArray 0) :: (ah, instObj 72 ahd) :: (ahd, hdict κ ans (.int 0 tcc') (.int (hn + 1) thn')) :: tl) →
      IntsAre ws (ns ++ [num]) → (∀ p ∈ (L, default) :: (ah, default) :: (ahd, default) :: tl, p.1 < b) → b ≠ e → b ≠ dx → (∀ p ∈ (L, default) :: (ah, default) :: (ahd, default) :: tl, p.1 ≠ e) → (∀ p ∈ (L, default) :: (ah, default) :: (ahd, default) :: tl, p.1 ≠ dx) → e < dx → Q (.ref e) { s with heap := h', toks := tk }) :
    wpAny (model PySem.Challenge.rw_rh0155_01.row.prog w) { handled := some (.ref e0), depth := 390, frames := fr, guards := gd, units := 3900 } (call (.ref 48) [.ref ah, .ref tup, .ref a]) Q E s := by
  refine wpAny_call ?_
  walk_at "MyEnter"
  try k_fold
  k_steps
  refine wpAny_Try_except ?_
  k_steps
  rename_i le1 _ _ _ _ _ _ _ _ _ _ _ _ _ _ ne1 nd1 lt1
  walk_at "MyLeave"
  intro F' N'
  simp only [List.mem_cons, forall_eq_or_imp] at le1 ne1 nd1
  refine k _ _ _ _ _ _ _ _ _ _ _ _ _ _ _ _ F' N' (by assumption) ?_ ne1.2.1 nd1.2.1 ?_ ?_ lt1
  · simp only [List.mem_cons, forall_eq_or_imp]; exact le1.2
  · simp only [List.mem_cons, forall_eq_or_imp]; exact ne1.2.2
  · simp only [List.mem_cons, forall_eq_or_imp]; exact nd1.2.2

theorem handled {w : World} {e0 dx0 t0 : Addr} {tb0 : Value} {A : Around} {E : Value → Shared → Prop} {s : Shared} {h₀ : Heap} {L : Addr} {m : Str → Option Value} {p : Program} {loose : List Str} {mean : ExcName → Option Value} {mg mb : Str → Option Value}
    {ah ahd a tup f cl c' : Addr} {oc occ : Obj} {pm ctv ans : Value} {num hn : Int} {κ : HK} {t9 tk0 tcc thn : Tok} {vsc : Array Value} {tc : Tok} {vs : List Value} {ns : List Int} {n : Nat} {tl : List (Addr × Obj)} {Q : Value → Shared → Prop}
    (hdp : A.depth ≤ 390) (hun : A.units ≤ 3900) (hh : A.handled = some (.ref e0)) (X : (hd.heap_39 w.params).In h₀) (T : Top p loose mean mg mb h₀) (F : Fr h₀ L s.heap m) (N : News h₀ L s.heap ((ah, instObj 72 ahd) :: (ahd, hdict κ ans (.int 0 tcc) (.int hn thn)) :: tl)) (hne : ah ≠ ahd) (htl : ∀ q ∈ tl, q.1 ≠ ahd)
    (htup : (tup, ({ cls := .type "tuple", data := .seq #[.ref f, .int 9 t9] } : Obj)) ∈ tl)
    (hf : (f, ansFn cl pm c' ctv) ∈ tl) (hcl : (cl, oc) ∈ tl) (hoc : oc.data = .cell (some (.int num tk0))) (hcc : (c', occ) ∈ tl) (hcd : occ.data = .fields vsc) (hcv : vsc[1]? = some (.str ansQual tc))
    (ha : (a, W.listOf vs.toArray n) ∈ tl) (hI : IntsAre vs ns) (hlen : ns.length ≤ 64) (hE : (e0, excObj dx0 t0 tb0) ∈ tl)
    (k : ∀ e dx t b ws tr h' tk tcc' thn' h1 h2 h3 k1 k2 k3, Fr h₀ L h' m → News h₀ L h' ((e, excObj dx t .none) :: (dx, errDict h1 h2 h3 k1 k2 k3 (.ref b) tr) :: (b, W.listOf ws.toArray 0) :: (ah, instObj 72 ahd) :: (ahd, hdict κ ans (.int 0 tcc') (.int (hn + 1) thn')) :: tl) →
      IntsAre ws (ns ++ [num]) → (∀ p ∈ (L, default) :: (ah, default) :: (ahd, default) :: tl, p.1 < b) → b ≠ e → b ≠ dx → (∀ p ∈ (L, default) :: (ah, default) :: (ahd, default) :: tl, p.1 ≠ e) → (∀ p ∈ (L, default) :: (ah, default) :: (ahd, default) :: tl, p.1 ≠ dx) → e < dx → Q (.ref e) { s with heap := h', toks := tk }) :
    wpAny (model PySem.Challenge.rw_rh0155_01.row.prog w) A (call (.ref 48) [.ref ah, .ref tup, .ref a]) Q E s := by
  obtain ⟨hdl, dp, fr, gd, un⟩ := A
  simp only at hdp hun hh
  subst hh
  exact wpAny_room (d := 390) (u := 3900) (handled0 X T F N hne htl htup hf hcl hoc hcc hcd hcv ha hI hlen hE k) hdp hun
end
/-! part c5_inner -/
section
theorem freshC5 : True := by
  w_top off
  trivial
local macro_rules | `(tactic| walk_at "MyPad") => `(tactic| skip)
local macro_rules | `(tactic| walk_at "compareOp Eq ref ref") => `(tactic| (k_here; (with_reducible show wpAny _ _ (compareOp CmpOp.Eq (Value.ref _) _) _ _ _); k_dflt (refine' eq_same (by k_asm) (by k_mem) (Nat.lt_of_le_of_lt (m := 9000) (by simp only [units_deeper]; omega) (by decide)) ?_; k_whole)))
theorem inner {w : World} {h₀ : Heap} {c : Ad} {plans : List Value} {np : Nat} {r : Bool} {ps : List (Int × Bool)} {i : Nat} (B : Base w h₀ c plans) (hD : DoneC w h₀ c plans np r ps (i + 1))
    (A : Around) (E : Value → Shared → Prop) (s : Shared) (L : Addr) (m : Str → Option Value) (near : Option Int) (σ : St) (rest frs : List (Addr × Obj)) (l : List Env) (envL : Env) (t0 : Tok) (Q : Value → Shared → Prop)
    (hh : A.handled = none) (hdp : A.depth + 8 * ps.length + 1 ≤ 380) (hun : A.units + 60 * ps.length + 20 ≤ 3000) (htl0 : σ.told.length ≤ 100) (C : Callr A L l envL frs) (P : Pre w h₀ c plans np r L m σ rest frs s.heap near ps (i + 1))
    (O : Outc w h₀ c plans np r L m σ.cur σ.told rest frs (run r ps near ((i + 1 : Nat) : Int)) s Q E) :
    wpAny (model PySem.Challenge.rw_rh0155_01.row.prog w) A (call (.ref 104) [.ref c.aw, .int i t0, σ.cur]) Q E s := by
  obtain ⟨F, N, inv, hnear, hplans, hcore, hoff⟩ := P
  obtain ⟨X, ⟨p, loose, mean, mg, mb, T⟩, C1, C2, nd, len5⟩ := B
  obtain ⟨aw, ah, ahd, ap, atd⟩ := c
  obtain ⟨κ, cur, tcc, thn, hn, ow, told, nt, tA, tD⟩ := σ
  obtain ⟨hdl, dp, fr, gd, un⟩ := A
  simp only at hh hdp hun
  subst hh
  have hcu : (⟨κ, cur, tcc, thn, hn, ow, told, nt, tA, tD⟩ : St).cur = cur := rfl
  rw [hcu]
  have hW := inv.ow
  simp only at hW
  simp only [adrs, List.nodup_cons, List.mem_cons, not_or, List.not_mem_nil, not_false_eq_true, List.nodup_nil, and_true] at nd
  obtain ⟨⟨n1, n2, n3, n4, n5, n6⟩, ⟨n7, n8, n9, n10, n11⟩, ⟨n12, n13, n14, n15⟩, ⟨n16, n17, n18⟩, ⟨n19, n20⟩, n21⟩ := nd
  generalize htl : rest ++ frs = tl at N hcore
  have t1 : ∀ q ∈ tl, q.1 ≠ aw := fun q hq e => hcore q hq (by simp [e])
  have t2 : ∀ q ∈ tl, q.1 ≠ ah := fun q hq e => hcore q hq (by simp [e])
  have t3 : ∀ q ∈ tl, q.1 ≠ ahd := fun q hq e => hcore q hq (by simp [e])
  have t4 : ∀ q ∈ tl, q.1 ≠ ap := fun q hq e => hcore q hq (by simp [e])
  have t5 : ∀ q ∈ tl, q.1 ≠ atd := fun q hq e => hcore q hq (by simp [e])
  have t6 : ∀ q ∈ tl, q.1 ≠ 85 := fun q hq e => hcore q hq (by simp [e])
  have t7 : ∀ q ∈ tl, q.1 ≠ 92 := fun q hq e => hcore q hq (by simp [e])
  simp only [coreOf, List.cons_append, List.nil_append] at N
  have hfr := C.fr
  simp only at hfr
  subst hfr
  refine wpAny_call ?_
  walk_at "MyEnter"
  rename_i L1 h1 oL CC F1 N1 l1 nL lL
  have Y := lone_of (c := ⟨aw, ah, ahd, ap, atd⟩) (plans := plans) (np := np) (σ := ⟨κ, cur, tcc, thn, hn, ow, told, nt, tA, tD⟩) (rest := rest) (frs := frs) (L := L) (htl ▸ nL)
  try k_fold
  cases near with
  | none =>
    have hc : cur = .none := hnear
    subst hc
    k_steps
    subst htl
    obtain ⟨o2, hN2, hW2⟩ : ∃ o2, News h₀ L1 _ ((L, oL) :: (aw, o2) :: _) ∧ o2.IsDictOf (PySem.strKind PR w) (worldKV ⟨aw, ah, ahd, ap, atd⟩ r) := ⟨_, by assumption, by assumption⟩
    refine hD _ _ _ L1 _ none ⟨κ, .none, tcc, thn, hn, o2, told, nt, tA, tD⟩ rest ((L, oL) :: frs) (envL :: l) _ _ _ rfl (by show dp + 1 + _ ≤ _; omega) (by show un + 3 + _ ≤ _; omega) htl0 ⟨rfl, rfl, (by intro q; cases q), C.kind, C.L, CC.dict, C.frs⟩
      ⟨by assumption, News.sub hN2 resort, ⟨hW2, inv.tA, inv.tD⟩, rfl, hplans, Y.coffr hcore, Y.roff hoff⟩ ⟨fun hn h' tk σ' more frs' AF => ?_, fun ns hns h' tk σ' more frs' e dx t AF ER => ?_⟩
    · obtain ⟨frs2, AF2⟩ := AF.back CC Y
      k_steps
      exact O.ok hn _ _ _ _ _ AF2
    · refine leaveErr O AF CC Y ⟨rfl, rfl, (by intro q; cases q), C.kind, C.L, CC.dict, C.frs⟩ (Y.coff hcore) (Y.roff hoff) hns ER rfl
  | some k =>
    obtain ⟨tup, f, cl, c', oc, occ, pm, ctv, t9, tk0, hc, z1, z2, z3, z4, z5, z6⟩ := hnear
    simp only at hc
    subst hc
    have y1 : (tup, _) ∈ tl := htl ▸ List.mem_append_left frs z1
    k_steps
    subst htl
    obtain ⟨o2, hN2, hW2⟩ : ∃ o2, News h₀ L1 _ ((L, oL) :: (aw, o2) :: _) ∧ o2.IsDictOf (PySem.strKind PR w) (worldKV ⟨aw, ah, ahd, ap, atd⟩ r) := ⟨_, by assumption, by assumption⟩
    refine hD _ _ _ L1 _ (some k) ⟨κ, .ref tup, tcc, thn, hn, o2, told, nt, tA, tD⟩ rest ((L, oL) :: frs) (envL :: l) _ _ _ rfl (by show dp + 1 + _ ≤ _; omega) (by show un + 3 + _ ≤ _; omega) htl0 ⟨rfl, rfl, (by intro q; cases q), C.kind, C.L, CC.dict, C.frs⟩
      ⟨by assumption, News.sub hN2 resort, ⟨hW2, inv.tA, inv.tD⟩, ⟨tup, f, cl, c', oc, occ, pm, ctv, t9, tk0, rfl, z1, z2, z3, z4, z5, z6⟩, hplans, Y.coffr hcore, Y.roff hoff⟩ ⟨fun hn h' tk σ' more frs' AF => ?_, fun ns hns h' tk σ' more frs' e dx t AF ER => ?_⟩
    · obtain ⟨frs2, AF2⟩ := AF.back CC Y
      k_steps
      exact O.ok hn _ _ _ _ _ AF2
    · refine leaveErr O AF CC Y ⟨rfl, rfl, (by intro q; cases q), C.kind, C.L, CC.dict, C.frs⟩ (Y.coff hcore) (Y.roff hoff) hns ER rfl
end
/-! part c6_work -/
section
theorem freshC6 : True := by
  w_top off
  trivial
abbrev workParams : Arguments := { posonlyargs := [], args := [], vararg := none, kwonlyargs := [], kw_defaults := [], kwarg := none, defaults := [] }
abbrev workBody : PySem.Expr :=
  ((Expr.Name (Str.ofString "_law_inner") { line := 61, col := 45, endLine := 61, endCol := 55 }).Call
    [Expr.Name (Str.ofString "world") { line := 61, col := 56, endLine := 61, endCol := 61 }, Expr.Name (Str.ofString "at") { line := 61, col := 63, endLine := 61, endCol := 65 },
      Expr.Name (Str.ofString "handling") { line := 61, col := 67, endLine := 61, endCol := 75 }]
    [] { line := 61, col := 45, endLine := 61, endCol := 76 })
abbrev workScope : Scope :=
  { kind := ScopeKind.function, names := [(Str.ofString "at", NameKind.free), (Str.ofString "handling", NameKind.free), (Str.ofString "world", NameKind.free), (Str.ofString "_law_inner", NameKind.globalImplicit)], isGenerator := false, isCoroutine := false }
abbrev workFn (ca ch cw : Addr) (pm : Value) (c' : Addr) (ctv : Value) : Obj := kla_obj (Str.ofString "<lambda>") workQual workParams workBody workScope [(Str.ofString "world", cw), (Str.ofString "handling", ch), (Str.ofString "at", ca)] pm c' ctv

/-- what work is: the lambda, with its cells -/
def WorkAt (rest : List (Addr × Obj)) (c : Ad) (i : Nat) (cur : Value) (fw : Addr) : Prop :=
  ∃ ca ch cw c' pm ctv oa oh ow occ t0, (fw, workFn ca ch cw pm c' ctv) ∈ rest ∧ (ca, oa) ∈ rest ∧ oa.data = .cell (some (.int i t0)) ∧ (ch, oh) ∈ rest ∧ oh.data = .cell (some cur) ∧
    (cw, ow) ∈ rest ∧ ow.data = .cell (some (.ref c.aw)) ∧ (c', occ) ∈ rest ∧ CodeIs workQual occ

theorem work {w : World} {h₀ : Heap} {c : Ad} {plans : List Value} {np : Nat} {r : Bool} {ps : List (Int × Bool)} {i : Nat} (B : Base w h₀ c plans) (hD : DoneC w h₀ c plans np r ps (i + 1))
    (A : Around) (E : Value → Shared → Prop) (s : Shared) (L : Addr) (m : Str → Option Value) (near : Option Int) (σ : St) (rest frs : List (Addr × Obj)) (l : List Env) (envL : Env) (fw : Addr) (Q : Value → Shared → Prop)
    (hh : A.handled = none) (hdp : A.depth + 8 * ps.length + 2 ≤ 380) (hun : A.units + 60 * ps.length + 40 ≤ 3000) (htl0 : σ.told.length ≤ 100) (C : Callr A L l envL frs) (P : Pre w h₀ c plans np r L m σ rest frs s.heap near ps (i + 1))
    (W : WorkAt rest c i σ.cur fw) (O : Outc w h₀ c plans np r L m σ.cur σ.told rest frs (run r ps near ((i + 1 : Nat) : Int)) s Q E) :
    wpAny (model PySem.Challenge.rw_rh0155_01.row.prog w) A (call (.ref fw) []) Q E s := by
  obtain ⟨ca, ch, cw, c', pm, ctv, oa, oh, ow', occ, t0, w1, w2, w3, w4, w5, w6, w7, w8, vsc, tc, w9, w10⟩ := W
  have B0 := B
  obtain ⟨F, N, inv, hnear, hplans, hcore, hoff⟩ := P
  obtain ⟨X, ⟨p, loose, mean, mg, mb, T⟩, C1, C2, nd, len5⟩ := B
  obtain ⟨hdl, dp, fr, gd, un⟩ := A
  simp only at hh hdp hun
  subst hh
  have hfr := C.fr
  simp only at hfr
  subst hfr
  have up : ∀ p ∈ rest, p ∈ coreOf c plans np σ ++ (rest ++ frs) := fun p hp => List.mem_append_right _ (List.mem_append_left _ hp)
  have y1 := up _ w1
  have y2 := up _ w2
  have y4 := up _ w4
  have y6 := up _ w6
  have y8 := up _ w8
  generalize htl : coreOf c plans np σ ++ (rest ++ frs) = tl at N y1 y2 y4 y6 y8
  refine wpAny_call ?_
  walk_at "MyEnterL"
  rename_i L1 h1 oL CC F1 N1 l1 nL lL
  have Y := lone_of (c := c) (plans := plans) (np := np) (σ := σ) (rest := rest) (frs := frs) (L := L) (htl ▸ nL)
  dsimp only [workBody, workScope, workQual]
  try k_fold
  k_steps
  subst htl
  refine inner B0 hD _ _ _ L1 _ near σ rest ((L, oL) :: frs) (envL :: l) _ t0 _ rfl (by show dp + 1 + _ + _ ≤ _; omega) (by show un + 3 + _ + _ ≤ _; omega) htl0 ⟨rfl, rfl, (by intro q; cases q), C.kind, C.L, CC.dict, C.frs⟩
    ⟨by assumption, News.sub (by assumption) resort, inv, hnear, hplans, Y.coffr hcore, Y.roff hoff⟩ ⟨fun hn h' tk σ' more frs' AF => ?_, fun ns hns h' tk σ' more frs' e dx t AF ER => ?_⟩
  · obtain ⟨frs2, AF2⟩ := AF.back CC Y
    exact O.ok hn _ _ _ _ _ AF2
  · exact leaveErr O AF CC Y ⟨rfl, rfl, (by intro q; cases q), C.kind, C.L, CC.dict, C.frs⟩ (Y.coff hcore) (Y.roff hoff) hns ER rfl
end
/-! part c6b_perm -/
section
theorem freshC6B : True := by
  w_top off
  trivial
/-! a ledger's order, changed: proved once, used often -/
theorem permA {core rest frs : List (Addr × Obj)} {t c1 c2 c3 x : Addr × Obj} : ∀ p ∈ c1 :: (core ++ (([c2, c3] ++ rest) ++ (x :: frs))), p ∈ t :: c1 :: c2 :: c3 :: x :: (core ++ (rest ++ frs)) := fun p hp => by
  simp only [List.mem_append, List.mem_cons, List.not_mem_nil, or_false] at hp ⊢
  rcases hp with h | h | ((h | h) | h) | h | h <;> simp [h]
theorem permB {core m M1 rest F : List (Addr × Obj)} {c1 : Addr × Obj} : ∀ p ∈ c1 :: (core ++ (((m ++ M1) ++ rest) ++ F)), p ∈ m ++ (c1 :: (core ++ ((M1 ++ rest) ++ F))) := fun p hp => by
  simp only [List.mem_append, List.mem_cons] at hp ⊢
  rcases hp with h | h | ((h | h) | h) | h <;> simp [h]
theorem permC {core m rest F : List (Addr × Obj)} {d l x : Addr × Obj} : ∀ p ∈ d :: (core ++ (((x :: m) ++ rest) ++ F)), p ∈ l :: x :: (core ++ (d :: ((m ++ rest) ++ F))) := fun p hp => by
  simp only [List.mem_append, List.mem_cons] at hp ⊢
  rcases hp with h | h | ((h | h) | h) | h <;> simp [h]
theorem permH {core m M3 rest F : List (Addr × Obj)} {d : Addr × Obj} : ∀ p ∈ core ++ (d :: (((m ++ M3) ++ rest) ++ F)), p ∈ d :: (m ++ (core ++ ((M3 ++ rest) ++ F))) := fun p hp => by
  simp only [List.mem_append, List.mem_cons] at hp ⊢
  rcases hp with h | h | ((h | h) | h) | h <;> simp [h]
theorem permS {tl : List (Addr × Obj)} {e a b c : Addr × Obj} : ∀ p ∈ b :: c :: e :: a :: tl, p ∈ e :: a :: b :: c :: tl := fun p hp => by
  simp only [List.mem_cons] at hp ⊢
  rcases hp with h | h | h | h | h <;> simp [h]
theorem permK {more rest frs c4 : List (Addr × Obj)} {aw ah ahd e1 e2 e3 e4 : Addr × Obj} : ∀ p ∈ (aw :: ah :: ahd :: c4) ++ ((((e1 :: e2 :: e3 :: e4 :: more) ++ rest)) ++ frs), p ∈ e1 :: e2 :: e3 :: ah :: ahd :: e4 :: aw :: (c4 ++ ((more ++ rest) ++ frs)) := fun p hp => by
  simp only [List.mem_append, List.mem_cons] at hp ⊢
  rcases hp with (h | h | h | h) | ((((h | h | h | h | h) | h)) | h) <;> simp [h]
end
/-! part c7_gw -/
section
theorem freshC7 : True := by
  w_top off
  trivial
def FV (led : List (Addr × Obj)) (fd : Option (List Int)) (v : Value) : Prop :=
  match fd with
  | none => v = .none
  | some ns => ∃ e dx t tb h1 h2 h3 k1 k2 k3 vv tr, v = .ref e ∧ (e, excObj dx t tb) ∈ led ∧ (dx, errDict h1 h2 h3 k1 k2 k3 vv tr) ∈ led ∧ OV led (some ns) vv

theorem gw {w : World} {h₀ : Heap} {c : Ad} {plans : List Value} {np : Nat} {r : Bool} {ps : List (Int × Bool)} {i : Nat} (B : Base w h₀ c plans) (hD : DoneC w h₀ c plans np r ps (i + 1))
    (A : Around) (E : Value → Shared → Prop) (s : Shared) (L : Addr) (m : Str → Option Value) (near num : Option Int) (σ : St) (rest frs : List (Addr × Obj)) (l : List Env) (envL : Env) (fw : Addr) (hv : Value) (Q : Value → Shared → Prop)
    (hh : A.handled = none) (hdp : A.depth + 8 * ps.length + 3 ≤ 380) (hun : A.units + 60 * ps.length + 50 ≤ 3000) (htl0 : σ.told.length ≤ 100) (C : Callr A L l envL frs) (P : Pre w h₀ c plans np r L m σ rest frs s.heap near ps (i + 1))
    (W : WorkAt rest c i hv fw) (hnum : NearV rest hv num)
    (k : ∀ v h' tk σ' more frs', After w h₀ c plans np r L m σ.cur σ.told rest frs (run r ps num ((i + 1 : Nat) : Int)).1 h' σ' more frs' → FV (more ++ rest) (ansd (run r ps num ((i + 1 : Nat) : Int)).2 num) v → Q v { s with heap := h', toks := tk }) :
    wpAny (model PySem.Challenge.rw_rh0155_01.row.prog w) A (call (.ref 55) [.ref c.ah, .ref fw, hv]) Q E s := by
  have B0 := B
  have W0 := W
  obtain ⟨ca, ch, cw, c', pm, ctv, oa, oh, ow', occ, t0, w1, w2, w3, w4, w5, w6, w7, w8, vsc, tc, w9, w10⟩ := W
  obtain ⟨F, N, inv, hnear, hplans, hcore, hoff⟩ := P
  obtain ⟨X, ⟨p, loose, mean, mg, mb, T⟩, C1, C2, nd, len5⟩ := B
  obtain ⟨aw, ah, ahd, ap, atd⟩ := c
  obtain ⟨κ, cur, tcc, thn, hn, ow, told, nt, tA, tD⟩ := σ
  obtain ⟨hdl, dp, fr, gd, un⟩ := A
  simp only at hh hdp hun
  subst hh
  have hfr := C.fr
  simp only at hfr
  subst hfr
  have hW := inv.ow
  simp only at hW
  simp only [adrs, List.nodup_cons, List.mem_cons, not_or, List.not_mem_nil, not_false_eq_true, List.nodup_nil, and_true] at nd
  obtain ⟨⟨n1, n2, n3, n4, n5, n6⟩, ⟨n7, n8, n9, n10, n11⟩, ⟨n12, n13, n14, n15⟩, ⟨n16, n17, n18⟩, ⟨n19, n20⟩, n21⟩ := nd
  have y1 : (fw, _) ∈ rest ++ frs := List.mem_append_left _ w1
  generalize htl : rest ++ frs = tl at N hcore y1
  obtain ⟨t1, t2, t3, t4, t5, t6, t7⟩ := seven hcore
  simp only [coreOf, List.cons_append, List.nil_append] at N
  have hcur1 : handedIn cur = true := by
    cases near with
    | none => rw [show cur = .none from hnear]; rfl
    | some k => obtain ⟨tup, _, _, _, _, _, _, _, _, _, e, _⟩ := hnear; rw [show cur = .ref tup from e]; rfl
  have hhv1 : handedIn hv = true := by
    cases num with
    | none => rw [show hv = .none from hnum]; rfl
    | some k => obtain ⟨tup, _, _, _, _, _, _, _, _, _, e, _⟩ := hnum; rw [show hv = .ref tup from e]; rfl
  show wpAny _ _ (call (.ref 55) [.ref ah, .ref fw, hv]) Q E s
  refine wpAny_call ?_
  walk_at "MyEnter"
  rename_i L1 h1 oL CC F1 N1 l1 nL lL
  have Y := lone_of (c := ⟨aw, ah, ahd, ap, atd⟩) (plans := plans) (np := np) (σ := ⟨κ, cur, tcc, thn, hn, ow, told, nt, tA, tD⟩) (rest := rest) (frs := frs) (L := L) (htl ▸ nL)
  try k_fold
  k_steps
  show wpAny _ _ (call (.ref fw) []) _ _ _
  subst htl
  refine work B0 hD _ _ _ L1 _ num ⟨κ, hv, tcc, thn, hn, ow, told, nt, tA, tD⟩ rest ((L, oL) :: frs) (envL :: l) _ fw _ rfl (by show dp + 1 + _ + _ ≤ _; omega) (by show un + 3 + _ + _ ≤ _; omega) htl0 ⟨rfl, rfl, (by intro q; cases q), C.kind, C.L, CC.dict, C.frs⟩
    ⟨by assumption, News.sub (by assumption) resort1, ⟨inv.ow, inv.tA, inv.tD⟩, hnum, hplans, Y.coffr hcore, Y.roff hoff⟩ W0 ⟨fun hn h' tk σ' more frs1 AF => ?_, fun ns hns h' tk σ' more frs1 e dx t AF ER => ?_⟩
  · obtain ⟨κ', cur', tcc', thn', hn', ow2, told', nt', tA', tD'⟩ := σ'
    have N2 := AF.N
    have F2 := AF.F
    have hco2 := AF.core_off (Y.coffr hcore)
    have hcu2 : cur' = hv := AF.cur
    subst hcu2
    have su1 := AF.su
    generalize htl2 : (more ++ rest) ++ frs1 = tl2 at N2 hco2
    obtain ⟨u1, u2, u3, u4, u5, u6, u7⟩ := seven hco2
    simp only [coreOf, List.cons_append, List.nil_append] at N2
    k_steps
    subst htl2
    obtain ⟨frs2, AF2⟩ := After.back (w := w) (plans := plans) (np := np) (r := r) (σ' := ⟨κ', cur, tcc', thn', hn', ow2, told', nt', tA', tD'⟩) (cur := cur) ⟨AF.su, by assumption, by assumption, ⟨AF.inv.ow, AF.inv.tA, AF.inv.tD⟩, rfl, AF.told, AF.off⟩ CC Y
    refine k _ _ _ _ _ _ AF2 ?_
    rw [hn, ansd_none]
    rfl
  · have hco2 := AF.core_off (Y.coffr hcore)
    have su1 := AF.su
    obtain ⟨h1, h2, h3, k1, k2, k3, vv, tr, hdx, hvv⟩ := ER.val
    have hoe := ER.off AF
    have hvv0 := hvv
    obtain ⟨b, ws, nb, hb, hbm, hbI⟩ := hvv
    subst hb
    refine caughtF (l := envL :: l) (new := coreOf ⟨aw, ah, ahd, ap, atd⟩ plans np σ' ++ (more ++ rest)) (frs := frs1) (KF := hd.heap_39 w.params) rfl (Frs.up (a := (L, oL) :: frs) ⟨C.kind, C.L, CC.dict, C.frs⟩ AF.su) AF.F (News.sub AF.N fun p hp => regroup hp) ER.up ER.hen (AF.hap (Y.coff hcore) (Y.roff hoff) ER.ne) X (topRead_of T) (by k_is) (by first | rfl | decide +kernel) fun h4 frs2 tb tk4 SU F4 N4 => ?_
    obtain ⟨κ', cur', tcc', thn', hn', ow2, told', nt', tA', tD'⟩ := σ'
    have hcu2 : cur' = hv := AF.cur
    subst hcu2
    rw [List.append_assoc] at N4
    have y2 : (dx, _) ∈ (more ++ rest) ++ frs2 := List.mem_append_left _ hdx
    have y3 : (b, _) ∈ (more ++ rest) ++ frs2 := List.mem_append_left _ hbm
    have hco3 : Off ((more ++ rest) ++ frs2) (adrs ⟨aw, ah, ahd, ap, atd⟩) := fun p hp => by
      rcases List.mem_append.mp hp with hp | hp
      · exact hco2 p (List.mem_append_left _ hp)
      · have h1 : p.1 ∈ adsOf frs1 := by rw [← sameAds SU]; exact List.mem_map_of_mem hp
        obtain ⟨q, hq, e1⟩ := List.mem_map.mp h1
        exact e1 ▸ hco2 q (List.mem_append_right _ hq)
    generalize htl2 : (more ++ rest) ++ frs2 = tl2 at N4 y2 y3 hco3
    obtain ⟨u1, u2, u3, u4, u5, u6, u7⟩ := seven hco3
    simp only [coreOf, List.cons_append, List.nil_append] at N4
    have e1 : aw ≠ e := ER.ne (aw, _) (.head _)
    have e2 : ah ≠ e := ER.ne (ah, _) (.tail _ (.head _))
    have e3 : ahd ≠ e := ER.ne (ahd, _) (.tail _ (.tail _ (.head _)))
    cases num with
    | none =>
      have hc : cur' = .none := hnum
      subst hc
      k_steps
      dsimp only
      k_steps
      subst htl2
      have mono : ∀ p ∈ more ++ rest, p ∈ ((e, excObj dx t tb) :: more) ++ rest := fun p hp => .tail _ hp
      obtain ⟨frs3, AF2⟩ := After.back (w := w) (plans := plans) (np := np) (r := r) (σ' := ⟨κ', cur, tcc', thn', hn', ow2, told', nt', tA', tD'⟩) (cur := cur) (more := (e, excObj dx t tb) :: more) ⟨AF.su.trans SU, by assumption, News.sub (by assumption) put1, ⟨AF.inv.ow, AF.inv.tA.mono mono, AF.inv.tD.mono mono⟩, rfl, told_mono AF.told mono, off_cons hoe AF.off⟩ CC Y
      refine k _ _ _ _ _ _ AF2 ?_
      rw [hns]
      exact ⟨e, dx, t, tb, h1, h2, h3, k1, k2, k3, _, tr, rfl, .head _, mono _ hdx, hvv0.mono mono⟩
    | some k0 =>
      obtain ⟨tup, f, cl, c2, oc, occ2, pm2, ctv2, t9, tk0, hc, z1, z2, z3, z4, z5, z6⟩ := hnum
      have hc2 : cur' = .ref tup := hc
      subst hc2
      k_steps
      obtain ⟨vsc2, tc2, z7, z8⟩ := z6
      have lf : ∀ p ∈ rest, p ∈ tl2 := fun p hp => htl2 ▸ List.mem_append_left _ (List.mem_append_right _ hp)
      have hlen := run_len hns
      have hps : ps.length ≤ 5 := by
        have := hplans.len
        rw [List.length_drop] at this
        omega
      replace z1 := lf _ z1
      replace z2 := lf _ z2
      replace z3 := lf _ z3
      replace z5 := lf _ z5
      refine handled (e0 := e) (κ := κ') (ans := .ref tup) (hn := hn') (tcc := tcc') (thn := thn') (tl := (e, excObj dx t tb) :: (aw, ow2) :: (ap, W.listOf plans.toArray np) :: (atd, W.listOf told'.toArray nt') :: (85, tabObj tA') :: (92, tabObj tD') :: tl2) (by show dp + 1 ≤ _; omega) (by show un + 3 ≤ _; omega) rfl X T (by assumption)
        (News.sub ‹News h₀ L1 _ ((e, _) :: _)› ?sb) n7 ?tl (by k_mem) (by k_mem) (by k_mem) z4 (by k_mem) z7 z8 (by k_mem) hbI (by omega) (.head _) ?kk
      case sb => exact permS
      case tl =>
        intro p hp
        simp only [List.mem_cons] at hp
        rcases hp with rfl | rfl | rfl | rfl | rfl | rfl | h
        · exact Ne.symm e3
        · exact n2
        · exact Ne.symm n12
        · exact Ne.symm n13
        · exact Ne.symm n14
        · exact Ne.symm n15
        · exact u3 p h
      case kk =>
        intro e' dx' t' b' ws' tr' h' tk' tcc2 thn2 a1 a2 a3 b1 b2 b3 F' N' I' g1 g2 g3 g4 g5 g6
        k_steps
        rename News h₀ L1 _ ((e', _) :: (dx', _) :: (b', _) :: (ah, _) :: (ahd, W.dictOf _ _) :: _) => N9
        subst htl2
        have mono : ∀ p ∈ more ++ rest, p ∈ ((e', excObj dx' t' .none) :: (dx', errDict a1 a2 a3 b1 b2 b3 (.ref b') tr') :: (b', W.listOf ws'.toArray 0) :: (e, excObj dx t tb) :: more) ++ rest := fun p hp => .tail _ (.tail _ (.tail _ (.tail _ hp)))
        have hz : ∀ x : Addr, (∀ p ∈ (L1, (default : Obj)) :: (ah, default) :: (ahd, default) :: (e, excObj dx t tb) :: (aw, ow2) :: (ap, W.listOf plans.toArray np) :: (atd, W.listOf told'.toArray nt') :: (85, tabObj tA') :: (92, tabObj tD') :: ((more ++ rest) ++ frs2), p.1 ≠ x) →
            x ∉ adrs ⟨aw, ah, ahd, ap, atd⟩ ++ adsOf ((L, oL) :: frs) := fun x h hx => by
          rcases List.mem_append.mp hx with hx | hx
          · simp only [adrs, List.mem_cons, List.not_mem_nil, or_false] at hx
            rcases hx with rfl | rfl | rfl | rfl | rfl | rfl | rfl
            · exact h (_, ow2) (.tail _ (.tail _ (.tail _ (.tail _ (.head _))))) rfl
            · exact h (_, default) (.tail _ (.head _)) rfl
            · exact h (_, default) (.tail _ (.tail _ (.head _))) rfl
            · exact h (_, W.listOf plans.toArray np) (.tail _ (.tail _ (.tail _ (.tail _ (.tail _ (.head _)))))) rfl
            · exact h (_, W.listOf told'.toArray nt') (.tail _ (.tail _ (.tail _ (.tail _ (.tail _ (.tail _ (.head _))))))) rfl
            · exact h (85, tabObj tA') (.tail _ (.tail _ (.tail _ (.tail _ (.tail _ (.tail _ (.tail _ (.head _)))))))) rfl
            · exact h (92, tabObj tD') (.tail _ (.tail _ (.tail _ (.tail _ (.tail _ (.tail _ (.tail _ (.tail _ (.head _))))))))) rfl
          · rw [← sameAds (AF.su.trans SU)] at hx
            obtain ⟨q, hq, q1⟩ := List.mem_map.mp hx
            exact h q (by simp [hq]) q1
        obtain ⟨frs3, AF2⟩ := After.back (w := w) (plans := plans) (np := np) (r := r) (σ' := ⟨κ', cur, tcc2, thn2, hn' + 1, ow2, told', nt', tA', tD'⟩) (cur := cur) (more := (e', excObj dx' t' .none) :: (dx', errDict a1 a2 a3 b1 b2 b3 (.ref b') tr') :: (b', W.listOf ws'.toArray 0) :: (e, excObj dx t tb) :: more)
          ⟨AF.su.trans SU, by assumption, News.sub N9 (permK (c4 := [(ap, W.listOf plans.toArray np), (atd, W.listOf told'.toArray nt'), (85, tabObj tA'), (92, tabObj tD')])), ⟨AF.inv.ow, AF.inv.tA.mono mono, AF.inv.tD.mono mono⟩, rfl, told_mono AF.told mono,
            off_cons (hz _ g4) (off_cons (hz _ g5) (off_cons (hz _ fun p hp => Nat.ne_of_lt (g1 p hp)) (off_cons hoe AF.off)))⟩ CC Y
        refine k _ _ _ _ _ _ AF2 ?_
        rw [hns]
        exact ⟨e', dx', t', .none, a1, a2, a3, b1, b2, b3, _, tr', rfl, .head _, .tail _ (.head _), b', ws', 0, rfl, .tail _ (.tail _ (.head _)), I'⟩
end
/-! part c8_lam -/
section
theorem freshC8 : True := by
  w_top off
  trivial
/-- making the lambda of _law_done -/
theorem evalWork {w : World} {A : Around} {E : Value → Shared → Prop} {s : Shared} {h₀ : Heap} {L a : Addr} {m : Str → Option Value} {p : Program} {loose : List Str} {mean : ExcName → Option Value} {mg mb : Str → Option Value}
    {tD : Array Value} {tl im : List (Addr × Obj)} {cs : Scope} {cl : List (Str × Addr)} {ca ch cw : Addr} {Q : Value → Shared → Prop}
    (T : Top p loose mean mg mb h₀) (CH : CodeHd h₀ 96 92) (F : Fr h₀ L s.heap m) (N : News h₀ L s.heap ((92, tabObj tD) :: tl)) (htl : ∀ q ∈ tl, q.1 ≠ 92) (him : ∀ p ∈ im, p ∈ tl) (hT : TabD tD im)
    (hcl : closureFor workScope (envX (Str.ofString "_law_done") cs L a (.ref 96) cl) = pure [(Str.ofString "world", cw), (Str.ofString "handling", ch), (Str.ofString "at", ca)])
    (k : ∀ fw c' occ pm ctv tD' more B h' tk, Fr h₀ L h' m → News h₀ L h' ((92, tabObj tD') :: (more ++ tl)) → TabD tD' (more ++ im) → (fw, workFn ca ch cw pm c' ctv) ∈ more ++ im → (c', occ) ∈ more ++ im → CodeIs workQual occ → (∀ p ∈ (92, tabObj tD) :: tl, p.1 < B) → (∀ p ∈ more, B ≤ p.1) →
      Q (.ref fw) { s with heap := h', toks := tk }) :
    wpAny (model PySem.Challenge.rw_rh0155_01.row.prog w) A (eval (PySem.Expr.Lambda workParams workBody workScope { line := 61, col := 37, endLine := 61, endCol := 76 }) (envX (Str.ofString "_law_done") cs L a (.ref 96) cl)) Q E s := by
  refine' kla_eval ?d0 ?_
  case d0 => exact rfl
  rcases hT with rfl | ⟨c, oc, rfl, hc, hcd⟩
  · refine' lamNew F N T CH rfl ?U ?t ?n hcl ?_
    case U => k_updF
    case t => kn_triples
    case n => kn_among
    intro fw c' oc h' tk ctv F' N' d1 l1 l2
    dsimp only at N'
    refine k _ _ _ _ _ _ [(fw, workFn ca ch cw ((mg "__name__").getD .none) c' ctv), (c', oc)] c' h' tk F' (News.sub N' ?_) (.inr ⟨c', oc, rfl, .tail _ (.head _), d1⟩) (.head _) (.tail _ (.head _)) d1 l1 ?_
    · intro q hq
      simp only [List.mem_append, List.mem_cons, List.not_mem_nil, or_false] at hq ⊢
      rcases hq with h | (h | h) | h <;> simp [h]
    · intro q hq
      simp only [List.mem_cons, List.not_mem_nil, or_false] at hq
      rcases hq with rfl | rfl
      · exact Nat.le_of_lt (l2 _ (.head _))
      · exact Nat.le_refl _
  · obtain ⟨vs, t, hd1, hd2⟩ := hcd
    have hc2 := him _ hc
    refine' kla_hit F N T CH rfl ?mem ?t ?n hcl ?_
    case mem => exact .head _
    case t => kn_triples
    case n => kn_hit
    intro fw ctv h' tk F' N' l1
    dsimp only at N'
    refine k _ _ _ _ _ _ [(fw, workFn ca ch cw ((mg "__name__").getD .none) c ctv)] fw h' tk F' (News.sub N' ?_) (.inr ⟨c, oc, rfl, .tail _ hc, vs, t, hd1, hd2⟩) (.head _) (.tail _ hc) ⟨vs, t, hd1, hd2⟩ l1 ?_
    · intro q hq
      simp only [List.mem_append, List.mem_cons, List.not_mem_nil, or_false] at hq ⊢
      rcases hq with h | h | h <;> simp [h]
    · intro q hq
      simp only [List.mem_cons, List.not_mem_nil, or_false] at hq
      rw [hq]; exact Nat.le_refl _
end
/-! part c8b_app -/
section
theorem freshC8B : True := by
  w_top off
  trivial
/-! told's length is small -/
def LenOk (l : List Value) : Prop := l.length ≤ 200
theorem appB {l : List Value} (h : LenOk l) : l.toArray.size ≤ sizeLine := by rw [sizeLine_eq]; exact Nat.le_trans (by simpa [LenOk] using h) (Nat.le_of_ble_eq_true (by with_unfolding_all rfl))
end
local macro_rules | `(tactic| walk_at "call builtin:list.append") => `(tactic| (k_here; (with_reducible show wpAny _ _ (call (Value.builtin _) [Value.ref _, _]) _ _ _); k_dflt (refine' append_K (by k_asm) (by k_asm) (by k_upd) ?_ (appB (by assumption)); k_whole); intro h' F' N'; (try simp only [List.push_toArray] at N')))
local macro_rules | `(tactic| walk_at "call builtin:len") => `(tactic| (k_here; (with_reducible show wpAny _ _ (call (Value.builtin "len") [Value.ref _]) _ _ _); k_dflt (refine' lenF (by k_asm) (by k_mem) (by assumption) ?_; k_whole)))
local macro_rules | `(tactic| walk_at "subscriptTail") => `(tactic| (k_here; (with_reducible show wpAny _ _ (subscriptTail _ _ (Value.ref _) (Value.int _ _)) _ _ _); k_dflt (refine' itemInt (by k_asm) (by k_mem) (by assumption) (by omega) (by omega) ?_; k_whole)))
local macro_rules | `(tactic| walk_at "exec Raise some none") => `(tactic| (k_here; k_dflt (refine' raiseF (by rfl) ?_; k_whole)))
/-! part c9_done -/
section
theorem freshC9 : True := by
  w_top off
  trivial
theorem eq_near {prog : Program} {w : World} {A : Around} {E : Value → Shared → Prop} {s : Shared} {h₀ : Heap} {L : Addr} {news im : List (Addr × Obj)} {v : Value} {near : Option Int} {Q : Value → Shared → Prop} (N : News h₀ L s.heap news) (hm : NearV im v near) (him : ∀ p ∈ im, p ∈ news)
    (hu : A.units < cLine) (h : Q (.bool true) s) : wpAny (model prog w) A (compareOp .Eq v v) Q E s := by
  cases near with
  | none =>
    have hc : v = .none := hm
    subst hc
    k_steps
    exact h
  | some k =>
    obtain ⟨tup, f, cl, c', oc, occ, pm, ctv, t9, tk0, hc, z1, _⟩ := hm
    subst hc
    exact eq_same N (him _ z1) hu h
theorem run_ts_len {r : Bool} : ∀ {ps : List (Int × Bool)} {near : Option Int} {i : Int}, (run r ps near i).1.length = ps.length
  | [], _, _ => by unfold run; rfl
  | (f, b) :: ps, near, i => by
    unfold run
    rw [List.length_append, run_ts_len]
    rfl
theorem up1 {a b d e : List (Addr × Obj)} : ∀ p ∈ a ++ (b ++ d), p ∈ (e ++ (a ++ b)) ++ d := fun p hp => by
  simp only [List.mem_append] at hp ⊢
  rcases hp with h | h | h <;> simp [h]
theorem After.more1 {w : World} {h₀ h5 h6 : Heap} {c : Ad} {plans : List Value} {np : Nat} {r : Bool} {L1 : Addr} {m1 m2 : Str → Option Value} {cur : Value} {told : List Value} {M rest fr1 more frsx new : List (Addr × Obj)} {ts : List (Option (List Int))} {σ' σ'' : St} {fd : Option (List Int)} {v : Value}
    (AF : After w h₀ c plans np r L1 m1 cur told (M ++ rest) fr1 ts h5 σ' more frsx) (hM : Off M (adrs c ++ adsOf fr1))
    (F' : Fr h₀ L1 h6 m2) (N' : News h₀ L1 h6 (coreOf c plans np σ'' ++ (((new ++ (more ++ M)) ++ rest) ++ frsx)))
    (how : σ''.ow.IsDictOf (PySem.strKind PR w) (worldKV c r)) (e1 : σ''.cur = σ'.cur) (e2 : σ''.tA = σ'.tA) (e3 : σ''.tD = σ'.tD) (e4 : σ''.told = σ'.told ++ [v]) (hv : OV (more ++ (M ++ rest)) fd v) (hnew : Off new (adrs c ++ adsOf fr1)) :
    After w h₀ c plans np r L1 m2 cur told rest fr1 (ts ++ [fd]) h6 σ'' (new ++ (more ++ M)) frsx where
  su := AF.su
  F := F'
  N := N'
  inv := ⟨how, e2 ▸ AF.inv.tA.mono up1, e3 ▸ AF.inv.tD.mono up1⟩
  cur := e1.trans AF.cur
  told := by
    obtain ⟨vs, h1, h2⟩ := AF.told
    refine ⟨vs ++ [v], by rw [e4, h1, List.append_assoc], All2.append (.cons (hv.mono up1) .nil) (h2.mono fun _ _ x => x.mono up1)⟩
  off := fun p hp => (List.mem_append.mp hp).elim (fun h => hnew p h) fun h => (List.mem_append.mp h).elim (fun h => AF.off p h) fun h => hM p h
theorem perm9 {core a b d f : List (Addr × Obj)} {x y : Addr × Obj} : ∀ p ∈ core ++ ((([x] ++ (a ++ b)) ++ d) ++ f), p ∈ y :: x :: (core ++ ((a ++ (b ++ d)) ++ f)) := fun p hp => by
  simp only [List.mem_append, List.mem_cons, List.not_mem_nil, or_false] at hp ⊢
  rcases hp with h | (((h | h | h) | h) | h) <;> simp [h]
theorem perm8 {core a b d f : List (Addr × Obj)} : ∀ p ∈ core ++ ((([] ++ (a ++ b)) ++ d) ++ f), p ∈ core ++ ((a ++ (b ++ d)) ++ f) := fun p hp => by
  simp only [List.mem_append, List.not_mem_nil, false_or] at hp ⊢
  rcases hp with h | (((h | h) | h) | h) <;> simp [h]
theorem off_new {c : Ad} {plans : List Value} {np : Nat} {σ : St} {mid fr frs1 : List (Addr × Obj)} {x : Addr} {o : Obj} (h : ∀ p ∈ coreOf c plans np σ ++ (mid ++ frs1), p.1 ≠ x) (su : SameUp fr frs1) : Off [(x, o)] (adrs c ++ adsOf fr) := fun p hp hx => by
  rw [List.mem_singleton.mp hp] at hx
  rcases List.mem_append.mp hx with hx | hx
  · rw [← core_ads (c := c) (plans := plans) (np := np) σ] at hx
    obtain ⟨q, hq, e1⟩ := List.mem_map.mp hx
    exact h q (List.mem_append_left _ hq) e1
  · rw [← sameAds su] at hx
    obtain ⟨q, hq, e1⟩ := List.mem_map.mp hx
    exact h q (List.mem_append_right _ (List.mem_append_right _ hq)) e1
theorem ne_new {core a b d f : List (Addr × Obj)} {x : Addr × Obj} {e : Addr} (h : ∀ p ∈ core ++ ((a ++ (b ++ d)) ++ f), p.1 ≠ e) (hx : x.1 ≠ e) : ∀ p ∈ core ++ ((([x] ++ (a ++ b)) ++ d) ++ f), p.1 ≠ e := fun p hp => by
  have := perm9 (y := x) p hp
  simp only [List.mem_cons] at this
  rcases this with q | q | q
  · rw [q]; exact hx
  · rw [q]; exact hx
  · exact h p q
theorem done_cons {w : World} {h₀ : Heap} {c : Ad} {plans : List Value} {np : Nat} {r : Bool} {f : Int} {b : Bool} {ps : List (Int × Bool)} {i : Nat} (B : Base w h₀ c plans) (hD : DoneC w h₀ c plans np r ps (i + 1)) :
    DoneC w h₀ c plans np r ((f, b) :: ps) i := by
  intro A E s L m near σ rest frs l envL t0 Q hh hdp hun htl0 C P O
  have B0 := B
  obtain ⟨F, N, inv, hnear, hplans, hcore, hoff⟩ := P
  obtain ⟨X, ⟨p, loose, mean, mg, mb, T⟩, C1, C2, nd, len5⟩ := B
  obtain ⟨aw, ah, ahd, ap, atd⟩ := c
  obtain ⟨κ, cur, tcc, thn, hn, ow, told, nt, tA, tD⟩ := σ
  obtain ⟨hdl, dp, fr, gd, un⟩ := A
  simp only at hh hdp hun
  subst hh
  simp only [List.length_cons] at hdp hun
  have hfr := C.fr
  simp only at hfr
  subst hfr
  have hW := inv.ow
  simp only at hW
  have nd0 := nd
  simp only [adrs, List.nodup_cons, List.mem_cons, not_or, List.not_mem_nil, not_false_eq_true, List.nodup_nil, and_true] at nd
  obtain ⟨⟨n1, n2, n3, n4, n5, n6⟩, ⟨n7, n8, n9, n10, n11⟩, ⟨n12, n13, n14, n15⟩, ⟨n16, n17, n18⟩, ⟨n19, n20⟩, n21⟩ := nd
  have hcur1 : handedIn cur = true := by
    cases near with
    | none => rw [show cur = .none from hnear]; rfl
    | some k => obtain ⟨tup, _, _, _, _, _, _, _, _, _, e, _⟩ := hnear; rw [show cur = .ref tup from e]; rfl
  obtain ⟨pv, pvs, hdrop, hpv, hpvs⟩ : ∃ pv pvs, plans.drop i = pv :: pvs ∧ PlanV rest (f, b) pv ∧ All2 (PlanV rest) ps pvs := by
    cases hq : plans.drop i with
    | nil => rw [hq] at hplans; cases hplans
    | cons x xs => rw [hq] at hplans; cases hplans with | cons a1 a2 => exact ⟨x, xs, rfl, a1, a2⟩
  have hget : plans[i]? = some pv := by
    have := congrArg (·[0]?) hdrop
    simpa using this
  have hlt : i < plans.length := (List.getElem?_eq_some_iff.mp hget).1
  have hdrop2 : plans.drop (i + 1) = pvs := by
    rw [← List.drop_drop, hdrop]; rfl
  obtain ⟨hf012, tp, tf, hpv2, htp⟩ := hpv
  simp only at hpv2 htp hf012
  subst hpv2
  have hget2 : plans.toArray[((i : Nat) : Int).toNat]? = some (.ref tp) := by simpa using hget
  have hfit5 : plans.toArray.size ≤ 1000 := by simp; omega
  have hlt2 : ((i : Nat) : Int) < ((plans.toArray.size : Nat) : Int) := by simpa using hlt
  have y1 : (tp, _) ∈ rest ++ frs := List.mem_append_left _ htp
  generalize htl : rest ++ frs = tl at N hcore y1
  obtain ⟨t1, t2, t3, t4, t5, t6, t7⟩ := seven hcore
  simp only [coreOf, List.cons_append, List.nil_append] at N
  show wpAny _ _ (call (.ref 97) [.ref aw, .int i t0]) Q E s
  refine wpAny_call ?_
  walk_at "MyEnterC"
  rename_i L1 h1 tk1 oL CC F1 l1 nL lL o1 o2 o3 d1 d2 d3 N1
  replace d1 : o1.data = Data.cell none := d1
  replace d2 : o2.data = Data.cell (some (.int i t0)) := d2
  replace d3 : o3.data = Data.cell (some (.ref aw)) := d3
  have Y := lone_of (c := ⟨aw, ah, ahd, ap, atd⟩) (plans := plans) (np := np) (σ := ⟨κ, cur, tcc, thn, hn, ow, told, nt, tA, tD⟩) (rest := rest) (frs := frs) (L := L) (htl ▸ nL)
  try k_fold
  k_steps
  rename News h₀ L1 _ (_ :: (_, _) :: (_, _) :: (_, _) :: (L, _) :: _) => N2
  subst htl
  have ltA : ∀ x ∈ adrs ⟨aw, ah, ahd, ap, atd⟩ ++ adsOf ((L, oL) :: frs), x < L1 := fun x hx => by
    rcases List.mem_append.mp hx with hx | hx
    · rw [← core_ads (c := ⟨aw, ah, ahd, ap, atd⟩) (plans := plans) (np := np) ⟨κ, cur, tcc, thn, hn, ow, told, nt, tA, tD⟩] at hx
      obtain ⟨q, hq, q1⟩ := List.mem_map.mp hx
      exact q1 ▸ l1 q (List.mem_append_left (rest ++ frs) hq)
    · rcases List.mem_cons.mp hx with q | hx
      · rw [q]; exact lL
      · obtain ⟨q, hq, q1⟩ := List.mem_map.mp hx
        exact q1 ▸ l1 q (List.mem_append_right (coreOf ⟨aw, ah, ahd, ap, atd⟩ plans np ⟨κ, cur, tcc, thn, hn, ow, told, nt, tA, tD⟩) (List.mem_append_right _ hq))
  have ltR : ∀ p ∈ rest ++ ((L, oL) :: frs), p.1 < L1 := fun p hp => by
    rcases List.mem_append.mp hp with hp | hp
    · exact l1 p (List.mem_append_right (coreOf ⟨aw, ah, ahd, ap, atd⟩ plans np ⟨κ, cur, tcc, thn, hn, ow, told, nt, tA, tD⟩) (List.mem_append_left _ hp))
    · rcases List.mem_cons.mp hp with rfl | hp
      · exact lL
      · exact l1 p (List.mem_append_right (coreOf ⟨aw, ah, ahd, ap, atd⟩ plans np ⟨κ, cur, tcc, thn, hn, ow, told, nt, tA, tD⟩) (List.mem_append_right _ hp))
  have hcore1 : Off (rest ++ ((L, oL) :: frs)) (adrs ⟨aw, ah, ahd, ap, atd⟩) := Y.coffr hcore
  have hM1 : ∀ p ∈ [(L1 + 1 + 1, o2), (L1 + 1, o3)], L1 < p.1 := fun p hp => by
    simp only [List.mem_cons, List.not_mem_nil, or_false] at hp
    rcases hp with rfl | rfl <;> exact leN (by dsimp only; omega)
  have hM1c : ∀ p ∈ [(L1 + 1 + 1, o2), (L1 + 1, o3)], p.1 ≠ L1 + 1 + 1 + 1 := fun p hp => by
    simp only [List.mem_cons, List.not_mem_nil, or_false] at hp
    rcases hp with rfl | rfl <;> exact neN (by dsimp only; omega)
  clear y1 t1 t2 t3 t4 t5 t6 t7
  obtain ⟨M1, hM1e⟩ : ∃ M1, M1 = [(L1 + 1 + 1, o2), (L1 + 1, o3)] := ⟨_, rfl⟩
  rw [← hM1e] at hM1 hM1c
  have hco1 : Off ((M1 ++ rest) ++ ((L, oL) :: frs)) (adrs ⟨aw, ah, ahd, ap, atd⟩) := offTl (offM hM1 fun x hx => ltA x (List.mem_append_left _ hx)) hcore1
  have hch1 := neTl (rest := rest) (frs := (L, oL) :: frs) hM1c ltR ((by intro n; omega : ∀ n : Nat, n < n + 1 + 1 + 1) L1)
  have hca : (L1 + 1 + 1, o2) ∈ (M1 ++ rest) ++ ((L, oL) :: frs) := by rw [hM1e]; exact .head _
  have hcw : (L1 + 1, o3) ∈ (M1 ++ rest) ++ ((L, oL) :: frs) := by rw [hM1e]; exact .tail _ (.head _)
  obtain ⟨tl1, htl1⟩ : ∃ tl1, tl1 = (M1 ++ rest) ++ ((L, oL) :: frs) := ⟨_, rfl⟩
  have N3 : News h₀ L1 _ ((L1 + 1 + 1 + 1, o1) :: (aw, ow) :: (ah, instObj 72 ahd) :: (ahd, hdict κ cur (.int 0 tcc) (.int hn thn)) :: (ap, W.listOf plans.toArray np) :: (atd, W.listOf told.toArray nt) :: (85, tabObj tA) :: (92, tabObj tD) :: tl1) := News.sub N2 (by
    rw [htl1, hM1e]
    exact permA (core := coreOf ⟨aw, ah, ahd, ap, atd⟩ plans np ⟨κ, cur, tcc, thn, hn, ow, told, nt, tA, tD⟩))
  clear N2
  rw [← htl1] at hco1 hch1 hca hcw
  obtain ⟨t1, t2, t3, t4, t5, t6, t7⟩ := seven hco1
  have hqq : ∀ x ∈ adrs ⟨aw, ah, ahd, ap, atd⟩, x ≠ L1 + 1 + 1 + 1 := fun x hx => Nat.ne_of_lt (Nat.lt_trans (ltA x (List.mem_append_left _ hx)) ((by intro n; omega : ∀ n : Nat, n < n + 1 + 1 + 1) L1))
  have q1 : aw ≠ L1 + 1 + 1 + 1 := hqq _ (by simp)
  have q2 : ah ≠ L1 + 1 + 1 + 1 := hqq _ (by simp)
  have q3 : ahd ≠ L1 + 1 + 1 + 1 := hqq _ (by simp)
  have q4 : ap ≠ L1 + 1 + 1 + 1 := hqq _ (by simp)
  have q5 : atd ≠ L1 + 1 + 1 + 1 := hqq _ (by simp)
  have q6 : 85 ≠ L1 + 1 + 1 + 1 := hqq _ (by simp)
  have q7 : 92 ≠ L1 + 1 + 1 + 1 := hqq _ (by simp)
  have hmono1 : ∀ p ∈ rest, p ∈ tl1 := fun p hp => htl1 ▸ List.mem_append_left _ (List.mem_append_right _ hp)
  refine answers (im := M1 ++ rest) X T C1 rfl (by show dp + 1 ≤ _; omega) (by show un + 3 ≤ _; omega) (by assumption) N3 (by k_updF)
    (fun p hp => (.tail _ (.tail _ (.tail _ (.tail _ (.tail _ (.tail _ (.tail _ (.tail _ (htl1 ▸ List.mem_append_left _ hp)))))))))) (fun p hp => t6 p (htl1 ▸ List.mem_append_left _ hp)) (inv.tA.mono fun p hp => List.mem_append_right _ hp) ?_
  intro v0 tA2 more1 B1 h2 tk2 F2 N4 hTA2 hAns hLB hB1 hm1
  try dsimp only at N4
  have hM2 : ∀ p ∈ more1 ++ M1, L1 < p.1 := fun p hp => (List.mem_append.mp hp).elim (fun h => Nat.lt_of_lt_of_le hLB (hm1 p h)) (hM1 p)
  have hM2c : ∀ p ∈ more1 ++ M1, p.1 ≠ L1 + 1 + 1 + 1 := fun p hp => (List.mem_append.mp hp).elim (fun h => Nat.ne_of_gt (Nat.lt_of_lt_of_le (hB1 _ (.head _)) (hm1 p h))) (hM1c p)
  have hco2 : Off (((more1 ++ M1) ++ rest) ++ ((L, oL) :: frs)) (adrs ⟨aw, ah, ahd, ap, atd⟩) := offTl (offM hM2 fun x hx => ltA x (List.mem_append_left _ hx)) hcore1
  have hch2 := neTl (rest := rest) (frs := (L, oL) :: frs) hM2c ltR ((by intro n; omega : ∀ n : Nat, n < n + 1 + 1 + 1) L1)
  have hlift : ∀ p ∈ tl1, p ∈ ((more1 ++ M1) ++ rest) ++ ((L, oL) :: frs) := fun p hp => by
    rw [List.append_assoc, List.append_assoc]
    rw [htl1, List.append_assoc] at hp
    exact List.mem_append_right _ hp
  have N5 := News.sub (a := more1 ++ _) (b := (L1 + 1 + 1 + 1, o1) :: (aw, ow) :: (ah, instObj 72 ahd) :: (ahd, hdict κ cur (.int 0 tcc) (.int hn thn)) :: (ap, W.listOf plans.toArray np) :: (atd, W.listOf told.toArray nt) :: (85, tabObj tA2) :: (92, tabObj tD) :: (((more1 ++ M1) ++ rest) ++ ((L, oL) :: frs))) N4 (by
    rw [htl1]
    exact permB (core := coreOf ⟨aw, ah, ahd, ap, atd⟩ plans np ⟨κ, cur, tcc, thn, hn, ow, told, nt, tA2, tD⟩))
  clear N3 N4 t1 t2 t3 t4 t5 t6 t7 hch1 hco1
  replace hca := hlift _ hca
  replace hcw := hlift _ hcw
  obtain ⟨tl2, htl2⟩ : ∃ tl2, tl2 = ((more1 ++ M1) ++ rest) ++ ((L, oL) :: frs) := ⟨_, rfl⟩
  rw [← htl2] at hco2 hch2 hca hcw N5
  obtain ⟨t1, t2, t3, t4, t5, t6, t7⟩ := seven hco2
  obtain ⟨hv, hget3, hnum⟩ : ∃ hv, #[v0, Value.none, cur][f.toNat]? = some hv ∧ NearV ((more1 ++ M1) ++ rest) hv (numOf f i near) := by
    rcases hf012 with rfl | rfl | rfl
    · exact ⟨v0, rfl, hAns.mono fun p hp => by rw [List.append_assoc]; exact hp⟩
    · exact ⟨.none, rfl, rfl⟩
    · exact ⟨cur, rfl, hnear.mono fun p hp => List.mem_append_right _ hp⟩
  k_steps
  rename News h₀ L1 _ ((_, W.listOf _ _) :: (_, _) :: _) => N6
  rename Obj => o4
  rename o4.data = _ => d4
  rw [htl2] at N6
  clear t1 t2 t3 t4 t5 t6 t7
  have hM3 : ∀ p ∈ (L1 + 1 + 1 + 1, o4) :: (more1 ++ M1), L1 < p.1 := fun p hp => by
    rcases List.mem_cons.mp hp with rfl | hp
    · exact (by intro n; omega : ∀ n : Nat, n < n + 1 + 1 + 1) L1
    · exact hM2 p hp
  obtain ⟨M3, hM3e⟩ : ∃ M3, M3 = (L1 + 1 + 1 + 1, o4) :: (more1 ++ M1) := ⟨_, rfl⟩
  have hsub3 : ∀ p ∈ (more1 ++ M1) ++ rest, p ∈ M3 ++ rest := fun p hp => by rw [hM3e]; exact .tail _ hp
  rw [← hM3e] at hM3
  have hco3 : Off ((M3 ++ rest) ++ ((L, oL) :: frs)) (adrs ⟨aw, ah, ahd, ap, atd⟩) := offTl (offM hM3 fun x hx => ltA x (List.mem_append_left _ hx)) hcore1
  obtain ⟨tl3, htl3⟩ : ∃ tl3, tl3 = (M3 ++ rest) ++ ((L, oL) :: frs) := ⟨_, rfl⟩
  have N7 := News.sub (b := (92, tabObj tD) :: (aw, ow) :: (ah, instObj 72 ahd) :: (ahd, hdict κ cur (.int 0 tcc) (.int hn thn)) :: (ap, W.listOf plans.toArray np) :: (atd, W.listOf told.toArray nt) :: (85, tabObj tA2) :: tl3) N6 (by
    rw [htl3, hM3e]
    exact permC (core := [(aw, ow), (ah, instObj 72 ahd), (ahd, hdict κ cur (.int 0 tcc) (.int hn thn)), (ap, W.listOf plans.toArray np), (atd, W.listOf told.toArray nt), (85, tabObj tA2)]))
  clear N6
  rw [← htl3] at hco3
  obtain ⟨t1, t2, t3, t4, t5, t6, t7⟩ := seven hco3
  have him3 : ∀ p ∈ M3 ++ rest, p ∈ tl3 := fun p hp => htl3 ▸ List.mem_append_left _ hp
  refine evalWork (im := M3 ++ rest) (ca := L1 + 1 + 1) (ch := L1 + 1 + 1 + 1) (cw := L1 + 1) T C2 (by assumption) N7 ?h92 (fun p hp => (.tail _ (.tail _ (.tail _ (.tail _ (.tail _ (.tail _ (him3 p hp)))))))) (inv.tD.mono fun p hp => List.mem_append_right _ hp) rfl ?_
  case h92 =>
    intro q hq
    simp only [List.mem_cons] at hq
    rcases hq with rfl | rfl | rfl | rfl | rfl | rfl | hq
    · exact n6
    · exact n11
    · exact n15
    · exact n18
    · exact n20
    · exact n21
    · exact t7 q hq
  intro fw c' occ pm ctv tD2 more2 B2 h3 tk3 F3 N8 hTD2 hfw hcc hcd2 hB2 hm2
  have hM4 : ∀ p ∈ more2 ++ M3, L1 < p.1 := fun p hp => (List.mem_append.mp hp).elim (fun h => Nat.lt_of_lt_of_le (show L1 < B2 from Nat.lt_trans (hM3 (L1 + 1 + 1 + 1, o4) (hM3e ▸ .head _)) (hB2 _ (.tail _ (.tail _ (.tail _ (.tail _ (.tail _ (.tail _ (.tail _ (him3 _ (List.mem_append_left _ (hM3e ▸ .head _))))))))))) ) (hm2 p h)) (hM3 p)
  obtain ⟨M4, hM4e⟩ : ∃ M4, M4 = more2 ++ M3 := ⟨_, rfl⟩
  rw [← hM4e] at hM4
  have hsub4 : ∀ p ∈ M3 ++ rest, p ∈ M4 ++ rest := fun p hp => by rw [hM4e, List.append_assoc]; exact List.mem_append_right _ hp
  have hM4r : more2 ++ (M3 ++ rest) = M4 ++ rest := by rw [hM4e, List.append_assoc]
  rw [hM4r] at hTD2 hfw hcc
  have hco4 : Off ((M4 ++ rest) ++ ((L, oL) :: frs)) (adrs ⟨aw, ah, ahd, ap, atd⟩) := offTl (offM hM4 fun x hx => ltA x (List.mem_append_left _ hx)) hcore1
  have y1 : (fw, _) ∈ (M4 ++ rest) ++ ((L, oL) :: frs) := List.mem_append_left _ hfw
  have y2 : (L1 + 1 + 1 + 1, o4) ∈ M4 ++ rest := hsub4 _ (List.mem_append_left _ (hM3e ▸ .head _))
  have y3 : (L1 + 1 + 1, o2) ∈ M4 ++ rest := hsub4 _ (hsub3 _ (List.mem_append_left _ (List.mem_append_right _ (hM1e ▸ .head _))))
  have y4 : (L1 + 1, o3) ∈ M4 ++ rest := hsub4 _ (hsub3 _ (List.mem_append_left _ (List.mem_append_right _ (hM1e ▸ .tail _ (.head _)))))
  have y5 : (L1 + 1 + 1 + 1, o4) ∈ (M4 ++ rest) ++ ((L, oL) :: frs) := List.mem_append_left _ y2
  have y6 : (L1 + 1, o3) ∈ (M4 ++ rest) ++ ((L, oL) :: frs) := List.mem_append_left _ y4
  obtain ⟨tl4, htl4⟩ : ∃ tl4, tl4 = (M4 ++ rest) ++ ((L, oL) :: frs) := ⟨_, rfl⟩
  have N9 := News.sub (b := (aw, ow) :: (ah, instObj 72 ahd) :: (ahd, hdict κ cur (.int 0 tcc) (.int hn thn)) :: (ap, W.listOf plans.toArray np) :: (atd, W.listOf told.toArray nt) :: (85, tabObj tA2) :: (92, tabObj tD2) :: tl4) N8 (by
    rw [htl4, htl3, hM4e]
    exact permH (core := [(aw, ow), (ah, instObj 72 ahd), (ahd, hdict κ cur (.int 0 tcc) (.int hn thn)), (ap, W.listOf plans.toArray np), (atd, W.listOf told.toArray nt), (85, tabObj tA2)]))
  clear N7 N8 t1 t2 t3 t4 t5 t6 t7
  rw [← htl4] at hco4 y1 y5 y6
  obtain ⟨t1, t2, t3, t4, t5, t6, t7⟩ := seven hco4
  k_steps
  subst htl4
  have mono4 : ∀ p ∈ rest, p ∈ M4 ++ rest := fun p hp => List.mem_append_right _ hp
  have roff4 : Off (M4 ++ rest) (adsOf ((L, oL) :: frs)) := fun p hp => (List.mem_append.mp hp).elim (fun h => offM hM4 (fun x hx => ltA x (List.mem_append_right _ hx)) p h) (fun h => Y.roff hoff p h)
  refine gw B0 hD _ _ _ L1 _ near (numOf f i near) ⟨κ, cur, tcc, thn, hn, ow, told, nt, tA2, tD2⟩ (M4 ++ rest) ((L, oL) :: frs) (envL :: l) _ fw hv _ rfl (by show dp + 1 + _ + _ ≤ _; omega) (by show un + 3 + _ + _ ≤ _; omega) htl0 ⟨rfl, rfl, (by intro q; cases q), C.kind, C.L, CC.dict, C.frs⟩
    ⟨by assumption, News.sub (by assumption) ?pp, ⟨inv.ow, hTA2.mono fun p hp => hsub4 _ (hsub3 _ (by rw [List.append_assoc]; exact hp)), hTD2⟩, hnear.mono mono4, hdrop2 ▸ hpvs.mono fun _ _ x => x.mono mono4, hco4, roff4⟩
    ⟨L1 + 1 + 1, L1 + 1 + 1 + 1, L1 + 1, c', pm, ctv, o2, o4, o3, occ, t0, hfw, y3, d2, y2, d4, y4, d3, hcc, hcd2⟩ (hnum.mono fun p hp => hsub4 _ (hsub3 _ hp)) ?_
  case pp => exact fun p hp => hp
  intro v h5 tk5 σ' more frs1 AF hFV
  obtain ⟨κ', cur', tcc', thn', hn', ow2, told', nt', tA', tD'⟩ := σ'
  have N10 := AF.N
  have F10 := AF.F
  have hco5 := AF.core_off hco4
  have hcu2 : cur' = cur := AF.cur
  subst hcu2
  have su1 := AF.su
  have hW2 := AF.inv.ow
  simp only at hW2
  obtain ⟨vsT, hvsT, hallT⟩ := AF.told
  simp only at hvsT
  have htoldlen : LenOk told' := by
    show told'.length ≤ 200
    have h1 := hallT.len
    have h2 := run_ts_len (r := r) (ps := ps) (near := numOf f i near) (i := ((i + 1 : Nat) : Int))
    have h3 := hpvs.len
    rw [hvsT, List.length_append]
    simp only at htl0
    have h4 : pvs.length ≤ 5 := by rw [← hdrop2, List.length_drop]; omega
    omega
  have y7 : (L1 + 1, o3) ∈ (more ++ (M4 ++ rest)) ++ frs1 := List.mem_append_left _ (List.mem_append_right _ y4)
  clear y1 y5 y6 t1 t2 t3 t4 t5 t6 t7
  generalize htl5 : (more ++ (M4 ++ rest)) ++ frs1 = tl5 at N10 hco5 y7
  obtain ⟨t1, t2, t3, t4, t5, t6, t7⟩ := seven hco5
  simp only [coreOf, List.cons_append, List.nil_append] at N10
  k_steps
  refine eq_near (im := rest) (by k_asm) hnear (fun p hp => ?him) ?hu ?_
  case him => subst htl5; simp only [List.mem_cons, List.mem_append]; simp [hp]
  case hu => exact Nat.lt_of_le_of_lt (m := 9000) (by simp only [units_deeper]; omega) (by decide)
  k_steps
  obtain ⟨fd, hfd⟩ : ∃ fd, ansd (run r ps (numOf f i near) ((i + 1 : Nat) : Int)).2 (numOf f i near) = fd := ⟨_, rfl⟩
  rw [hfd] at hFV
  have offM4 : Off M4 (adrs ⟨aw, ah, ahd, ap, atd⟩ ++ adsOf ((L, oL) :: frs)) := offM hM4 ltA
  cases fd with
  | none =>
    have hv2 : v = .none := hFV
    subst hv2
    k_steps
    subst htl5
    obtain ⟨o2, hN2, hW3⟩ : ∃ o2, News h₀ L1 _ ((aw, o2) :: (ah, _) :: (ahd, _) :: (ap, _) :: (atd, W.listOf _ _) :: _) ∧ o2.IsDictOf (PySem.strKind PR w) (worldKV ⟨aw, ah, ahd, ap, atd⟩ r) := ⟨_, by assumption, by assumption⟩
    have AF3 := AF.more1 (M := M4) (rest := rest) (new := []) (σ'' := ⟨κ', cur', tcc', thn', hn', o2, told' ++ [.none], nt' + 1, tA', tD'⟩) (fd := ansd (run r ps (numOf f i near) ((i + 1 : Nat) : Int)).2 (numOf f i near)) (v := .none) offM4 (by assumption) (News.sub hN2 (perm8 (core := coreOf ⟨aw, ah, ahd, ap, atd⟩ plans np ⟨κ', cur', tcc', thn', hn', o2, told' ++ [.none], nt' + 1, tA', tD'⟩))) hW3 rfl rfl rfl rfl (by rw [hfd]; exact rfl) (fun p hp => absurd hp List.not_mem_nil)
    obtain ⟨frs2, AF4⟩ := AF3.back (w := w) (plans := plans) (np := np) (r := r) CC Y
    exact O.ok (by show (if b then ansd (run r ps (numOf f i near) ((i + 1 : Nat) : Int)).2 (numOf f i near) else none) = none; rw [hfd]; cases b <;> rfl) _ _ _ _ _ AF4
  | some ns =>
    obtain ⟨e, dx, t, tb, h1, h2, h3, k1, k2, k3, vv, tr, hv2, he, hdx, hOV⟩ := hFV
    subst hv2
    have y8 : (e, _) ∈ tl5 := htl5 ▸ List.mem_append_left _ he
    have y9 : (dx, _) ∈ tl5 := htl5 ▸ List.mem_append_left _ hdx
    obtain ⟨bb, ws, nb, hvv, hbm, hbI⟩ := id hOV
    subst hvv
    have y10 : (bb, _) ∈ tl5 := htl5 ▸ List.mem_append_left _ hbm
    cases b with
    | false =>
      k_steps
      subst htl5
      obtain ⟨o2, hN2, hW3⟩ : ∃ o2, News h₀ L1 _ ((aw, o2) :: (ah, _) :: (ahd, _) :: (ap, _) :: (atd, W.listOf _ _) :: _) ∧ o2.IsDictOf (PySem.strKind PR w) (worldKV ⟨aw, ah, ahd, ap, atd⟩ r) := ⟨_, by assumption, by assumption⟩
      have AF3 := AF.more1 (M := M4) (rest := rest) (new := []) (σ'' := ⟨κ', cur', tcc', thn', hn', o2, told' ++ [.ref bb], nt' + 1, tA', tD'⟩) (fd := ansd (run r ps (numOf f i near) ((i + 1 : Nat) : Int)).2 (numOf f i near)) (v := .ref bb) offM4 (by assumption) (News.sub hN2 (perm8 (core := coreOf ⟨aw, ah, ahd, ap, atd⟩ plans np ⟨κ', cur', tcc', thn', hn', o2, told' ++ [.ref bb], nt' + 1, tA', tD'⟩))) hW3 rfl rfl rfl rfl (by rw [hfd]; exact hOV) (fun p hp => absurd hp List.not_mem_nil)
      obtain ⟨frs2, AF4⟩ := AF3.back (w := w) (plans := plans) (np := np) (r := r) CC Y
      exact O.ok (by rfl) _ _ _ _ _ AF4
    | true =>
      k_steps
      subst htl5
      obtain ⟨o2, hN2, hW3⟩ : ∃ o2, News h₀ L1 _ ((aw, o2) :: (ah, _) :: (ahd, _) :: (ap, _) :: (atd, W.listOf _ _) :: _) ∧ o2.IsDictOf (PySem.strKind PR w) (worldKV ⟨aw, ah, ahd, ap, atd⟩ r) := ⟨_, by assumption, by assumption⟩
      refine mkErr (by assumption) hN2 X (by show dp + 1 ≤ _; omega) (by show un + 3 ≤ _; omega) ?_
      intro e9 dx9 t9 tr9 h9 tk9 a1 a2 a3 b1 b2 b3 F9 N9 ne9 nd9 le9
      have nE : ∀ p ∈ coreOf ⟨aw, ah, ahd, ap, atd⟩ plans np ⟨κ', cur', tcc', thn', hn', o2, told' ++ [.ref bb], nt' + 1, tA', tD'⟩ ++ ((more ++ (M4 ++ rest)) ++ frs1), p.1 ≠ e9 := fun p hp => ne9 p (.tail _ hp)
      have nD : ∀ p ∈ coreOf ⟨aw, ah, ahd, ap, atd⟩ plans np ⟨κ', cur', tcc', thn', hn', o2, told' ++ [.ref bb], nt' + 1, tA', tD'⟩ ++ ((more ++ (M4 ++ rest)) ++ frs1), p.1 ≠ dx9 := fun p hp => nd9 p (.tail _ hp)
      have AF3 := AF.more1 (M := M4) (rest := rest) (new := [(dx9, errDict a1 a2 a3 b1 b2 b3 (.ref bb) tr9)]) (σ'' := ⟨κ', cur', tcc', thn', hn', o2, told' ++ [.ref bb], nt' + 1, tA', tD'⟩) (fd := ansd (run r ps (numOf f i near) ((i + 1 : Nat) : Int)).2 (numOf f i near)) (v := .ref bb) offM4 F9 (News.sub N9 (perm9 (core := coreOf ⟨aw, ah, ahd, ap, atd⟩ plans np ⟨κ', cur', tcc', thn', hn', o2, told' ++ [.ref bb], nt' + 1, tA', tD'⟩))) hW3 rfl rfl rfl rfl (by rw [hfd]; exact hOV) (off_new nD AF.su)
      refine ⟨e9, dx9, t9, _, 31, rfl, rfl, (N9 _ (.head _)).1, ⟨hd.heap_39 w.params, X.keeps F9.keep, by first | rfl | decide +kernel, rfl⟩, ?_⟩
      exact leaveErr O AF3 CC Y ⟨rfl, rfl, (by intro q; cases q), C.kind, C.L, CC.dict, C.frs⟩ (Y.coff hcore) (Y.roff hoff) (by show ansd (run r ps (numOf f i near) ((i + 1 : Nat) : Int)).2 (numOf f i near) = some ns; exact hfd)
        ⟨.inl (N9 _ (.head _)).1, (N9 _ (.head _)).2.2, ne_new nE (Ne.symm (Nat.ne_of_lt le9)), ⟨a1, a2, a3, b1, b2, b3, _, tr9, .head _, OV.mono (o := some ns) hOV up1⟩⟩ rfl
end
/-! part d1_nil -/
section
theorem freshD1 : True := by
  w_top off
  trivial
theorem perm3 {core rest frs : List (Addr × Obj)} {d a b e x : Addr × Obj} : ∀ p ∈ core ++ (([a, b, e] ++ rest) ++ (x :: frs)), p ∈ d :: a :: b :: e :: x :: (core ++ (rest ++ frs)) := fun p hp => by
  simp only [List.mem_append, List.mem_cons, List.not_mem_nil, or_false] at hp ⊢
  rcases hp with h | ((h | h | h) | h) | h | h <;> simp [h]
theorem perm5 {core rest frs : List (Addr × Obj)} {y z1 z2 d a b e x : Addr × Obj} : ∀ p ∈ core ++ (((z1 :: z2 :: [a, b, e]) ++ rest) ++ (x :: frs)), p ∈ y :: z1 :: z2 :: d :: a :: b :: e :: x :: (core ++ (rest ++ frs)) := fun p hp => by
  simp only [List.mem_append, List.mem_cons, List.not_mem_nil, or_false] at hp ⊢
  rcases hp with h | ((h | h | h | h | h) | h) | h | h <;> simp [h]
theorem intsAre_nil : IntsAre [] [] := by constructor
theorem done_nil {w : World} {h₀ : Heap} {c : Ad} {plans : List Value} {np : Nat} {r : Bool} {i : Nat} (B : Base w h₀ c plans) : DoneC w h₀ c plans np r [] i := by
  intro A E s L m near σ rest frs l envL t0 Q hh hdp hun htl0 C P O
  have B0 := B
  obtain ⟨F, N, inv, hnear, hplans, hcore, hoff⟩ := P
  obtain ⟨X, ⟨p, loose, mean, mg, mb, T⟩, C1, C2, nd, len5⟩ := B
  obtain ⟨aw, ah, ahd, ap, atd⟩ := c
  obtain ⟨κ, cur, tcc, thn, hn, ow, told, nt, tA, tD⟩ := σ
  obtain ⟨hdl, dp, fr, gd, un⟩ := A
  simp only at hh hdp hun
  subst hh
  simp only [List.length_nil] at hdp hun
  have hfr := C.fr
  simp only at hfr
  subst hfr
  have hW := inv.ow
  simp only at hW
  have nd0 := nd
  simp only [adrs, List.nodup_cons, List.mem_cons, not_or, List.not_mem_nil, not_false_eq_true, List.nodup_nil, and_true] at nd
  obtain ⟨⟨n1, n2, n3, n4, n5, n6⟩, ⟨n7, n8, n9, n10, n11⟩, ⟨n12, n13, n14, n15⟩, ⟨n16, n17, n18⟩, ⟨n19, n20⟩, n21⟩ := nd
  have hcur1 : handedIn cur = true := by
    cases near with
    | none => rw [show cur = .none from hnear]; rfl
    | some k => obtain ⟨tup, _, _, _, _, _, _, _, _, _, e, _⟩ := hnear; rw [show cur = .ref tup from e]; rfl
  have hlen : plans.length ≤ i := by
    cases hq : plans.drop i with
    | nil => exact List.drop_eq_nil_iff.mp hq
    | cons x xs => rw [hq] at hplans; cases hplans
  have hfit5 : plans.toArray.size ≤ 1000 := by simp; omega
  have hge : ¬ (((i : Nat) : Int) < ((plans.toArray.size : Nat) : Int)) := by simpa using hlen
  generalize htl : rest ++ frs = tl at N hcore
  obtain ⟨t1, t2, t3, t4, t5, t6, t7⟩ := seven hcore
  simp only [coreOf, List.cons_append, List.nil_append] at N
  show wpAny _ _ (call (.ref 97) [.ref aw, .int i t0]) Q E s
  refine wpAny_call ?_
  walk_at "MyEnterC"
  rename_i L1 h1 tk1 oL CC F1 l1 nL lL o1 o2 o3 d1 d2 d3 N1
  replace d1 : o1.data = Data.cell none := d1
  replace d2 : o2.data = Data.cell (some (.int i t0)) := d2
  replace d3 : o3.data = Data.cell (some (.ref aw)) := d3
  have Y := lone_of (c := ⟨aw, ah, ahd, ap, atd⟩) (plans := plans) (np := np) (σ := ⟨κ, cur, tcc, thn, hn, ow, told, nt, tA, tD⟩) (rest := rest) (frs := frs) (L := L) (htl ▸ nL)
  try k_fold
  have ltA : ∀ x ∈ adrs ⟨aw, ah, ahd, ap, atd⟩ ++ adsOf ((L, oL) :: frs), x < L1 := fun x hx => by
    subst htl
    rcases List.mem_append.mp hx with hx | hx
    · rw [← core_ads (c := ⟨aw, ah, ahd, ap, atd⟩) (plans := plans) (np := np) ⟨κ, cur, tcc, thn, hn, ow, told, nt, tA, tD⟩] at hx
      obtain ⟨q, hq, q1⟩ := List.mem_map.mp hx
      exact q1 ▸ l1 q (List.mem_append_left (rest ++ frs) hq)
    · rcases List.mem_cons.mp hx with q | hx
      · rw [q]; exact lL
      · obtain ⟨q, hq, q1⟩ := List.mem_map.mp hx
        exact q1 ▸ l1 q (List.mem_append_right (coreOf ⟨aw, ah, ahd, ap, atd⟩ plans np ⟨κ, cur, tcc, thn, hn, ow, told, nt, tA, tD⟩) (List.mem_append_right _ hq))
  have hM1 : ∀ p ∈ [(L1 + 1 + 1 + 1, o1), (L1 + 1 + 1, o2), (L1 + 1, o3)], L1 < p.1 := fun p hp => by
    simp only [List.mem_cons, List.not_mem_nil, or_false] at hp
    rcases hp with rfl | rfl | rfl <;> exact leN (by dsimp only; omega)
  have mono1 : ∀ {M : List (Addr × Obj)}, ∀ p ∈ rest, p ∈ M ++ rest := fun p hp => List.mem_append_right _ hp
  cases r with
  | false =>
    k_steps
    subst htl
    rename News h₀ L1 _ (_ :: (_, _) :: (_, _) :: (_, _) :: (L, _) :: _) => N9
    have AF3 : After w h₀ ⟨aw, ah, ahd, ap, atd⟩ plans np false L1 _ cur told rest ((L, oL) :: frs) [] _ ⟨κ, cur, tcc, thn, hn, ow, told, nt, tA, tD⟩ [(L1 + 1 + 1 + 1, o1), (L1 + 1 + 1, o2), (L1 + 1, o3)] ((L, oL) :: frs) :=
      ⟨SameUp.refl _, by assumption, News.sub N9 (perm3 (core := (coreOf ⟨aw, ah, ahd, ap, atd⟩ plans np ⟨κ, cur, tcc, thn, hn, ow, told, nt, tA, tD⟩))), ⟨hW, inv.tA.mono mono1, inv.tD.mono mono1⟩, rfl, ⟨[], (List.append_nil _).symm, .nil⟩, offM hM1 ltA⟩
    obtain ⟨frs2, AF4⟩ := AF3.back (w := w) (plans := plans) (np := np) (r := false) CC Y
    exact O.ok rfl _ _ _ _ _ AF4
  | true =>
    k_steps
    subst htl
    rename News h₀ L1 _ ((_, W.listOf _ _) :: _ :: (_, _) :: (_, _) :: (_, _) :: (L, _) :: _) => N8
    rename ∀ p ∈ _ :: (_, _) :: (_, _) :: (_, _) :: (L, _) :: _, p.1 < _ => lB
    refine mkErr (by assumption) N8 X (by show dp + 1 ≤ _; omega) (by show un + 3 ≤ _; omega) ?_
    intro e9 dx9 t9 tr9 h9 tk9 a1 a2 a3 b1 b2 b3 F9 N9 ne9 nd9 le9
    have nB : ∀ p ∈ (coreOf ⟨aw, ah, ahd, ap, atd⟩ plans np ⟨κ, cur, tcc, thn, hn, ow, told, nt, tA, tD⟩) ++ (([(L1 + 1 + 1 + 1, o1), (L1 + 1 + 1, o2), (L1 + 1, o3)] ++ rest) ++ ((L, oL) :: frs)), p.1 ≠ _ := fun p hp => Nat.ne_of_lt (lB p (perm3 (core := (coreOf ⟨aw, ah, ahd, ap, atd⟩ plans np ⟨κ, cur, tcc, thn, hn, ow, told, nt, tA, tD⟩)) p hp))
    have nE : ∀ p ∈ (coreOf ⟨aw, ah, ahd, ap, atd⟩ plans np ⟨κ, cur, tcc, thn, hn, ow, told, nt, tA, tD⟩) ++ (([(L1 + 1 + 1 + 1, o1), (L1 + 1 + 1, o2), (L1 + 1, o3)] ++ rest) ++ ((L, oL) :: frs)), p.1 ≠ e9 := fun p hp => ne9 p (.tail _ (.tail _ (perm3 (core := (coreOf ⟨aw, ah, ahd, ap, atd⟩ plans np ⟨κ, cur, tcc, thn, hn, ow, told, nt, tA, tD⟩)) p hp)))
    have nD : ∀ p ∈ (coreOf ⟨aw, ah, ahd, ap, atd⟩ plans np ⟨κ, cur, tcc, thn, hn, ow, told, nt, tA, tD⟩) ++ (([(L1 + 1 + 1 + 1, o1), (L1 + 1 + 1, o2), (L1 + 1, o3)] ++ rest) ++ ((L, oL) :: frs)), p.1 ≠ dx9 := fun p hp => nd9 p (.tail _ (.tail _ (perm3 (core := (coreOf ⟨aw, ah, ahd, ap, atd⟩ plans np ⟨κ, cur, tcc, thn, hn, ow, told, nt, tA, tD⟩)) p hp)))
    have AF3 : After w h₀ ⟨aw, ah, ahd, ap, atd⟩ plans np true L1 _ cur told rest ((L, oL) :: frs) [] _ ⟨κ, cur, tcc, thn, hn, ow, told, nt, tA, tD⟩ ((dx9, errDict a1 a2 a3 b1 b2 b3 (.ref _) tr9) :: (_, W.listOf #[] 0) :: [(L1 + 1 + 1 + 1, o1), (L1 + 1 + 1, o2), (L1 + 1, o3)]) ((L, oL) :: frs) :=
      ⟨SameUp.refl _, F9, News.sub N9 (perm5 (core := (coreOf ⟨aw, ah, ahd, ap, atd⟩ plans np ⟨κ, cur, tcc, thn, hn, ow, told, nt, tA, tD⟩))), ⟨hW, inv.tA.mono mono1, inv.tD.mono mono1⟩, rfl, ⟨[], (List.append_nil _).symm, .nil⟩, off_cons (off_new (o := default) nD (SameUp.refl _) (_, default) (.head _)) (off_cons (off_new (o := default) nB (SameUp.refl _) (_, default) (.head _)) (offM hM1 ltA))⟩
    refine ⟨e9, dx9, t9, _, 31, rfl, rfl, (N9 _ (.head _)).1, ⟨hd.heap_39 w.params, X.keeps F9.keep, by first | rfl | decide +kernel, rfl⟩, ?_⟩
    refine leaveErr O AF3 CC Y ⟨rfl, rfl, (by intro q; cases q), C.kind, C.L, CC.dict, C.frs⟩ (Y.coff hcore) (Y.roff hoff) (ns := []) rfl
      ⟨.inl (N9 _ (.head _)).1, (N9 _ (.head _)).2.2, fun p hp => ?_, ⟨a1, a2, a3, b1, b2, b3, _, tr9, .head _, ⟨_, [], 0, rfl, .tail _ (.head _), intsAre_nil⟩⟩⟩ rfl
    simp only [List.mem_append, List.mem_cons] at hp
    rcases hp with h | ((h | h | h) | h) | h
    · exact nE p (List.mem_append_left _ (by simpa using h))
    · rw [h]; exact Ne.symm (Nat.ne_of_lt le9)
    · rw [h]; exact ne9 _ (.tail _ (.head _))
    · exact nE p (List.mem_append_right _ (List.mem_append_left _ (List.mem_append_left _ (by simpa using h))))
    · exact nE p (List.mem_append_right _ (List.mem_append_left _ (List.mem_append_right _ h)))
    · exact nE p (List.mem_append_right _ (List.mem_append_right _ (by simpa using h)))
end
/-! part d2_all -/
section
theorem freshD2 : True := by
  w_top off
  trivial
/-! _law_done, for every list of plans -/
theorem done_all {w : World} {h₀ : Heap} {c : Ad} {plans : List Value} {np : Nat} {r : Bool} (B : Base w h₀ c plans) : ∀ (ps : List (Int × Bool)) (i : Nat), DoneC w h₀ c plans np r ps i
  | [], _ => done_nil B
  | (_, _) :: ps, i => done_cons B (done_all B ps (i + 1))
end
/-! part d3_stop -/
section
theorem freshD3 : True := by
  w_top off
  trivial
/-! where the walk is to stop -/
def Stop (p : Prop) : Prop := p
theorem Stop.mk {p : Prop} (h : Stop p) : p := h
theorem Stop.on {p : Prop} (h : p) : Stop p := h
def Going : Prop := True
end
/-! part d5_due -/
section
theorem freshD5 : True := by
  w_top off
  trivial
/-! _law_due: the plain law, told forward and back -/
noncomputable def nearAt (ps : List (Int × Bool)) : Nat → Option Int
  | 0 => none
  | k + 1 => numOf ((ps[k]?.map (·.1)).getD 0) (k : Int) (nearAt ps k)
def NumV (o : Option Int) (v : Value) : Prop := match o with | none => v = .none | some k => ∃ t, v = .int k t
noncomputable def numsTo (ps : List (Int × Bool)) (i : Nat) : List (Option Int) := (List.range i).map fun k => nearAt ps (k + 1)
theorem numsTo_succ {ps : List (Int × Bool)} {i : Nat} : numsTo ps (i + 1) = numsTo ps i ++ [nearAt ps (i + 1)] := by simp [numsTo, List.range_succ]
theorem numsTo_get {ps : List (Int × Bool)} {i k : Nat} (h : k < i) : (numsTo ps i)[k]? = some (nearAt ps (k + 1)) := by simp [numsTo, h]
theorem numsTo_len {ps : List (Int × Bool)} {i : Nat} : (numsTo ps i).length = i := by simp [numsTo]
theorem nearAt_succ {ps : List (Int × Bool)} {k : Nat} {f : Int} {b : Bool} (h : ps[k]? = some (f, b)) : nearAt ps (k + 1) = numOf f (k : Int) (nearAt ps k) := by
  show numOf ((ps[k]?.map (·.1)).getD 0) (k : Int) (nearAt ps k) = _
  rw [h]; rfl
theorem All2.get {α β : Type} {R : α → β → Prop} : ∀ {l : List α} {l' : List β}, All2 R l l' → ∀ {i : Nat} {a : α}, l[i]? = some a → ∃ b, l'[i]? = some b ∧ R a b
  | _, _, .nil, _, _, h => by simp at h
  | _, _, .cons r _, 0, _, h => by simp at h; exact ⟨_, rfl, h ▸ r⟩
  | _, _, .cons _ t, i + 1, _, h => t.get (i := i) (by simpa using h)
theorem run_at {r : Bool} {ps : List (Int × Bool)} {k : Nat} {f : Int} {b : Bool} (h : ps[k]? = some (f, b)) :
    run r (ps.drop k) (nearAt ps k) k = ((run r (ps.drop (k + 1)) (nearAt ps (k + 1)) ((k + 1 : Nat) : Int)).1 ++ [ansd (run r (ps.drop (k + 1)) (nearAt ps (k + 1)) ((k + 1 : Nat) : Int)).2 (nearAt ps (k + 1))],
      if b then ansd (run r (ps.drop (k + 1)) (nearAt ps (k + 1)) ((k + 1 : Nat) : Int)).2 (nearAt ps (k + 1)) else none) := by
  obtain ⟨hl, e⟩ := List.getElem?_eq_some_iff.mp h
  rw [List.drop_eq_getElem_cons hl, e, nearAt_succ h]
  rfl
theorem AllObj.mono : ∀ {ws : List (Addr × String)} {k k' : List (Addr × Obj) → Prop}, (∀ its, k its → k' its) → AllObj ws k → AllObj ws k'
  | [], _, _, g, h => g _ h
  | _ :: _, _, _, g, h => fun o ho => AllObj.mono (fun its x => g _ x) (h o ho)
theorem UnrPostW.mono {h₀ : Heap} {L : Addr} {s₁ s₂ : Shared} {its : List (Addr × Obj)} {rest rest' : (Str → Option Value) → List (Addr × Obj) → Prop} {Q : Flow → Shared → Prop} {f : Flow} (g : ∀ m n, rest m n → rest' m n) (h : UnrPostW h₀ L s₁ its rest Q f s₂) : UnrPostW h₀ L s₁ its rest' Q f s₂ := by
  cases f with
  | ret v => exact h
  | brk => exact h
  | next => obtain ⟨a, b, c, d, e1, e2, e3, e4, e5⟩ := h; exact ⟨a, b, c, d, e1, e2, e3, e4, g _ _ e5⟩
  | cont => obtain ⟨a, b, c, d, e1, e2, e3, e4, e5⟩ := h; exact ⟨a, b, c, d, e1, e2, e3, e4, g _ _ e5⟩
theorem enumTurns {prog : Program} {w : World} {A : Around} {E : Value → Shared → Prop} {s : Shared} {env : Env} {h₀ : Heap} {target : PySem.Expr} {body : List Stmt} {Q : Flow → Shared → Prop} {ws : List (Addr × String)} {keep : List (Addr × Obj)} {vs : List Value}
    (J : Nat → (Str → Option Value) → List (Addr × Obj) → Prop)
    (step : ∀ i x m news T t h tk, vs[i]? = some x → J i m news → IsTup h T #[.int (i : Int) t, x] → Fr h₀ env.locals h m → AllObj ws (fun its => News h₀ env.locals h (its ++ news) →
      wpAny (model prog w) A (assign target env (.ref T)) (fun _ s₂ => wpAny (model prog w) A (execs body env) (UnrPostW h₀ env.locals { s with heap := h, toks := tk } its (fun m' n' => SubL keep n' ∧ J (i + 1) m' n') Q) E s₂) E { s with heap := h, toks := tk }))
    (fin : ∀ m news h tk, J vs.length m news → Fr h₀ env.locals h m → News h₀ env.locals h news → Q .next { s with heap := h, toks := tk }) :
    ∀ r i m news, i + r.length = vs.length → vs.drop i = r → J i m news → ItemsRest prog w A E h₀ env target body Q s ws keep (enumItems i r) m news
  | [], i, m, news, hi, e, j => ItemsRest.zero fun h tk F N => fin m news h tk (by
      obtain rfl : i = vs.length := by simpa using hi
      exact j) F N
  | x :: r, i, m, news, hi, e, j => ItemsRest.pair fun T t h tk ht F => AllObj.mono (fun its g N => wpAny_mono (g N) (fun _ _ z => wpAny_mono z (fun f _ y => UnrPostW.mono (fun m' n' u => ⟨u.1, enumTurns J step fin r (i + 1) m' n' (by simp only [List.length_cons] at hi; omega) (by rw [← List.drop_drop, e]; rfl) u.2⟩) y) fun _ _ z => z) fun _ _ z => z)
      (step i x m news T t h tk (by have := congrArg (·[0]?) e; simpa using this) j ht F)
theorem UnrPost.mono {h₀ : Heap} {L I : Addr} {it : Obj} {s₁ s₂ : Shared} {rest rest' : (Str → Option Value) → List (Addr × Obj) → Prop} {Q : Flow → Shared → Prop} {f : Flow} (g : ∀ m n, rest m n → rest' m n) (h : UnrPost h₀ L s₁ I it rest Q f s₂) : UnrPost h₀ L s₁ I it rest' Q f s₂ := by
  cases f with
  | ret v => exact h
  | brk => exact h
  | next => obtain ⟨a, b, c, d, e1, e2, e3, e4, e5⟩ := h; exact ⟨a, b, c, d, e1, e2, e3, e4, g _ _ e5⟩
  | cont => obtain ⟨a, b, c, d, e1, e2, e3, e4, e5⟩ := h; exact ⟨a, b, c, d, e1, e2, e3, e4, g _ _ e5⟩
theorem rangeTurns {prog : Program} {w : World} {A : Around} {E : Value → Shared → Prop} {s : Shared} {env : Env} {h₀ : Heap} {x : Str} {body : List Stmt} {Q : Flow → Shared → Prop} {I : Addr} {a c : Int} {n : Nat}
    (J : Nat → (Str → Option Value) → List (Addr × Obj) → Prop)
    (step : ∀ i m news t h tk it, i < n → J i m news → Fr h₀ env.locals h (fun y => if y = x then some (.int (a + (i : Int) * c) t) else m y) → News h₀ env.locals h ((I, it) :: news) →
      wpAny (model prog w) A (execs body env) (UnrPost h₀ env.locals { s with heap := h, toks := tk } I it (J (i + 1)) Q) E { s with heap := h, toks := tk })
    (fin : ∀ m news h tk, J n m news → Fr h₀ env.locals h m → News h₀ env.locals h news → Q .next { s with heap := h, toks := tk }) :
    ∀ k i m news, i + k = n → J i m news → KrsRest prog w A E h₀ env x body Q s I a c n k i m news
  | 0, i, m, news, e, j => KrsRest.zero fun h tk F N => fin m news h tk (by
      obtain rfl : i = n := by simpa using e
      exact j) F N
  | k + 1, i, m, news, e, j => KrsRest.succ rfl fun t h tk F N => wpAny_mono (step i m news t h tk _ (by omega) j F N) (fun f _ y => UnrPost.mono (fun m' n' u => rangeTurns J step fin k (i + 1) m' n' (by omega) u) y) fun _ _ z => z
theorem All2.get2 {α β : Type} {R : α → β → Prop} : ∀ {l : List α} {l' : List β}, All2 R l l' → ∀ {i : Nat} {b : β}, l'[i]? = some b → ∃ a, l[i]? = some a ∧ R a b
  | _, _, .nil, _, _, h => by simp at h
  | _, _, .cons r _, 0, _, h => by simp at h; exact ⟨_, rfl, h ▸ r⟩
  | _, _, .cons _ t, i + 1, _, h => t.get2 (i := i) (by simpa using h)
theorem rng_back {n : Nat} (h : n ≤ 5) : Builtin.Range.small ((n : Int) - 1) (0 - 1) (0 - 1) = true ∧ Builtin.Range.rangeSize ((n : Int) - 1) (0 - 1) (0 - 1) = (n : Int) := by
  have : n = 0 ∨ n = 1 ∨ n = 2 ∨ n = 3 ∨ n = 4 ∨ n = 5 := by omega
  rcases this with rfl | rfl | rfl | rfl | rfl | rfl <;> exact ⟨by decide, by decide⟩
end
/-! part d6_due2 -/
section
theorem freshD6 : True := by
  w_top off
  trivial
local macro_rules | `(tactic| walk_at "exec For") => `(tactic| (refine Stop.mk ?_))
local macro_rules | `(tactic| walk_at "UnrPostW") => `(tactic| (refine Stop.mk ?_))
local macro_rules | `(tactic| walk_at "UnrPost") => `(tactic| (refine Stop.mk ?_))
local macro_rules | `(tactic| walk_at "pyIter ref") => `(tactic| (refine Stop.mk ?_))
local macro_rules | `(tactic| walk_at "eval IfExp") => `(tactic| ((fail_if_success (have : Going := by with_reducible assumption)); refine Stop.mk ?_))
local macro_rules | `(tactic| walk_at "exec For Name Call cons nil") => `(tactic| (refine Stop.mk ?_))
local macro_rules | `(tactic| walk_at "eval Name") => `(tactic| (k_here; k_dflt (refine' ld (by k_asm) (by assumption) ?_; k_whole)))
def DueJ (ps : List (Int × Bool)) (r : Bool) (n : Nat) (ap lN lD I2 : Addr) (base : List (Addr × Obj)) (j : Nat) (m : Str → Option Value) (news : List (Addr × Obj)) : Prop :=
  m (Str.ofString "plans") = some (.ref ap) ∧ m (Str.ofString "numbers") = some (.ref lN) ∧ m (Str.ofString "due") = some (.ref lD) ∧ ∃ v M ds c, m (Str.ofString "value") = some v ∧ news = (lD, W.listOf ds.toArray c) :: (M ++ base) ∧
    OV M (run r (ps.drop (n - j)) (nearAt ps (n - j)) ((n - j : Nat) : Int)).2 v ∧ All2 (OV M) (run r (ps.drop (n - j)) (nearAt ps (n - j)) ((n - j : Nat) : Int)).1 ds ∧ (∀ p ∈ M, ∀ q ∈ base, q.1 < p.1) ∧ ∀ p ∈ M, p.1 ≠ lD ∧ p.1 ≠ I2
theorem due_close {h₀ h' : Heap} {L1 : Addr} {s₁ : Shared} {ps : List (Int × Bool)} {r b : Bool} {n j kk : Nat} {f : Int} {ap lN lD I2 : Addr} {it oD : Obj} {base M nw tl2 : List (Addr × Obj)} {ds : List Value} {c tk' : Nat} {m' : Str → Option Value} {v1 v2 : Value}
    (hk : n - j = kk + 1) (hpk : ps[kk]? = some (f, b)) (htl : M ++ base = tl2) (hds : All2 (OV M) (run r (ps.drop (kk + 1)) (nearAt ps (kk + 1)) ((kk + 1 : Nat) : Int)).1 ds) (hM : ∀ p ∈ M, ∀ q ∈ base, q.1 < p.1) (hMD : ∀ p ∈ M, p.1 ≠ lD ∧ p.1 ≠ I2)
    (hbI : ∀ p ∈ base, p.1 ≠ I2) (hDI : lD ≠ I2)
    (F : Fr h₀ L1 h' m') (N : News h₀ L1 h' ((I2, it) :: (lD, W.listOf (ds ++ [v1]).toArray (c + 1)) :: (nw ++ tl2)))
    (hnw : ∀ p ∈ nw, ∀ q ∈ (I2, it) :: (lD, oD) :: tl2, q.1 < p.1)
    (g1 : m' (Str.ofString "plans") = some (.ref ap)) (g2 : m' (Str.ofString "numbers") = some (.ref lN)) (g3 : m' (Str.ofString "due") = some (.ref lD)) (g4 : m' (Str.ofString "value") = some v2)
    (hov : OV (nw ++ M) (ansd (run r (ps.drop (kk + 1)) (nearAt ps (kk + 1)) ((kk + 1 : Nat) : Int)).2 (nearAt ps (kk + 1))) v1) (hv2 : v2 = if b then v1 else .none) :
    UnrEnd h₀ L1 s₁ I2 it (DueJ ps r n ap lN lD I2 base (j + 1)) { s₁ with heap := h', toks := tk' } := by
  subst htl
  have e : n - (j + 1) = kk := by omega
  refine ⟨h', tk', m', (lD, W.listOf (ds ++ [v1]).toArray (c + 1)) :: ((nw ++ M) ++ base), rfl, F, by rw [List.append_assoc]; exact N, fun p hp => ?_, g1, g2, g3, v2, nw ++ M, ds ++ [v1], c + 1, g4, rfl, ?_, ?_, fun p hp q hq => ?_, fun p hp => ?_⟩
  · rcases List.mem_cons.mp hp with rfl | hp
    · exact hDI
    · rcases List.mem_append.mp hp with hp | hp
      · rcases List.mem_append.mp hp with hp | hp
        · exact Nat.ne_of_gt (hnw p hp _ (.head _))
        · exact (hMD p hp).2
      · exact hbI p hp
  · rw [e, run_at hpk, hv2]
    cases b
    · exact rfl
    · exact hov
  · rw [e, run_at hpk]
    exact All2.append (.cons hov .nil) (hds.mono fun _ _ x => x.mono fun p hp => List.mem_append_right _ hp)
  · rcases List.mem_append.mp hp with hp | hp
    · exact hnw p hp q (.tail _ (.tail _ (List.mem_append_right _ hq)))
    · exact hM p hp q hq
  · rcases List.mem_append.mp hp with hp | hp
    · exact ⟨Nat.ne_of_gt (hnw p hp _ (.tail _ (.head _))), Nat.ne_of_gt (hnw p hp _ (.head _))⟩
    · exact hMD p hp
theorem permD {I lD x y : Addr × Obj} {tl : List (Addr × Obj)} : ∀ p ∈ I :: lD :: ([x] ++ tl), p ∈ x :: y :: I :: lD :: tl := fun p hp => by
  simp only [List.mem_cons, List.mem_append, List.not_mem_nil, or_false] at hp ⊢
  rcases hp with h | h | h | h <;> simp [h]
theorem permE {a b d x : Addr × Obj} {M tl : List (Addr × Obj)} : ∀ p ∈ x :: (a :: ((M ++ [b]) ++ (d :: tl))), p ∈ a :: (M ++ (b :: x :: d :: tl)) := fun p hp => by
  simp only [List.mem_cons, List.mem_append, List.not_mem_nil, or_false] at hp ⊢
  rcases hp with h | h | (h | h) | h | h <;> simp [h]
theorem due0 {w : World} {fr : Option (List Env)} {gd : Option (List Code)} {E : Value → Shared → Prop} {s : Shared} {h₀ : Heap} {L : Addr} {m : Str → Option Value} {p : Program} {loose : List Str} {mean : ExcName → Option Value} {mg mb : Str → Option Value}
    {ap : Addr} {plans : List Value} {np : Nat} {r : Bool} {ps : List (Int × Bool)} {tl : List (Addr × Obj)} {Q : Value → Shared → Prop}
    (X : (hd.heap_39 w.params).In h₀) (T : Top p loose mean mg mb h₀) (F : Fr h₀ L s.heap m) (N : News h₀ L s.heap ((ap, W.listOf plans.toArray np) :: tl)) (hp : All2 (PlanV tl) ps plans) (hlen : plans.length ≤ 5) (htl : ∀ q ∈ tl, q.1 ≠ ap)
    (k : ∀ ds c D M h' tk, Fr h₀ L h' m → News h₀ L h' ((D, W.listOf ds.toArray c) :: (M ++ ((ap, W.listOf plans.toArray np) :: tl))) → All2 (OV M) (run r ps none 0).1 ds → (∀ p ∈ (D, default) :: M, ∀ q ∈ (L, default) :: (ap, W.listOf plans.toArray np) :: tl, q.1 < p.1) → Q (.ref D) { s with heap := h', toks := tk }) :
    wpAny (model PySem.Challenge.rw_rh0155_01.row.prog w) { handled := none, depth := 900, frames := fr, guards := gd, units := 9000 } (call (.ref 111) [.ref ap, .bool r]) Q E s := by
  have hfit5 : plans.toArray.size ≤ 1000 := by simp; omega
  refine wpAny_call ?_
  walk_at "MyEnter"
  rename_i L1 h1 oL CC F1 N1 l1 nL lL
  try k_fold
  k_steps
  refine Stop.on ?_
  rename News h₀ L1 _ _ => N2
  rename_i lN ha1 lA DT hb1 lB hc1 hd1 he1 FA
  have N3 : News h₀ L1 _ ((lN, W.listOf ([] : List Value).toArray 0) :: (L, oL) :: (ap, W.listOf plans.toArray np) :: tl) := News.sub N2 fun p hp => .tail _ hp
  refine For_turns (by assumption) ?_
  k_steps
  refine ktu_enum rfl (by assumption) N3 (.tail _ (.tail _ (.head _))) rfl rfl rfl fun I lI => ?_
  have g1 : lN < I := by
    have := lI _ (List.Mem.head _)
    exact this
  have g2 : lN ≠ I := Nat.ne_of_lt g1
  have g3 : lN ≠ I + 1 := Nat.ne_of_lt (Nat.lt_succ_of_lt g1)
  have off0 : ∀ {o : Obj} {oe oi : Obj}, ∀ p ∈ (lN, o) :: (L, oL) :: (ap, W.listOf plans.toArray np) :: tl, ∀ q ∈ [(I + 1, oe), (I, oi)], p.1 ≠ q.1 := fun p hp q hq => by
    have h1 : p.1 < I := by
      rcases List.mem_cons.mp hp with rfl | hp
      · exact g1
      · exact lI p (.tail _ hp)
    simp only [List.mem_cons, List.not_mem_nil, or_false] at hq
    rcases hq with rfl | rfl
    · exact Nat.ne_of_lt (Nat.lt_succ_of_lt h1)
    · exact Nat.ne_of_lt h1
  refine enumTurns (vs := plans) (fun i m₁ news => m₁ (Str.ofString "plans") = some (.ref ap) ∧ m₁ (Str.ofString "raises") = some (.bool r) ∧ m₁ (Str.ofString "numbers") = some (.ref lN) ∧ (∃ v, m₁ (Str.ofString "near") = some v ∧ NumV (nearAt ps i) v) ∧
      ∃ vs c, news = (lN, W.listOf vs.toArray c) :: (L, oL) :: (ap, W.listOf plans.toArray np) :: tl ∧ All2 NumV (numsTo ps i) vs) ?step ?fin plans 0 _ _ (Nat.zero_add _) rfl ⟨rfl, rfl, rfl, ⟨_, rfl, rfl⟩, [], 0, rfl, .nil⟩
  case step =>
    intro i x m₁ news TT t h tk hx hJ ht F3
    obtain ⟨j1, j2, j3, ⟨v, j4, hnv⟩, vs, c, rfl, hvs⟩ := hJ
    obtain ⟨⟨f, b⟩, hpi, hf012, tp, tf, rfl, htp⟩ := hp.get2 hx
    simp only at hf012 htp
    refine AllObj.cons fun oe hoe => AllObj.cons fun oi hoi => AllObj.nil fun N5 => ?_
    simp only [List.cons_append, List.nil_append] at N5
    have hLen : LenOk vs := by
      have h1 := hvs.len
      rw [numsTo_len] at h1
      have h2 : i < plans.length := (List.getElem?_eq_some_iff.mp hx).1
      show vs.length ≤ 200
      omega
    obtain ⟨hv, hget3, hnum⟩ : ∃ hv, #[Value.int (i : Int) t, Value.none, v][f.toNat]? = some hv ∧ NumV (nearAt ps (i + 1)) hv := by
      rw [nearAt_succ hpi]
      rcases hf012 with rfl | rfl | rfl
      · exact ⟨_, rfl, ⟨t, rfl⟩⟩
      · exact ⟨.none, rfl, rfl⟩
      · exact ⟨v, rfl, hnv⟩
    k_steps
    refine Stop.on ?_
    rename News h₀ L1 _ ((_, W.listOf _ _) :: (I + 1, _) :: _) => N9
    rename Fr h₀ L1 _ (fun y => if y = _ then some hv else _) => F9
    refine (show UnrEndW _ _ _ _ _ _ from ⟨_, _, _, (lN, W.listOf (vs ++ [hv]).toArray (c + 1)) :: (L, oL) :: (ap, W.listOf plans.toArray np) :: tl, rfl, F9, News.sub N9 fun p hp => .tail _ hp, off0, ⟨.tail _ (.tail _ (.head _)), trivial⟩, j1, j2, j3, ⟨hv, rfl, hnum⟩, vs ++ [hv], c + 1, rfl, ?_⟩)
    rw [numsTo_succ]
    exact All2.append (.cons hnum .nil) hvs
  case fin =>
    intro m₁ news h tk hJ F4 N4
    obtain ⟨j1, j2, j3, ⟨v, j4, hnv⟩, vs, c, rfl, hvs⟩ := hJ
    k_steps
    refine Stop.on ?_
    refine wpAny_mono (Q := fun v s' => Stop (∃ h' tk' ex, s' = ⟨h', s.gens, s.drawn, tk', s.os⟩ ∧ Fr h₀ L1 h' m₁ ∧ News h₀ L1 h' (ex ++ ((lN, W.listOf vs.toArray c) :: (L, oL) :: (ap, W.listOf plans.toArray np) :: tl)) ∧ OV ex (if r then some [] else none) v ∧
      ∀ p ∈ ex, ∀ q ∈ (lN, W.listOf vs.toArray c) :: (L, oL) :: (ap, W.listOf plans.toArray np) :: tl, q.1 < p.1)) ?a ?b (fun _ _ e => e)
    case a =>
      have hgo : Going := trivial
      cases r with
      | true =>
        k_steps
        rename_i nb hb9 Fb Nb lb
        exact Stop.on ⟨_, _, [(nb, W.listOf ([] : List Value).toArray 0)], rfl, Fb, Nb, ⟨nb, [], 0, rfl, .head _, intsAre_nil⟩, fun p hp q hq => by rw [List.mem_singleton.mp hp]; exact lb q hq⟩
      | false =>
        k_steps
        exact Stop.on ⟨_, _, [], rfl, by assumption, by assumption, rfl, fun p hp => absurd hp List.not_mem_nil⟩
    case b =>
      intro v0 s' ⟨h6, tk6, ex, hs, F6, N6, hov, hex⟩
      subst hs
      generalize htl2 : ex ++ ((lN, W.listOf vs.toArray c) :: (L, oL) :: (ap, W.listOf plans.toArray np) :: tl) = tl2 at N6
      have yap : (ap, W.listOf plans.toArray np) ∈ tl2 := htl2 ▸ List.mem_append_right _ (.tail _ (.tail _ (.head _)))
      k_steps
      refine Stop.on ?_
      refine' For_invV h₀ ?hx ?hp ?_ ?hs
      case hx => rfl
      case hp => rfl
      case hs => intro _; rfl
      k_steps
      refine Stop.on ?_
      rename_i lD xh5 lD1 DT2 xh4 lDT xh3 xh2 xh1 xF xN xh0 xtk xt xu xv aR aF aN aK
      have hn5 : plans.toArray.size ≤ 5 := by simpa using hlen
      have hnl : plans.toArray.size = plans.length := by simp
      have hpl := hp.len
      refine krs_iter (news := (lD, W.listOf ([] : List Value).toArray 0) :: tl2) rfl aR (rng_back hn5).1 (rng_back hn5).2 aF (News.sub aN fun p hp => .tail _ hp) fun I2 lI2 => ?_
      have hbI : ∀ p ∈ tl2, p.1 ≠ I2 := fun p hp => Nat.ne_of_lt (lI2 p (.tail _ hp))
      have hDI : lD ≠ I2 := Nat.ne_of_lt (lI2 _ (.head _))
      have hb2 : ∀ p ∈ (lN, W.listOf vs.toArray c) :: (L, oL) :: (ap, W.listOf plans.toArray np) :: tl, p ∈ tl2 := fun p hp => htl2 ▸ List.mem_append_right _ hp
      refine rangeTurns (n := plans.toArray.size) (DueJ ps r plans.toArray.size ap lN lD I2 ((lN, W.listOf vs.toArray c) :: (L, oL) :: (ap, W.listOf plans.toArray np) :: tl)) ?step2 ?fin2 _ 0 _ _ (Nat.zero_add _)
        ⟨j1, j3, rfl, v0, ex, [], 0, rfl, by rw [htl2], ?hov0, ?hds0, hex, fun p hp => ⟨Nat.ne_of_lt (lD1 p (htl2 ▸ List.mem_append_left _ hp)), hbI p (htl2 ▸ List.mem_append_left _ hp)⟩⟩
      case hov0 =>
        rw [Nat.sub_zero, List.drop_of_length_le (by omega)]
        exact hov
      case hds0 =>
        rw [Nat.sub_zero, List.drop_of_length_le (by omega)]
        exact .nil
      case fin2 =>
        intro m₂ news h tk hJ F7 N7
        obtain ⟨g1, g2, g3, v, M, ds, cD, g4, rfl, hov2, hds2, hM2, hMD⟩ := hJ
        k_steps
        have N8 : News h₀ L1 h ((L, oL) :: ((lD, W.listOf ds.toArray cD) :: ((M ++ [(lN, W.listOf vs.toArray c)]) ++ ((ap, W.listOf plans.toArray np) :: tl)))) := News.sub N7 permE
        have q1 : L < lD := lD1 _ (hb2 (L, oL) (.tail _ (.head _)))
        have q2 : L < lN := lA (L, oL) (.head _)
        refine leaveF CC F7 N8 (.head fun p hp => ?_) fun F' N' => ?_
        · rcases List.mem_cons.mp hp with rfl | hp
          · exact Nat.ne_of_gt q1
          · rcases List.mem_append.mp hp with hp | hp
            · rcases List.mem_append.mp hp with hp | hp
              · exact Nat.ne_of_gt (hM2 p hp (L, oL) (.tail _ (.head _)))
              · rw [List.mem_singleton.mp hp]; exact Nat.ne_of_gt q2
            · exact nL p hp
        · rw [Nat.sub_self] at hds2
          refine k ds cD lD (M ++ [(lN, W.listOf vs.toArray c)]) _ _ F' N' (hds2.mono fun _ _ x => x.mono fun p hp => List.mem_append_left _ hp) fun p hp q hq => ?_
          rcases List.mem_cons.mp hp with rfl | hp
          · rcases List.mem_cons.mp hq with rfl | hq
            · exact q1
            · exact lD1 q (hb2 q (.tail _ (.tail _ hq)))
          · rcases List.mem_append.mp hp with hp | hp
            · rcases List.mem_cons.mp hq with rfl | hq
              · exact hM2 p hp (L, oL) (.tail _ (.head _))
              · exact hM2 p hp q (.tail _ (.tail _ hq))
            · rw [List.mem_singleton.mp hp]
              rcases List.mem_cons.mp hq with rfl | hq
              · exact q2
              · exact lA q (.tail _ hq)
      case step2 =>
        intro j m₂ news t h tk it hj hJ F7 N7
        obtain ⟨g1, g2, g3, v, M, ds, cD, g4, rfl, hov2, hds2, hM2, hMD⟩ := hJ
        obtain ⟨kk, hkk⟩ : ∃ kk, plans.toArray.size - j = kk + 1 := ⟨plans.toArray.size - j - 1, by omega⟩
        rw [hkk] at hov2 hds2
        have hkl : kk < plans.length := by omega
        obtain ⟨x, hx⟩ : ∃ x, plans[kk]? = some x := ⟨plans[kk], List.getElem?_eq_getElem hkl⟩
        obtain ⟨⟨f, b⟩, hpk, hf012, tp, tf, rfl, htp⟩ := hp.get2 hx
        obtain ⟨hv, hvk, hnum⟩ := hvs.get (numsTo_get hkl)
        obtain ⟨at', hat⟩ : ∃ z : Int, ((plans.toArray.size : Nat) : Int) - 1 + (j : Int) * (0 - 1) = z := ⟨_, rfl⟩
        rw [hat] at F7
        have hat2 : at'.toNat = kk := by omega
        have hat0 : 0 ≤ at' := by omega
        have hgN : vs.toArray[at'.toNat]? = some hv := by rw [hat2]; simpa using hvk
        have hgP : plans.toArray[at'.toNat]? = some (.ref tp) := by rw [hat2]; simpa using hx
        have hLen : LenOk ds := by
          have h1 := hds2.len
          rw [run_ts_len, List.length_drop] at h1
          show ds.length ≤ 200
          omega
        generalize htl3 : M ++ ((lN, W.listOf vs.toArray c) :: (L, oL) :: (ap, W.listOf plans.toArray np) :: tl) = tl3 at N7
        have z1 : (lN, W.listOf vs.toArray c) ∈ tl3 := htl3 ▸ List.mem_append_right _ (.head _)
        have z2 : (ap, W.listOf plans.toArray np) ∈ tl3 := htl3 ▸ List.mem_append_right _ (.tail _ (.tail _ (.head _)))
        have z3 : (tp, _) ∈ tl3 := htl3 ▸ List.mem_append_right _ (.tail _ (.tail _ (.tail _ htp)))
        have z4 : ∀ p ∈ tl3, p.1 ≠ lD := fun p hp => by
          rw [← htl3] at hp
          rcases List.mem_append.mp hp with hp | hp
          · exact (hMD p hp).1
          · exact Nat.ne_of_lt (lD1 p (hb2 p hp))
        have hgo : Going := trivial
        cases hR : (run r (ps.drop (kk + 1)) (nearAt ps (kk + 1)) ((kk + 1 : Nat) : Int)).2 with
        | none =>
          rw [hR] at hov2
          have hv0 : v = .none := hov2
          subst hv0
          cases b with
          | true =>
            k_steps
            refine Stop.on ?_
            rename News h₀ L1 _ ((I2, it) :: (lD, _) :: tl3) => N9
            rename Fr h₀ L1 _ _ => F9
            exact due_close (nw := []) (oD := W.listOf ds.toArray cD) hkk hpk htl3 hds2 hM2 hMD (fun p hp => hbI p (hb2 p hp)) hDI F9 N9 (fun p hp => absurd hp List.not_mem_nil) g1 g2 g3 rfl (by rw [hR, ansd_none]; exact rfl) rfl
          | false =>
            k_steps
            refine Stop.on ?_
            rename News h₀ L1 _ ((I2, it) :: (lD, _) :: tl3) => N9
            rename Fr h₀ L1 _ _ => F9
            exact due_close (nw := []) (oD := W.listOf ds.toArray cD) hkk hpk htl3 hds2 hM2 hMD (fun p hp => hbI p (hb2 p hp)) hDI F9 N9 (fun p hp => absurd hp List.not_mem_nil) g1 g2 g3 rfl (by rw [hR, ansd_none]; exact rfl) rfl
        | some ns =>
          rw [hR] at hov2
          obtain ⟨bb, ws, nb, hv0, hbm, hI⟩ := hov2
          subst hv0
          have z5 : (bb, _) ∈ tl3 := htl3 ▸ List.mem_append_left _ hbm
          have hnsl : ns.length ≤ 64 := by
            have h1 := run_len hR
            rw [List.length_drop] at h1
            omega
          cases hN : nearAt ps (kk + 1) with
          | none =>
            rw [hN] at hnum
            have hv0 : hv = .none := hnum
            subst hv0
            cases b with
            | true =>
              k_steps
              refine Stop.on ?_
              rename News h₀ L1 _ ((I2, it) :: (lD, _) :: tl3) => N9
              rename Fr h₀ L1 _ _ => F9
              exact due_close (nw := []) (oD := W.listOf ds.toArray cD) hkk hpk htl3 hds2 hM2 hMD (fun p hp => hbI p (hb2 p hp)) hDI F9 N9 (fun p hp => absurd hp List.not_mem_nil) g1 g2 g3 rfl (by rw [hR, hN]; exact ⟨bb, ws, nb, rfl, hbm, hI⟩) rfl
            | false =>
              k_steps
              refine Stop.on ?_
              rename News h₀ L1 _ ((I2, it) :: (lD, _) :: tl3) => N9
              rename Fr h₀ L1 _ _ => F9
              exact due_close (nw := []) (oD := W.listOf ds.toArray cD) hkk hpk htl3 hds2 hM2 hMD (fun p hp => hbI p (hb2 p hp)) hDI F9 N9 (fun p hp => absurd hp List.not_mem_nil) g1 g2 g3 rfl (by rw [hR, hN]; exact ⟨bb, ws, nb, rfl, hbm, hI⟩) rfl
          | some q =>
            rw [hN] at hnum
            obtain ⟨tq, hv0⟩ := hnum
            subst hv0
            cases b with
            | true =>
              k_steps
              refine Stop.on ?_
              rename_i la xa lb nD wD xb xF1 xN1 lE hI9 xc xtk xd xe F9 N9
              exact due_close (nw := [(nD, W.listOf wD.toArray 0)]) (oD := W.listOf ds.toArray cD) hkk hpk htl3 hds2 hM2 hMD (fun p hp => hbI p (hb2 p hp)) hDI F9 (News.sub N9 permD) (fun p hp q hq => by rw [List.mem_singleton.mp hp]; exact lE q (.tail _ hq)) g1 g2 g3 rfl (by rw [hR, hN]; exact ⟨_, _, 0, rfl, .head _, hI9⟩) rfl
            | false =>
              k_steps
              refine Stop.on ?_
              rename_i la xa lb nD wD xb xF1 xN1 lE hI9 xc xtk xd xe F9 N9
              exact due_close (nw := [(nD, W.listOf wD.toArray 0)]) (oD := W.listOf ds.toArray cD) hkk hpk htl3 hds2 hM2 hMD (fun p hp => hbI p (hb2 p hp)) hDI F9 (News.sub N9 permD) (fun p hp q hq => by rw [List.mem_singleton.mp hp]; exact lE q (.tail _ hq)) g1 g2 g3 rfl (by rw [hR, hN]; exact ⟨_, _, 0, rfl, .head _, hI9⟩) rfl
theorem due {w : World} {A : Around} {E : Value → Shared → Prop} {s : Shared} {h₀ : Heap} {L : Addr} {m : Str → Option Value} {p : Program} {loose : List Str} {mean : ExcName → Option Value} {mg mb : Str → Option Value}
    {ap : Addr} {plans : List Value} {np : Nat} {r : Bool} {ps : List (Int × Bool)} {tl : List (Addr × Obj)} {Q : Value → Shared → Prop}
    (X : (hd.heap_39 w.params).In h₀) (T : Top p loose mean mg mb h₀) (hh : A.handled = none) (hdp : A.depth ≤ 900) (hun : A.units ≤ 9000) (F : Fr h₀ L s.heap m) (N : News h₀ L s.heap ((ap, W.listOf plans.toArray np) :: tl)) (hp : All2 (PlanV tl) ps plans) (hlen : plans.length ≤ 5) (htl : ∀ q ∈ tl, q.1 ≠ ap)
    (k : ∀ ds c D M h' tk, Fr h₀ L h' m → News h₀ L h' ((D, W.listOf ds.toArray c) :: (M ++ ((ap, W.listOf plans.toArray np) :: tl))) → All2 (OV M) (run r ps none 0).1 ds → (∀ p ∈ (D, default) :: M, ∀ q ∈ (L, default) :: (ap, W.listOf plans.toArray np) :: tl, q.1 < p.1) → Q (.ref D) { s with heap := h', toks := tk }) :
    wpAny (model PySem.Challenge.rw_rh0155_01.row.prog w) A (call (.ref 111) [.ref ap, .bool r]) Q E s := by
  obtain ⟨hdl, dp, fr, gd, un⟩ := A
  simp only at hh hdp hun
  subst hh
  exact wpAny_room (d := 900) (u := 9000) (due0 X T F N hp hlen htl k) hdp hun
end
/-! part e1_comp -/
section
theorem freshE1 : True := by
  w_top off
  trivial
/-! a comprehension's turns by an invariant -/
theorem compTurns {prog : Program} {w : World} {A : Around} {h₀ : Heap} {L : Addr} {m : Str → Option Value} {env : Env} {elt : PySem.Expr} {x : Str} {scope : Scope} {cl : List (Str × Addr)} {s : Shared} {S : List (Addr × Obj) → Prop} {P : Nat → Value → Prop}
    {Fin : List Value → List (Addr × Obj) → Prop} {n : Nat} (J : Nat → List Value → List (Addr × Obj) → Prop)
    (step : ∀ i ys news v I oI C oC D m₂ h tk (E' : Value → Shared → Prop), i < n → J i ys news → P i v → LCg.NsObj oC m₂ → m₂ x = some v → Fr h₀ L h m → News h₀ L h ((I, oI) :: (C, oC) :: (D, LCg.lst ys) :: news) → LCg.Off3 I C D news → ((@Ne Nat I C) ∧ (@Ne Nat I D) ∧ (@Ne Nat C D)) →
      wpAny (model prog w) A (eval elt (compEnvC scope cl C env)) (LCg.CompEnd h₀ L m { s with heap := h, toks := tk } I oI C oC D (LCg.lst ys) S (fun y news' => J (i + 1) (ys ++ [y]) news')) E' { s with heap := h, toks := tk })
    (fin : ∀ ys news, J n ys news → Fin ys news) : ∀ k i ys news, i + k = n → J i ys news → LCg.CompRest prog w A h₀ L m env elt x scope cl s S P Fin k i ys news
  | 0, i, ys, news, e, j => LCg.CompRest.zero (fin _ _ (by obtain rfl : i = n := by omega
                                                           exact j))
  | k + 1, i, ys, news, e, j => LCg.CompRest.succ fun v I oI C oC D m₂ h tk E' a1 a2 a3 a4 a5 a6 a7 =>
    wpAny_mono (step i ys news v I oI C oC D m₂ h tk E' (by omega) j a1 a2 a3 a4 a5 a6 a7) (fun _ _ ⟨h', tk, news', q1, q2, q3, q4, q5, q6⟩ => ⟨h', tk, news', q1, q2, q3, q4, q5, compTurns J step fin k (i + 1) _ _ (by omega) q6⟩) fun _ _ e => e
theorem rng_small (nn : Nat) (h : nn < 5) : Builtin.Range.small 0 (1 + (nn : Int)) 1 = true ∧ Builtin.Range.rangeSize 0 (1 + (nn : Int)) 1 = ((1 + nn : Nat) : Int) := by
  have : nn = 0 ∨ nn = 1 ∨ nn = 2 ∨ nn = 3 ∨ nn = 4 := by omega
  rcases this with rfl | rfl | rfl | rfl | rfl <;> exact ⟨by decide, by decide⟩
theorem sizeSmall {n : Nat} (h : n ≤ 1000) : n ≤ sizeLine := by rw [sizeLine_eq]; exact Nat.le_trans h (Nat.le_of_ble_eq_true (by with_unfolding_all rfl))
theorem perm53 {a b c d e : Addr × Obj} {tl : List (Addr × Obj)} : ∀ p ∈ d :: e :: a :: b :: c :: tl, p ∈ a :: b :: c :: d :: e :: tl := fun p hp => by
  simp only [List.mem_cons] at hp ⊢
  rcases hp with h | h | h | h | h | h <;> simp [h]
theorem perm6 {a b c d e f : Addr × Obj} {M r : List (Addr × Obj)} : ∀ p ∈ a :: b :: c :: d :: e :: ((f :: M) ++ r), p ∈ f :: d :: e :: a :: b :: c :: (M ++ r) := fun p hp => by
  simp only [List.mem_cons, List.mem_append] at hp ⊢
  rcases hp with h | h | h | h | h | (h | h) | h <;> simp [h]
theorem off1_mem {D : Addr} : ∀ {l : List (Addr × Obj)}, LCg.Off1 D l → ∀ p ∈ l, p.1 ≠ D
  | [], _, _, h => nomatch h
  | _ :: _, x, p, h => by
    rcases List.mem_cons.mp h with rfl | h
    · exact x.1
    · exact off1_mem x.2 p h
theorem News.pull {h₀ h : Heap} {L : Addr} {l1 l2 : List (Addr × Obj)} {a b : Addr × Obj} (N : News h₀ L h (l1 ++ a :: b :: l2)) : News h₀ L h (a :: b :: (l1 ++ l2)) := News.sub N fun p hp => by
  simp only [List.mem_cons, List.mem_append] at hp ⊢
  rcases hp with h | h | h | h <;> simp [h]
theorem permF {x a b c d e f g i j k l : Addr × Obj} {tl : List (Addr × Obj)} : ∀ p ∈ x :: a :: b :: c :: d :: e :: f :: g :: i :: j :: k :: l :: tl, p ∈ a :: b :: c :: d :: e :: f :: g :: i :: j :: k :: l :: x :: tl := fun p hp => by
  simp only [List.mem_cons] at hp ⊢
  rcases hp with h | h | h | h | h | h | h | h | h | h | h | h | h <;> simp [h]
end
/-! part e2_eq -/
section
theorem freshE2 : True := by
  w_top off
  trivial
/-! lists told alike are equal -/
theorem eqInts {A : Around} {s : Shared} {l b : Addr} {vs ws : List Value} {ns : List Int} (hl : s.heap.IsList l vs.toArray) (hb : s.heap.IsList b ws.toArray) (hI : IntsAre vs ns) (hJ : IntsAre ws ns) (hu : A.units < cLine) : PySem.SeqAt.RcAt A s (.ref l) (.ref b) true := by
  have h := PySem.SeqAt.RcAt.lists (A := A) (e := fun _ => true) hl hb (by simp [hI.length, hJ.length]) hu (fun j h1 h2 => by
    obtain ⟨n, t, e1, e2⟩ := hI.at j (vs.toArray[j]) (by simp)
    obtain ⟨n', t', e3, e4⟩ := hJ.at j (ws.toArray[j]) (by simp)
    rw [e2] at e4
    obtain rfl := Option.some.inj e4
    rw [e1, e3]
    have := PySem.SeqAt.EqAt.int_int (A := A.in1) (s := s) n t n t'
    rwa [beq_self_eq_true] at this)
  rwa [show ((List.range vs.toArray.size).all fun _ => true) = true from List.all_eq_true.mpr fun _ _ => rfl] at h
theorem eqOV {A : Around} {s : Shared} {h₀ : Heap} {L : Addr} {news x y : List (Addr × Obj)} {o : Option (List Int)} {v v' : Value} (N : News h₀ L s.heap news) (hx : ∀ p ∈ x, p ∈ news) (hy : ∀ p ∈ y, p ∈ news) (h1 : OV x o v) (h2 : OV y o v') (hu : A.units < cLine) : PySem.SeqAt.EqAt A s v v' true := by
  cases o with
  | none => rw [show v = .none from h1, show v' = .none from h2]; exact PySem.SeqAt.EqAt.same _
  | some ns =>
    obtain ⟨a, ws, n, rfl, hm, hI⟩ := h1
    obtain ⟨b, ws', n', rfl, hm', hI'⟩ := h2
    by_cases e : a = b
    · subst e; exact PySem.SeqAt.EqAt.same _
    · exact PySem.SeqAt.EqAt.of_refs e (eqInts (lstN N (hx _ hm)) (lstN N (hy _ hm')) hI hI' hu)
theorem eqRefs {prog : Program} {w : World} {A : Around} {E : Value → Shared → Prop} {s : Shared} {h₀ : Heap} {L : Addr} {news : List (Addr × Obj)} {l b : Addr} {vs ws : List Value} {n n' : Nat} {ns : List Int} {Q : Value → Shared → Prop} (N : News h₀ L s.heap news) (hl : (l, W.listOf vs.toArray n) ∈ news) (hb : (b, W.listOf ws.toArray n') ∈ news)
    (hI : IntsAre vs ns) (hJ : IntsAre ws ns) (hu : A.units < cLine) (h : Q (.bool true) s) : wpAny (model prog w) A (compareOp .Eq (.ref l) (.ref b)) Q E s :=
  eqInts (lstN N hl) (lstN N hb) hI hJ hu prog w E Q h
theorem All2.zip {α β γ : Type} {R : α → β → Prop} {S : α → γ → Prop} : ∀ {l : List α} {l1 : List β} {l2 : List γ}, All2 R l l1 → All2 S l l2 → ∀ (j : Nat) (h1 : j < l1.length) (h2 : j < l2.length), ∃ a, R a l1[j] ∧ S a l2[j]
  | _, _, _, .nil, .nil, _, h1, _ => absurd h1 (Nat.not_lt_zero _)
  | _, _, _, .cons r _, .cons s _, 0, _, _ => ⟨_, r, s⟩
  | _, _, _, .cons _ t, .cons _ u, j + 1, h1, h2 => All2.zip t u j (by simpa using h1) (by simpa using h2)
theorem eqTold {prog : Program} {w : World} {A : Around} {E : Value → Shared → Prop} {s : Shared} {h₀ : Heap} {L : Addr} {news x y : List (Addr × Obj)} {l b : Addr} {vs ws : List Value} {n n' : Nat} {ts : List (Option (List Int))} {Q : Value → Shared → Prop} (N : News h₀ L s.heap news) (hl : (l, W.listOf vs.toArray n) ∈ news) (hb : (b, W.listOf ws.toArray n') ∈ news)
    (h1 : All2 (OV x) ts vs) (h2 : All2 (OV y) ts ws) (hx : ∀ p ∈ x, p ∈ news) (hy : ∀ p ∈ y, p ∈ news) (hu : A.units < cLine) (hu1 : A.in1.units < cLine) (h : Q (.bool true) s) : wpAny (model prog w) A (compareOp .Eq (.ref l) (.ref b)) Q E s := by
  refine PySem.SeqAt.eq_listAt (e := fun _ => true) (lstN N hl) (lstN N hb) (by simp [← h1.len, ← h2.len]) hu (fun j g1 g2 => ?_) ?_
  · obtain ⟨o, a1, a2⟩ := All2.zip h1 h2 j (by simpa using g1) (by simpa using g2)
    exact eqOV N hx hy a1 a2 hu1
  · rw [show ((List.range vs.toArray.size).all fun _ => true) = true from List.all_eq_true.mpr fun _ _ => rfl]
    exact h
theorem permG {lD D atd st cc wdd DT lF lU lS ah ahd lG cS a b : Addr × Obj} {M2 M : List (Addr × Obj)} : ∀ p ∈ [wdd, ah, ahd, D, atd, a, b] ++ ((lD :: (M2 ++ M)) ++ []), p ∈ lD :: (M2 ++ (D :: atd :: st :: cc :: wdd :: DT :: lF :: lU :: lS :: ah :: ahd :: lG :: (M ++ [cS, a, b]))) := fun p hp => by
  simp only [List.mem_cons, List.mem_append, List.not_mem_nil, or_false] at hp ⊢
  rcases hp with (h | h | h | h | h | h | h) | h | h | h <;> simp [h]
theorem notAdr {c : Ad} {x : Addr} (h1 : x ≠ c.aw) (h2 : x ≠ c.ah) (h3 : x ≠ c.ahd) (h4 : x ≠ c.ap) (h5 : x ≠ c.atd) (h6 : x ≠ 85) (h7 : x ≠ 92) : x ∉ adrs c := fun hx => by
  simp only [adrs, List.mem_cons, List.not_mem_nil, or_false] at hx
  rcases hx with h | h | h | h | h | h | h
  · exact h1 h
  · exact h2 h
  · exact h3 h
  · exact h4 h
  · exact h5 h
  · exact h6 h
  · exact h7 h
theorem ndAdr {c : Ad} {B : Nat} (g1 : 85 ≠ c.aw) (g2 : 85 ≠ c.ah) (g3 : 85 ≠ c.ahd) (g4 : 85 ≠ c.ap) (g5 : 85 ≠ c.atd) (k1 : 92 ≠ c.aw) (k2 : 92 ≠ c.ah) (k3 : 92 ≠ c.ahd) (k4 : 92 ≠ c.ap) (k5 : 92 ≠ c.atd)
    (a1 : @LT.lt Nat _ c.ap B) (a2 : @LT.lt Nat _ B c.ahd) (a3 : @LT.lt Nat _ c.ahd c.ah) (a4 : @LT.lt Nat _ c.ah c.aw) (a5 : @LT.lt Nat _ c.aw c.atd) : (adrs c).Nodup := by
  have e1 : c.aw ≠ c.ah := neN (by omega)
  have e2 : c.aw ≠ c.ahd := neN (by omega)
  have e3 : c.aw ≠ c.ap := neN (by omega)
  have e4 : c.aw ≠ c.atd := neN (by omega)
  have e5 : c.ah ≠ c.ahd := neN (by omega)
  have e6 : c.ah ≠ c.ap := neN (by omega)
  have e7 : c.ah ≠ c.atd := neN (by omega)
  have e8 : c.ahd ≠ c.ap := neN (by omega)
  have e9 : c.ahd ≠ c.atd := neN (by omega)
  have e10 : c.ap ≠ c.atd := neN (by omega)
  simp only [adrs, List.nodup_cons, List.mem_cons, not_or, List.not_mem_nil, not_false_eq_true, List.nodup_nil, and_true]
  exact ⟨⟨e1, e2, e3, e4, Ne.symm g1, Ne.symm k1⟩, ⟨e5, e6, e7, Ne.symm g2, Ne.symm k2⟩, ⟨e8, e9, Ne.symm g3, Ne.symm k3⟩, ⟨e10, Ne.symm g4, Ne.symm k4⟩, ⟨Ne.symm g5, Ne.symm k5⟩, by decide⟩
theorem All2.last {α β : Type} {R : α → β → Prop} {a : α} : ∀ {ts : List α} {ds : List β}, All2 R (ts ++ [a]) ds → ∃ ds0 d, ds = ds0 ++ [d] ∧ R a d
  | [], _, .cons r .nil => ⟨[], _, rfl, r⟩
  | _ :: ts, _, .cons (b := b) _ t => by
    obtain ⟨ds0, d, rfl, r⟩ := All2.last (ts := ts) t
    exact ⟨b :: ds0, d, rfl, r⟩
theorem last_get {ds0 : List Value} {d : Value} : (ds0 ++ [d]).toArray[((((ds0 ++ [d]).toArray.size : Nat) : Int) - 1).toNat]? = some d := by
  have : ((((ds0 ++ [d]).toArray.size : Nat) : Int) - 1).toNat = ds0.length := by simp
  rw [this]
  simp
end
/-! part e9_law -/
section
theorem freshE9 : True := by
  w_top off
  trivial
local macro_rules | `(tactic| walk_at "exec Assign cons ListComp") => `(tactic| (k_here; lcf_look; k_dflt (refine LCg.Assign_ListComp_U (F₀ := by k_asm) (by rfl) (by with_unfolding_all rfl) (by with_unfolding_all rfl) (by decide) (by rfl) (by decide) (by rfl) (by rfl) (by rfl) ?_)))
local macro_rules | `(tactic| walk_at "call ref") => `(tactic| (k_here; (first | (with_reducible show wpAny _ _ (call (Value.ref 83) _) _ _ _) | (with_reducible show wpAny _ _ (call (Value.ref 111) _) _ _ _) | (with_reducible show wpAny _ _ (call (Value.ref 97) _) _ _ _)); refine Stop.mk ?_))
local macro_rules | `(tactic| walk_at "CompSrc") => `(tactic| (refine Stop.mk ?_))
local macro_rules | `(tactic| walk_at "CompEnd") => `(tactic| (refine Stop.mk ?_))
local macro_rules | `(tactic| walk_at "compareOp Eq ref ref") => `(tactic| (refine Stop.mk ?_))
local macro_rules | `(tactic| k_all) => `(tactic| ((repeat (refine List.forall_mem_cons.mpr ⟨neN (by dsimp only; omega), ?_⟩)); assumption))
theorem top0 : PySem.Challenge.rw_rh0155_01.Holds := by
  refine hd ?_
  k_go0
  all_goals try k_fold
  k_steps
  show wpAny _ _ (call (.ref 83) _) _ _ _
  rename_i cc ws hh2 lcl1 hI hlen hL st hh1 FF NN lst1 hh0 oS Fa N1 dst
  rename Shared => s1
  rename World => wd
  rename Frag.In _ (ghostOf _ _) => X1
  rename Top topProg _ _ _ _ _ => T1
  simp only [List.cons_append, List.nil_append] at N1
  have hlen64 := Nat.le_trans (Nat.le_of_eq hlen) (Nat.le_trans (Nat.min_le_left _ _) (by decide : 20 ≤ 64))
  have f1 : cc ≠ st := Nat.ne_of_lt (lst1 _ (.head _))
  have f2 : s1.heap.objs.size + 1 < cc := lcl1 _ (.head _)
  have f3 : 85 < cc := lcl1 (85, _) (.tail _ (.head _))
  have f4 : 92 < cc := lcl1 (92, _) (.tail _ (.tail _ (.head _)))
  have f5 : cc < st := lst1 (cc, _) (.head _)
  refine poked X1 T1 rfl (Nat.le_of_ble_eq_true rfl) (Nat.le_of_ble_eq_true rfl) (by assumption) N1 hI hlen64 (by decide) (by decide) (by decide) (by decide) f1 (fun q hq => ?tl) ?_
  case tl =>
    simp only [List.mem_cons, List.not_mem_nil, or_false] at hq
    rcases hq with rfl | rfl | rfl
    · exact Nat.ne_of_lt (Nat.lt_trans f2 f5)
    · exact Nat.ne_of_lt (Nat.lt_trans f3 f5)
    · exact Nat.ne_of_lt (Nat.lt_trans f4 f5)
  intro nv ntv t2 n2 h2 tk2 hnv0 hnv5 F2 N2
  k_steps
  obtain ⟨nn, hnn⟩ : ∃ nn : Nat, nv = (nn : Int) := ⟨nv.toNat, (Int.toNat_of_nonneg hnv0).symm⟩
  subst hnn
  have hnn5 : nn < 5 := by omega
  refine Stop.on ?_
  refine LCg.CompSrc.range (n := 1 + nn) rfl (by assumption) (by assumption) (by assumption) (rng_small nn hnn5).1 (rng_small nn hnn5).2 (sizeSmall (by omega)) ?_
  intro g
  refine compTurns (n := 1 + nn) (fun i ys news => ∃ M pl t n1 turn, turn = 1 + 2 * (i : Int) ∧ news = (st, W.listOf #[.ref cc, .int turn t] n1) :: (cc, W.listOf ws.toArray 0) :: (M ++ [(s1.heap.objs.size + 1, oS), (85, tabObj #[]), (92, tabObj #[])]) ∧ ys.length = i ∧ All2 (PlanV M) pl ys ∧ ∀ p ∈ M, ∀ a ∈ [st, cc, s1.heap.objs.size + 1, 85, 92], a < p.1)
    ?step ?fin (1 + nn) 0 [] _ (by omega) ⟨[], [], _, _, _, rfl, rfl, rfl, .nil, fun p hp => absurd hp List.not_mem_nil⟩
  case step =>
    intro i ys news v I oI C oC D m₂ h tk E' hi hJ hv hC hx F N off ne
    obtain ⟨M, pl, t, n1, turn, hturn, rfl, hyl, hpl, hM⟩ := hJ
    obtain ⟨tt, rfl⟩ := hv
    have o3 := off.mem
    have f6 : ∀ q ∈ M ++ [(s1.heap.objs.size + 1, oS), (85, tabObj #[]), (92, tabObj #[])], q.1 ≠ st := fun q hq => by
      rcases List.mem_append.mp hq with hq | hq
      · exact Nat.ne_of_gt (hM q hq st (.head _))
      · simp only [List.mem_cons, List.not_mem_nil, or_false] at hq
        rcases hq with rfl | rfl | rfl
        · exact Nat.ne_of_lt (Nat.lt_trans f2 f5)
        · exact Nat.ne_of_lt (Nat.lt_trans f3 f5)
        · exact Nat.ne_of_lt (Nat.lt_trans f4 f5)
    have f7 := o3 _ (.head _)
    have f8 : ∀ q ∈ (I, oI) :: (C, oC) :: (D, LCg.lst ys) :: (M ++ [(s1.heap.objs.size + 1, oS), (85, tabObj #[]), (92, tabObj #[])]), q.1 ≠ st := fun q hq => by
      rcases List.mem_cons.mp hq with rfl | hq
      · exact Ne.symm f7.1
      · rcases List.mem_cons.mp hq with rfl | hq
        · exact Ne.symm f7.2.1
        · rcases List.mem_cons.mp hq with rfl | hq
          · exact Ne.symm f7.2.2
          · exact f6 q hq
    generalize htl : M ++ [(s1.heap.objs.size + 1, oS), (85, tabObj #[]), (92, tabObj #[])] = tl at N f8
    have hsc : (s1.heap.objs.size + 1, oS) ∈ tl := htl ▸ List.mem_append_right _ (.head _)
    k_steps
    refine Stop.on ?_
    refine poked (tl := (I, oI) :: (C, oC) :: (D, LCg.lst ys) :: tl) X1 T1 rfl (Nat.le_of_ble_eq_true rfl) (Nat.le_of_ble_eq_true rfl) F (News.sub N perm53) hI hlen64 (by omega) (by omega) (by decide) (by decide) f1 f8 ?_
    intro u1 tu1 t3 n3 h3 tk3 a1 a2 F3 N3
    k_steps
    refine Stop.on ?_
    refine poked (tl := (I, oI) :: (C, oC) :: (D, LCg.lst ys) :: tl) X1 T1 rfl (Nat.le_of_ble_eq_true rfl) (Nat.le_of_ble_eq_true rfl) F3 N3 hI hlen64 (by omega) (by omega) (by decide) (by decide) f1 f8 ?_
    intro u2 tu2 t4 n4 h4 tk4 b1 b2 F4 N4
    k_steps
    rename_i T hT5 FT NT lT
    subst htl
    refine Stop.on ?_
    refine LCg.CompEnd.intro FT NT ((st, W.listOf #[.ref cc, .int (turn + 1 + 1) t4] n4) :: (cc, W.listOf ws.toArray 0) :: (((T, ({ cls := .type "tuple", data := .seq #[.int u1 tu1, .bool (u2 == 0)] } : Obj)) :: M) ++ [(s1.heap.objs.size + 1, oS), (85, tabObj #[]), (92, tabObj #[])])) perm6 (LCg.Off3.of fun p hp => ?off) trivial
      ⟨(T, _) :: M, pl ++ [(u1, u2 == 0)], t4, n4, turn + 1 + 1, by omega, rfl, by simp [hyl], All2.append (.cons ⟨by omega, T, tu1, rfl, .head _⟩ .nil) (hpl.mono fun _ _ z => z.mono fun p hp => .tail _ hp), fun p hp a ha => ?hM⟩
    case off =>
      rcases List.mem_cons.mp hp with rfl | hp
      · exact f7
      · rcases List.mem_cons.mp hp with rfl | hp
        · exact o3 _ (.tail _ (.head _))
        · rcases List.mem_cons.mp hp with rfl | hp
          · exact ⟨Nat.ne_of_gt (lT (I, oI) (.tail _ (.tail _ (.head _)))), Nat.ne_of_gt (lT (C, oC) (.tail _ (.tail _ (.tail _ (.head _))))), Nat.ne_of_gt (lT (D, LCg.lst ys) (.tail _ (.tail _ (.tail _ (.tail _ (.head _))))))⟩
          · exact o3 _ (.tail _ (.tail _ hp))
    case hM =>
      rcases List.mem_cons.mp hp with rfl | hp
      · simp only [List.mem_cons, List.not_mem_nil, or_false] at ha
        rcases ha with rfl | rfl | rfl | rfl | rfl
        · exact lT (_, _) (.head _)
        · exact lT (_, _) (.tail _ (.head _))
        · exact lT (_, oS) (.tail _ (.tail _ (.tail _ (.tail _ (.tail _ (List.mem_append_right _ (.head _)))))))
        · exact lT (85, tabObj #[]) (.tail _ (.tail _ (.tail _ (.tail _ (.tail _ (List.mem_append_right _ (.tail _ (.head _))))))))
        · exact lT (92, tabObj #[]) (.tail _ (.tail _ (.tail _ (.tail _ (.tail _ (List.mem_append_right _ (.tail _ (.tail _ (.head _)))))))))
      · exact hM p hp a ha
  case fin =>
    intro ys news hJ
    obtain ⟨M, pl, t, n1, turn, hturn, rfl, hyl, hpl, hM⟩ := hJ
    unfold LCg.FinA
    intro D hD tkD FD ND oD
    have oD1 := off1_mem oD
    have f6 : ∀ q ∈ M ++ [(s1.heap.objs.size + 1, oS), (85, tabObj #[]), (92, tabObj #[])], q.1 ≠ st := fun q hq => by
      rcases List.mem_append.mp hq with hq | hq
      · exact Nat.ne_of_gt (hM q hq st (.head _))
      · simp only [List.mem_cons, List.not_mem_nil, or_false] at hq
        rcases hq with rfl | rfl | rfl
        · exact Nat.ne_of_lt (Nat.lt_trans f2 f5)
        · exact Nat.ne_of_lt (Nat.lt_trans f3 f5)
        · exact Nat.ne_of_lt (Nat.lt_trans f4 f5)
    generalize htl : M ++ [(s1.heap.objs.size + 1, oS), (85, tabObj #[]), (92, tabObj #[])] = tl at ND f6 oD1
    have hsc : (s1.heap.objs.size + 1, oS) ∈ tl := htl ▸ List.mem_append_right _ (.head _)
    k_steps
    rename_i lG hG oG ah ahd hA oA oAX gX LX hX BX XX TX tkA lS cS hS oS2 hU0 tkB lU hU oU hV1 tkC hV2 hV3 FV1 NV1 TcV kXV hF0 tkD lF hF oF DT hT oT hT1 hT2 hT3 hT4 hT5 FT1 NT1 wdd hW owd FW NW lW loW hwd0
    have r0 : ∀ p ∈ (D, LCg.lst ys) :: (st, W.listOf #[.ref cc, .int turn t] n1) :: (cc, W.listOf ws.toArray 0) :: tl, @LT.lt Nat _ p.1 lG := oG
    have g2 : @LT.lt Nat _ (s1.heap.objs.size + 1) cc := f2
    have g3 : @LT.lt Nat _ 85 cc := f3
    have g4 : @LT.lt Nat _ 92 cc := f4
    have g5 : @LT.lt Nat _ cc st := f5
    have r1 : @LT.lt Nat _ lG ahd := oA _ (.head _)
    have r2 : @LT.lt Nat _ ahd ah := oAX
    have r3 : @LT.lt Nat _ ah lS := oS2 _ (.head _)
    have r4 : @LT.lt Nat _ lS lU := oU _ (.head _)
    have r5 : @LT.lt Nat _ lU lF := oF _ (.head _)
    have r6 : @LT.lt Nat _ lF DT := oT _ (.head _)
    have r7 : @LT.lt Nat _ DT wdd := lW _ (.head _)
    have r8 : @LT.lt Nat _ st lG := r0 _ (.tail _ (.head _))
    have r9 : @LT.lt Nat _ D lG := r0 _ (.head _)
    have tW : ∀ p ∈ tl, p.1 ≠ wdd := fun p hp => neN (by have := r0 p (.tail _ (.tail _ (.tail _ hp))); omega)
    clear oG oA oAX oS2 oU oF oT lW NV1 NT1 FV1 FT1
    refine Stop.on ?_
    obtain ⟨κ, cct, hnt, NW2⟩ : ∃ κ cct hnt, News _ _ _ ((wdd, owd) :: (DT, _) :: (lF, _) :: (lU, _) :: (lS, _) :: (ah, instObj 72 ahd) :: (ahd, hdict κ .none (.int 0 cct) (.int 0 hnt)) :: (lG, _) :: (D, LCg.lst ys) :: (st, W.listOf #[.ref cc, .int turn t] n1) :: (cc, W.listOf ws.toArray 0) :: tl) := ⟨⟨_, _, _, _, _, _, _, _, _, _, _, _, _, _, _, _, _, _, _, _⟩, _, _, NW⟩
    clear NW
    have NW3 := News.pull (l1 := [_, _, _, _, _, _, _, _, _]) (a := (st, W.listOf #[.ref cc, .int turn t] n1)) (b := (cc, W.listOf ws.toArray 0)) (l2 := tl) NW2
    clear NW2
    refine poked (turn := turn) (t1 := t) (n1 := n1) (n2 := 0) X1 T1 rfl (Nat.le_of_ble_eq_true rfl) (Nat.le_of_ble_eq_true rfl) (by assumption) NW3 hI hlen64 (by omega) (by omega) (by decide) (by decide) f1 ?f9 ?_
    case f9 =>
      iterate 8 refine List.forall_mem_cons.mpr ⟨neN (by dsimp only; omega), ?_⟩
      refine List.forall_mem_cons.mpr ⟨Ne.symm (oD1 _ (.head _)), ?_⟩
      exact f6
    intro rv rtv t5 n5 h5 tk5 hr0 hr3 F5 N5
    simp only [List.cons_append, List.nil_append] at N5
    k_steps
    rename_i atd hx1 lT hx2 ow hwd hx3 FL NL
    have r10 : @LT.lt Nat _ wdd atd := lT _ (.tail _ (.tail _ (.head _)))
    clear lT
    refine Stop.on ?_
    have hyn : ys.length ≤ 5 := by omega
    refine due (tl := (atd, _) :: (st, _) :: (cc, _) :: (wdd, ow) :: (DT, _) :: (lF, _) :: (lU, _) :: (lS, _) :: (ah, instObj 72 ahd) :: (ahd, _) :: (lG, _) :: tl) (ps := pl) (r := decide (0 < rv)) X1 T1 rfl (Nat.le_of_ble_eq_true rfl) (Nat.le_of_ble_eq_true rfl) FL (News.sub NL permF) ?hpl hyn ?htl ?_
    case hpl => exact hpl.mono fun _ _ z => z.mono fun p hp => (.tail _ (.tail _ (.tail _ (.tail _ (.tail _ (.tail _ (.tail _ (.tail _ (.tail _ (.tail _ (.tail _ (htl ▸ List.mem_append_left _ hp)))))))))))) 
    case htl =>
      refine List.forall_mem_cons.mpr ⟨neN (by dsimp only; omega), ?_⟩
      refine List.forall_mem_cons.mpr ⟨by have := oD1 _ (List.Mem.head _); exact this, ?_⟩
      refine List.forall_mem_cons.mpr ⟨by have := oD1 _ (List.Mem.tail _ (List.Mem.head _)); exact this, ?_⟩
      iterate 8 refine List.forall_mem_cons.mpr ⟨neN (by dsimp only; omega), ?_⟩
      exact fun p hp => oD1 p (.tail _ (.tail _ hp))
    intro ds cd lD M2 h6 tk6 F6 N6 hds hord
    k_steps
    refine wpAny_Try_except ?_
    k_steps
    refine Stop.on ?_
    rename Fr _ _ _ (fun y => if y = Str.ofString "due" then _ else _) => F6x
    rename News _ _ _ ((lD, _) :: _) => N6x
    subst htl
    have big : ∀ p ∈ (lD, default) :: M2, @LT.lt Nat _ atd p.1 ∧ @LT.lt Nat _ wdd p.1 ∧ @LT.lt Nat _ ah p.1 ∧ @LT.lt Nat _ ahd p.1 ∧ @LT.lt Nat _ D p.1 ∧ @LT.lt Nat _ 85 p.1 ∧ @LT.lt Nat _ 92 p.1 := fun p hp => by
      have z1 : @LT.lt Nat _ atd p.1 := hord p hp (atd, _) (.tail _ (.tail _ (.head _)))
      exact ⟨z1, by omega, by omega, by omega, by omega, by omega, by omega⟩
    have mid : ∀ p ∈ M, @LT.lt Nat _ p.1 lG ∧ p.1 ≠ D ∧ @LT.lt Nat _ 92 p.1 ∧ @LT.lt Nat _ 85 p.1 := fun p hp =>
      ⟨r0 p (.tail _ (.tail _ (.tail _ (List.mem_append_left _ hp)))), oD1 p (.tail _ (.tail _ (List.mem_append_left _ hp))), hM p hp 92 (by simp), hM p hp 85 (by simp)⟩
    have c85 : (85 : Addr) ≠ D := by have := oD1 (85, tabObj #[]) (.tail _ (.tail _ (List.mem_append_right _ (.tail _ (.head _))))); exact this
    have c92 : (92 : Addr) ≠ D := by have := oD1 (92, tabObj #[]) (.tail _ (.tail _ (List.mem_append_right _ (.tail _ (.tail _ (.head _)))))); exact this
    have ndc : (adrs ⟨wdd, ah, ahd, D, atd⟩).Nodup := ndAdr (B := lG) (neN (by dsimp only; omega)) (neN (by dsimp only; omega)) (neN (by dsimp only; omega)) c85 (neN (by dsimp only; omega)) (neN (by dsimp only; omega)) (neN (by dsimp only; omega)) (neN (by dsimp only; omega)) c92 (neN (by dsimp only; omega)) r9 r1 r2 (by dsimp only; omega) r10
    have BB : Base wd (ghostOf s1.heap [(89, 85), (96, 92)]) ⟨wdd, ah, ahd, D, atd⟩ ys := ⟨X1, ⟨_, _, _, _, _, T1⟩, by assumption, by assumption, ndc, hyn⟩
    have offR : Off (((lD, W.listOf ds.toArray cd) :: (M2 ++ M)) ++ []) (adrs ⟨wdd, ah, ahd, D, atd⟩) := fun p hp => by
      rw [List.append_nil] at hp
      have big2 : ∀ q : Addr, (∃ o, (q, o) ∈ (lD, default) :: M2) → q ∉ adrs ⟨wdd, ah, ahd, D, atd⟩ := fun q ⟨o, ho⟩ => by
        have z := big _ ho
        exact notAdr (neN (by (try dsimp only at z ⊢); omega)) (neN (by (try dsimp only at z ⊢); omega)) (neN (by (try dsimp only at z ⊢); omega)) (neN (by (try dsimp only at z ⊢); omega)) (neN (by (try dsimp only at z ⊢); omega)) (neN (by (try dsimp only at z ⊢); omega)) (neN (by (try dsimp only at z ⊢); omega))
      rcases List.mem_cons.mp hp with rfl | hp
      · exact big2 _ ⟨_, .head _⟩
      · rcases List.mem_append.mp hp with hp | hp
        · exact big2 p.1 ⟨p.2, .tail _ hp⟩
        · have z := mid p hp
          exact notAdr (neN (by (try dsimp only); omega)) (neN (by (try dsimp only); omega)) (neN (by (try dsimp only); omega)) z.2.1 (neN (by (try dsimp only); omega)) (neN (by (try dsimp only); omega)) (neN (by (try dsimp only); omega))
    have hpln := hpl.len
    obtain ⟨f, b, pl', y0, ys', hpe, hye, hp0⟩ : ∃ f b pl' y0 ys', pl = (f, b) :: pl' ∧ ys = y0 :: ys' ∧ PlanV M (f, b) y0 := by
      cases hpl with
      | nil => simp at hyl; omega
      | cons q _ => exact ⟨_, _, _, _, _, rfl, rfl, q⟩
    obtain ⟨_, tp, tf, hy0, htp⟩ := hp0
    obtain ⟨fd, hfd⟩ : ∃ fd, fd = ansd (run (decide (0 < rv)) pl' (numOf f 0 none) (0 + 1)).2 (numOf f 0 none) := ⟨_, rfl⟩
    have hrun2 : (run (decide (0 < rv)) pl none ((0 : Nat) : Int)).2 = if b then fd else none := by rw [hpe, hfd]; rfl
    obtain ⟨dl, hgetd, hdl, hsz1⟩ : ∃ dl, ds.toArray[(((ds.toArray.size : Nat) : Int) - 1).toNat]? = some dl ∧ OV M2 fd dl ∧ 1 ≤ ds.toArray.size := by
      have q : All2 (OV M2) ((run (decide (0 < rv)) pl' (numOf f 0 none) (0 + 1)).1 ++ [fd]) ds := by rw [hfd]; rw [hpe] at hds; exact hds
      obtain ⟨ds0, d, rfl, q2⟩ := q.last
      exact ⟨d, last_get, q2, by simp⟩
    have hsz2 : ds.toArray.size ≤ 1000 := by
      have q := hds.len
      rw [run_ts_len] at q
      simp only [List.size_toArray]
      omega
    have hgetp : ys.toArray[Int.toNat 0]? = some (.ref tp) := by rw [hye, hy0]; rfl
    refine done_all (w := wd) (c := ⟨wdd, ah, ahd, D, atd⟩) (plans := ys) (np := ys.length) (r := decide (0 < rv)) BB pl 0 _ _ _ _ _ none ⟨κ, .none, cct, hnt, 0, ow, [], 0, #[], #[]⟩ ((lD, W.listOf ds.toArray cd) :: (M2 ++ M)) [] _ _ _ _ rfl ?ddp ?dun (Nat.zero_le _) ⟨rfl, rfl, (by intro q; cases q), trivial⟩
      ⟨F6x, News.sub N6x permG, ⟨hwd, .inl rfl, .inl rfl⟩, rfl, hpl.mono (fun _ _ z => z.mono fun p hp => .tail _ (List.mem_append_right _ hp)), offR, fun p hp hx => by cases hx⟩ ⟨fun hn h' tk σ' more frs' AF => ?_, fun ns hns h' tk σ' more frs' e dx t AF ER => ?_⟩
    case ddp => exact Nat.le_trans (Nat.add_le_add_right (m := 310) (Nat.le_of_ble_eq_true rfl) _) (by omega)
    case dun => exact Nat.le_trans (Nat.add_le_add_right (m := 500) (Nat.le_of_ble_eq_true rfl) _) (by omega)
    · obtain ⟨κ', cur', tcc', thn', hn', ow', told', nt', tA', tD'⟩ := σ'
      obtain rfl : frs' = [] := by
        cases frs' with
        | nil => rfl
        | cons _ _ => exact False.elim AF.su
      have N7 := AF.N
      have F7 := AF.F
      obtain rfl : cur' = .none := AF.cur
      have hW7 := AF.inv.ow
      simp only at hW7
      obtain ⟨vsT, hvsT, hallT⟩ := AF.told
      obtain rfl : told' = vsT := by simpa using hvsT
      have z1 : (lD, W.listOf ds.toArray cd) ∈ (more ++ ((lD, W.listOf ds.toArray cd) :: (M2 ++ M))) ++ [] := List.mem_append_left _ (List.mem_append_right _ (.head _))
      have z2 : (tp, _) ∈ (more ++ ((lD, W.listOf ds.toArray cd) :: (M2 ++ M))) ++ [] := List.mem_append_left _ (List.mem_append_right _ (.tail _ (List.mem_append_right _ htp)))
      have z4 : ∀ p ∈ more ++ ((lD, W.listOf ds.toArray cd) :: (M2 ++ M)), p ∈ (more ++ ((lD, W.listOf ds.toArray cd) :: (M2 ++ M))) ++ [] := fun p hp => List.mem_append_left _ hp
      have z5 : ∀ p ∈ M2, p ∈ (more ++ ((lD, W.listOf ds.toArray cd) :: (M2 ++ M))) ++ [] := fun p hp => List.mem_append_left _ (List.mem_append_right _ (.tail _ (List.mem_append_left _ hp)))
      generalize htl8 : (more ++ ((lD, W.listOf ds.toArray cd) :: (M2 ++ M))) ++ [] = tl8 at N7 z1 z2 z4 z5
      simp only [coreOf, List.cons_append, List.nil_append] at N7
      rw [hrun2] at hn
      cases fd with
      | none =>
        obtain rfl : dl = .none := hdl
        k_steps
        refine Stop.on ?_
        refine eqTold (by k_asm) (by k_mem) (by k_mem) hallT hds (fun p hp => .tail _ (.tail _ (.tail _ (.tail _ (.tail _ (.tail _ (.tail _ (z4 p hp)))))))) (fun p hp => .tail _ (.tail _ (.tail _ (.tail _ (.tail _ (.tail _ (.tail _ (z5 p hp)))))))) (Nat.lt_of_le_of_lt (m := 9000) (Nat.le_of_ble_eq_true rfl) (by decide)) (Nat.lt_of_le_of_lt (m := 9000) (Nat.le_of_ble_eq_true rfl) (by decide)) ?_
        k_steps
      | some ns =>
        cases b with
        | true => exact absurd hn (by simp)
        | false =>
          obtain ⟨bb, ws9, nb, rfl, hbm, hbI⟩ := hdl
          have z3 := z5 _ hbm
          simp only at z2
          k_steps
          refine Stop.on ?_
          refine eqTold (by k_asm) (by k_mem) (by k_mem) hallT hds (fun p hp => .tail _ (.tail _ (.tail _ (.tail _ (.tail _ (.tail _ (.tail _ (z4 p hp)))))))) (fun p hp => .tail _ (.tail _ (.tail _ (.tail _ (.tail _ (.tail _ (.tail _ (z5 p hp)))))))) (Nat.lt_of_le_of_lt (m := 9000) (Nat.le_of_ble_eq_true rfl) (by decide)) (Nat.lt_of_le_of_lt (m := 9000) (Nat.le_of_ble_eq_true rfl) (by decide)) ?_
          k_steps
    · obtain rfl : frs' = [] := by
        cases frs' with
        | nil => rfl
        | cons _ _ => exact False.elim AF.su
      obtain ⟨h1, h2, h3, k1, k2, k3, vv, tr, hdx, hvv⟩ := ER.val
      rw [hrun2] at hns
      cases b with
      | false => exact absurd hns (by simp)
      | true =>
      obtain rfl : fd = some ns := hns
      have roff9 : Off ((lD, W.listOf ds.toArray cd) :: (M2 ++ M)) (adsOf []) := fun p hp hx => by cases hx
      refine caughtF (l := []) (new := coreOf ⟨wdd, ah, ahd, D, atd⟩ ys ys.length σ' ++ (more ++ ((lD, W.listOf ds.toArray cd) :: (M2 ++ M)))) (frs := []) (KF := hd.heap_39 wd.params) rfl trivial AF.F (News.sub AF.N fun p hp => regroup hp) ER.up ER.hen (AF.hap (fun p hp => absurd hp List.not_mem_nil) roff9 ER.ne) X1 (topRead_of T1) (by k_is) (by first | rfl | decide +kernel) fun h4 frs2 tb tk4 SU F4 N4 => ?_
      obtain rfl : frs2 = [] := by
        cases frs2 with
        | nil => rfl
        | cons _ _ => exact False.elim SU
      obtain ⟨κ', cur', tcc', thn', hn', ow', told', nt', tA', tD'⟩ := σ'
      obtain rfl : cur' = .none := AF.cur
      have hW7 := AF.inv.ow
      simp only at hW7
      obtain ⟨vsT, hvsT, hallT⟩ := AF.told
      obtain rfl : told' = vsT := by simpa using hvsT
      obtain ⟨eb, ews, enb, rfl, hebm, hebI⟩ := hvv
      obtain ⟨bb, ws9, nb, rfl, hbm, hbI⟩ := hdl
      rw [List.append_nil] at N4
      have z1 : (lD, W.listOf ds.toArray cd) ∈ more ++ ((lD, W.listOf ds.toArray cd) :: (M2 ++ M)) := List.mem_append_right _ (.head _)
      have z2 : (tp, _) ∈ more ++ ((lD, W.listOf ds.toArray cd) :: (M2 ++ M)) := List.mem_append_right _ (.tail _ (List.mem_append_right _ htp))
      have z5 : ∀ p ∈ M2, p ∈ more ++ ((lD, W.listOf ds.toArray cd) :: (M2 ++ M)) := fun p hp => List.mem_append_right _ (.tail _ (List.mem_append_left _ hp))
      have z3 := z5 _ hbm
      simp only at z2
      have z6 := hebm
      have z7 := hdx
      generalize htl8 : more ++ ((lD, W.listOf ds.toArray cd) :: (M2 ++ M)) = tl8 at N4 z1 z2 z3 z5 z6 z7
      have z4 : ∀ p ∈ more ++ ((lD, W.listOf ds.toArray cd) :: (M2 ++ M)), p ∈ tl8 := fun p hp => htl8 ▸ hp
      simp only [coreOf, List.cons_append, List.nil_append] at N4
      k_steps
      refine Stop.on ?_
      refine eqRefs (by k_asm) (by k_mem : (eb, W.listOf ews.toArray enb) ∈ _) (by k_mem : (bb, W.listOf ws9.toArray nb) ∈ _) hebI hbI (Nat.lt_of_le_of_lt (m := 9000) (Nat.le_of_ble_eq_true rfl) (by decide)) ?_
      k_steps
      refine Stop.on ?_
      refine eqTold (by k_asm) (by k_mem) (by k_mem) hallT hds (fun p hp => .tail _ (.tail _ (.tail _ (.tail _ (.tail _ (.tail _ (.tail _ (.tail _ (z4 p hp))))))))) (fun p hp => .tail _ (.tail _ (.tail _ (.tail _ (.tail _ (.tail _ (.tail _ (.tail _ (z5 p hp))))))))) (Nat.lt_of_le_of_lt (m := 9000) (Nat.le_of_ble_eq_true rfl) (by decide)) (Nat.lt_of_le_of_lt (m := 9000) (Nat.le_of_ble_eq_true rfl) (by decide)) ?_
      k_steps
end
end Mine

theorem PySem.Challenge.cw_rh0155_01_holds : PySem.Challenge.rw_rh0155_01.Holds := by
  exact Mine.top0
