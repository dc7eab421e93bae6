import PyProof.Rows.All
import Wide.All
import OpenK.AllK
import Wide.FinOn
import PySem.Challenge.RW_no0371_01
open PySem PySem.W PyProof.Rows PySem.Calls
set_option Elab.async false
set_option maxRecDepth 100000
set_option linter.all false
namespace Mine
section
local macro_rules | `(tactic| refine $_:ident (q := $_) $_*) => `(tactic| assumption)
set_option maxHeartbeats 8000000 in
theorem hd : PySem.Challenge.rw_no0371_01.row.Holds → PySem.Challenge.rw_no0371_01.row.Holds := by
  intro _
  k_head
end
section


noncomputable abbrev PG : Program := PySem.Challenge.rw_no0371_01.row.prog
noncomputable abbrev PP : Program := hd.view_1
noncomputable abbrev LO : List Str := looseW hd.view_1 [Str.ofString "encoded", Str.ofString "line_spans", Str.ofString "PostError", Str.ofString "quoted_encoded"]
noncomputable abbrev mkA (dp un : Nat) (gd : Option (List Code)) (fr : List Env) : Around := { handled := none, depth := dp, frames := some fr, guards := gd, units := un }

/-- what a call of f with these arguments gives back: a value and new objects -/
def Ctr (w : World) (lv : Nat) (f : Addr) (args : List Value) (Post : Value → List (Addr × Obj) → Prop) : Prop :=
  ∀ (mean : ExcName → Option Value) (mg mb : Str → Option Value) (dp un : Nat) (gd : Option (List Code)) (fr : List Env) (s : Shared) (Q E : Value → Shared → Prop),
    (hd.heap_1 w.params).In s.heap → Top PP LO mean mg mb s.heap → dp + lv < recursionLimit → un + 8 * lv < cLine →
    (∀ r ad h' tk', (∀ b o, s.heap.get? b = some o → h'.get? b = some o) → (∀ p ∈ ad, h'.get? p.1 = some p.2 ∧ s.heap.get? p.1 = none) → Post r ad → Q r { s with heap := h', toks := tk' }) →
    wpAny (model PG w) (mkA dp un gd fr) (call (.ref f) args) Q E s

/-- the end of a body: the frame stands, the news hold, the value is as promised -/
def CEnd (g : Heap) (Post : Value → List (Addr × Obj) → Prop) (s₀ : Shared) (fl : Flow) (s' : Shared) : Prop :=
  ∃ ad h' tk', s' = { s₀ with heap := h', toks := tk' } ∧ (∀ b o, g.get? b = some o → h'.get? b = some o) ∧ (∀ p ∈ ad, h'.get? p.1 = some p.2 ∧ g.get? p.1 = none) ∧
    Post (match fl with | .ret v => v | _ => .none) ad

theorem CEnd.intro {g : Heap} {Post : Value → List (Addr × Obj) → Prop} {s₀ : Shared} {v : Value} {L : Addr} {m : Str → Option Value} {h' : Heap} {tk' : Nat} {news ad : List (Addr × Obj)}
    (F : Fr g L h' m) (N : News g L h' news) (hs : ∀ p ∈ ad, p ∈ news) (hp : Post v ad) : CEnd g Post s₀ (.ret v) { s₀ with heap := h', toks := tk' } :=
  ⟨ad, h', tk', rfl, F.keep, fun p hp => ⟨(N p (hs p hp)).1, (N p (hs p hp)).2.2⟩, hp⟩

theorem ctr_enter {w : World} {lv : Nat} {f : Addr} {args : List Value} {Post : Value → List (Addr × Obj) → Prop}
    {name qual : Str} {params : Arguments} {body : List Stmt} {scope : Scope} {dV kV doc pm cdv ct oc : Value} {an od : Option Addr} {osl : Array (Option Value)} {binds : List (Str × Value)}
    (ho : (hd.heap_1 w.params).lookup f = some ⟨oc, od, .func (fnOf name qual params body scope dV kV doc pm an cdv ct), osl⟩)
    (hcd : codeIn (hd.heap_1 w.params) cdv qual = true)
    (hlv : 1 ≤ lv)
    (hbind : ∀ s : Shared, (hd.heap_1 w.params).In s.heap → BindsTo s (fnOf name qual params body scope dV kV doc pm an cdv ct) ⟨args, []⟩ binds)
    (hloc : ∀ y ∈ binds, scope.names.lookup y.1 = some .local)
    (hcell : ∀ x ∈ scope.names, x.2 ≠ .cell)
    (hk : scope.kind = .function) (hco : scope.isCoroutine = false) (hgen : scope.isGenerator = false)
    (h : ∀ (mean : ExcName → Option Value) (mg mb : Str → Option Value) (dp un : Nat) (gd : Option (List Code)) (fr : List Env) (s : Shared) (g : Heap) (L : Addr) (h₁ : Heap) (tk : Nat),
      (hd.heap_1 w.params).In g → Top PP LO mean mg mb g → dp + (lv - 1) < recursionLimit → un + 8 * (lv - 1) < cLine →
      Fr g L h₁ (fun y => binds.reverse.lookup y) → News g L h₁ [] →
      wpAny (model PG w) (mkA dp un gd (envOf qual scope L f cdv :: fr)) (execs body (envOf qual scope L f cdv)) (CEnd g Post s) (fun _ _ => False) { s with heap := h₁, toks := tk }) :
    Ctr w lv f args Post := by
  intro mean mg mb dp un gd fr s Q E X T hd hu hret
  refine wpAny_call (codeAny_call_def (fd := fnOf name qual params body scope dV kV doc pm an cdv ct) (body := body) (binds := binds) (by show dp < _; (first | lia | omega)) (X _ _ ho) rfl T.nolimit (codeRec_of X hcd) rfl (hbind s X) hcell hloc (fun h₁ hns hk₁ => ?_) hco hgen hk)
  have F : Fr s.heap s.heap.objs.size h₁ (fun y => binds.reverse.lookup y) := ⟨hns, hk₁, Nat.le_refl _⟩
  refine wpAny_mono (h mean mg mb (dp + 1) (un + 3) gd fr s s.heap s.heap.objs.size h₁ (s.toks + binds.length) X T (by (first | lia | omega)) (by (first | lia | omega)) F (fun _ hp => nomatch hp)) (fun fl s' e => ?_) fun _ _ e => e.elim
  obtain ⟨ad, h', tk', rfl, hkeep, had, hp⟩ := e
  exact hret _ ad h' tk' hkeep had hp

theorem ctr_use {w : World} {lv : Nat} {f : Addr} {args : List Value} {Post : Value → List (Addr × Obj) → Prop} (C : Ctr w lv f args Post)
    {mean : ExcName → Option Value} {mg mb : Str → Option Value} {dp un : Nat} {gd : Option (List Code)} {fr : List Env} {h₀ : Heap} {L : Addr} {m : Str → Option Value} {news : List (Addr × Obj)} {s : Shared} {Q E : Value → Shared → Prop}
    (X : (hd.heap_1 w.params).In h₀) (T : Top PP LO mean mg mb h₀) (F : Fr h₀ L s.heap m) (N : News h₀ L s.heap news)
    (hd : dp + lv < recursionLimit) (hu : un + 8 * lv < cLine)
    (h : ∀ r ad h' tk', Post r ad → Fr h₀ L h' m → News h₀ L h' (ad ++ news) → (∀ p ∈ ad, ∀ q ∈ news, p.1 ≠ q.1) → Q r { s with heap := h', toks := tk' }) :
    wpAny (model PG w) (mkA dp un gd fr) (call (.ref f) args) Q E s := by
  refine C mean mg mb dp un gd fr s Q E (X.keeps F.keep) (T.keeps F.keep) hd hu fun r ad h' tk' hk ha hp => ?_
  obtain ⟨oL, es, ep, hL, hLr⟩ := F.ns
  refine h r ad h' tk' hp ⟨⟨oL, es, ep, hk _ _ hL, hLr⟩, fun b o e => hk _ _ (F.keep b o e), F.above⟩ (fun p hp => ?_) fun p hp q hq e => ?_
  · rcases List.mem_append.mp hp with hp | hp
    · refine ⟨(ha p hp).1, fun e => ?_, ?_⟩
      · have h1 := (ha p hp).2
        rw [e, hL] at h1; cases h1
      · cases hq : h₀.get? p.1 with
        | none => rfl
        | some o => have h1 := (ha p hp).2; rw [F.keep _ _ hq] at h1; cases h1
    · exact ⟨hk _ _ (N p hp).1, (N p hp).2⟩
  · have h1 := (ha p hp).2
    rw [e, (N q hq).1] at h1; cases h1

theorem ctr_enterC {w : World} {lv : Nat} {f : Addr} {args : List Value} {Post : Value → List (Addr × Obj) → Prop}
    {name qual : Str} {params : Arguments} {body : List Stmt} {scope : Scope} {dV kV doc pm cdv ct oc : Value} {an od : Option Addr} {osl : Array (Option Value)} {binds : List (Str × Value)}
    (ho : (hd.heap_1 w.params).lookup f = some ⟨oc, od, .func (fnOf name qual params body scope dV kV doc pm an cdv ct), osl⟩)
    (hcd : codeIn (hd.heap_1 w.params) cdv qual = true)
    (hlv : 1 ≤ lv)
    (hbind : ∀ s : Shared, (hd.heap_1 w.params).In s.heap → BindsTo s (fnOf name qual params body scope dV kV doc pm an cdv ct) ⟨args, []⟩ binds)
    (hkind : (binds.all fun y => scope.names.lookup y.1 == some .local || scope.names.lookup y.1 == some .cell) = true)
    (hnd : ((cellsFrom 0 scope.names []).map (·.1)).Nodup)
    (hk : scope.kind = .function) (hco : scope.isCoroutine = false) (hgen : scope.isGenerator = false)
    (h : ∀ (mean : ExcName → Option Value) (mg mb : Str → Option Value) (dp un : Nat) (gd : Option (List Code)) (fr : List Env) (s : Shared) (g : Heap) (L : Addr) (h₁ : Heap) (tk : Nat) (cells : List (Addr × Obj)),
      (hd.heap_1 w.params).In g → Top PP LO mean mg mb g → dp + (lv - 1) < recursionLimit → un + 8 * (lv - 1) < cLine →
      Fr g L h₁ (bindL (envOfC qual scope L f cdv).kindOf binds fun _ => none) → News g L h₁ cells →
      CellsAre (bindC (envOfC qual scope L f cdv).kindOf binds fun _ => none) (cellsFrom (L + 1) scope.names []) cells →
      wpAny (model PG w) (mkA dp un gd (envOfC qual scope L f cdv :: fr)) (execs body (envOfC qual scope L f cdv)) (CEnd g Post s) (fun _ _ => False) { s with heap := h₁, toks := tk }) :
    Ctr w lv f args Post := by
  intro mean mg mb dp un gd fr s Q E X T hd hu hret
  refine wpAny_call (codeAny_call_function (fd := fnOf name qual params body scope dV kV doc pm an cdv ct) (by show dp < _; (first | lia | omega)) (X _ _ ho) rfl hco hgen rfl (codeRec_of X hcd) (hbind s X _ _ _ _ ?_))
  refine wpAny_newFunctionEnv_cells hk (kindsX hkind _) fun env' he s' x => ?_
  subst he
  refine ⟨T.nolimit.keeps x.toInCall.keep, codeAny_func ?_⟩
  obtain ⟨h₁, tk, rfl, _⟩ := x.done
  have hk₁ := x.toInCall.keep
  obtain ⟨cells, NC, Y⟩ := Cl.news (h₀ := s.heap) (Nat.le_refl _) fun n c hm => ⟨x.cell n c (lookup_of_mem_nodup (cellsFrom_names scope.names 0 (s.heap.objs.size + 1) [] [] rfl ▸ hnd) hm), x.above n c hm⟩
  refine wpAny_mono (h mean mg mb (dp + 1) (un + 3) gd fr s s.heap s.heap.objs.size h₁ tk cells X T (by (first | lia | omega)) (by (first | lia | omega)) ⟨x.toInCall.ns, hk₁, Nat.le_refl _⟩ (fun p hp => ⟨(NC p hp).1, (NC p hp).2.1, (NC p hp).2.2⟩) Y) (fun fl s' e => ?_) fun _ _ e => e.elim
  obtain ⟨ad, h', tk', rfl, hkeep, had, hp⟩ := e
  exact hret _ ad h' tk' hkeep had hp

/-! ## a loop by what holds between its turns: J says the turn's number, the names' values, the made objects -/

def TurnEnd (h₀ : Heap) (L I : Addr) (oI : Obj) (J : List (Str × Value) → List (Addr × Obj) → Prop) (s₁ : Shared) (s₂ : Shared) : Prop :=
  ∃ h' tk m' news' ps led, s₂ = { s₁ with heap := h', toks := tk } ∧ Fr h₀ L h' m' ∧ News h₀ L h' news' ∧ (∀ p ∈ led, p ∈ news') ∧ (I, oI) ∈ news' ∧ (∀ p ∈ led, p.1 ≠ I) ∧ (∀ p ∈ ps, m' p.1 = some p.2) ∧ J ps led
def TurnPost (h₀ : Heap) (L I : Addr) (oI : Obj) (J : List (Str × Value) → List (Addr × Obj) → Prop) (s₁ : Shared) (Q : Flow → Shared → Prop) (f : Flow) (s₂ : Shared) : Prop :=
  match f with
  | .ret v => Q (.ret v) s₂
  | .brk => Q .next s₂
  | _ => TurnEnd h₀ L I oI J s₁ s₂
theorem TurnEnd.intro {h₀ : Heap} {L I : Addr} {oI : Obj} {J : List (Str × Value) → List (Addr × Obj) → Prop} {s₁ : Shared} {h' : Heap} {tk : Nat} {m' : Str → Option Value} {news' : List (Addr × Obj)} (ps : List (Str × Value)) (led : List (Addr × Obj))
    (F : Fr h₀ L h' m') (N : News h₀ L h' news') (hl : ∀ p ∈ led, p ∈ news') (hi : (I, oI) ∈ news') (hI : ∀ p ∈ led, p.1 ≠ I) (hp : ∀ p ∈ ps, m' p.1 = some p.2) (hj : J ps led) : TurnEnd h₀ L I oI J s₁ { s₁ with heap := h', toks := tk } :=
  ⟨h', tk, m', news', ps, led, rfl, F, N, hl, hi, hI, hp, hj⟩

theorem fr_ps {h₀ : Heap} {L : Addr} {h : Heap} {m : Str → Option Value} {ps : List (Str × Value)} (hp : ∀ p ∈ ps, m p.1 = some p.2) (F : Fr h₀ L h m) : Fr h₀ L h (kstB m ps) := by
  have e : kstB m ps = m := funext fun z => kstB_eq hp fun _ => rfl
  rw [e]; exact F
theorem fr_psx {h₀ : Heap} {L : Addr} {h : Heap} {m : Str → Option Value} {ps : List (Str × Value)} {x : Str} {v : Value} (hp : ∀ p ∈ ps, m p.1 = some p.2) (F : Fr h₀ L h (fun y => if y = x then some v else m y)) : Fr h₀ L h (fun y => if y = x then some v else kstB m ps y) := by
  have e : kstB m ps = m := funext fun z => kstB_eq hp fun _ => rfl
  rw [e]; exact F

section
variable {prog : Program} {w : World} {A : Around} {E : Value → Shared → Prop} {s : Shared} {env : Env} {h₀ : Heap} {x : Str} {body : List Stmt} {Q : Flow → Shared → Prop}

/-- over any iterator that walks; oth: what it reads beside itself, unchanged -/
theorem loop_J {I : Addr} {rd : List Addr} {n : Nat} {P : Nat → Value → Prop} {St : Nat → Heap → Prop} {m₀ : Str → Option Value} {news : List (Addr × Obj)} (J : Nat → List (Str × Value) → List (Addr × Obj) → Prop) (ps₀ : List (Str × Value)) (led₀ : List (Addr × Obj))
    (W : Walks prog w A I (I :: rd) [I] n P St) (hrd : ∀ b ∈ rd, b ≠ I ∧ b ≠ env.locals) (hIL : I ≠ env.locals) (hI0 : h₀.get? I = none) (hst : St 0 s.heap) (hgo : ∀ i h, St i h → ∃ o, h.get? I = some o)
    (hro : ∀ i ps led, J i ps led → ∀ b ∈ rd, h₀.get? b = none → ∃ o, (b, o) ∈ led ∧ ∀ h i, St i h → h.get? b = some o)
    (F : Fr h₀ env.locals s.heap m₀) (N : News h₀ env.locals s.heap news) (hled : ∀ p ∈ led₀, p ∈ news) (hlI : ∀ p ∈ led₀, p.1 ≠ I) (hps : ∀ p ∈ ps₀, m₀ p.1 = some p.2) (hj : J 0 ps₀ led₀)
    (turn : ∀ i v ps led m oI h tk, i < n → P i v → J i ps led → (∀ p ∈ led, p.1 ≠ I) → Fr h₀ env.locals h (fun y => if y = x then some v else kstB m ps y) → News h₀ env.locals h (led ++ [(I, oI)]) →
      wpAny (model prog w) A (execs body env) (TurnPost h₀ env.locals I oI (J (i + 1)) { s with heap := h, toks := tk } Q) E { s with heap := h, toks := tk })
    (done : ∀ ps led m h tk, J n ps led → Fr h₀ env.locals h (kstB m ps) → News h₀ env.locals h led → Q .next { s with heap := h, toks := tk }) :
    LoopAtV prog w A h₀ env x body Q E (.ref I) s := by
  refine ⟨I, I :: rd, [I], n, P, St, m₀, led₀, fun i m led => ∃ ps, (∀ p ∈ ps, m p.1 = some p.2) ∧ J i ps led, rfl, W, ?_, ?_, ?_, hst, F, fun p hp => N p (hled p hp), ⟨ps₀, hps, hj⟩, ?_, ?_⟩
  · intro hm
    rcases List.mem_cons.mp hm with e | hm
    · exact hIL e.symm
    · exact (hrd _ hm).2 rfl
  · intro b hb
    rw [List.mem_singleton.mp hb]; exact hI0
  · intro p hp hI
    exact hlI p hp (List.mem_singleton.mp hI)
  · rintro i v m₁ led s₁ own ⟨hh', tk', rfl⟩ hin hP ⟨ps, hps', hJ⟩ hoff hown hget hfp hst' F₁ N₁
    obtain ⟨oI, hoI⟩ := hgo _ _ hst'
    have hIown : (I, oI) ∈ own := hfp I (List.mem_cons_self ..) hI0 oI hoI
    have hlI' : ∀ p ∈ led, p.1 ≠ I := fun p hp e => hoff p hp (List.mem_singleton.mpr e)
    refine wpAny_mono (turn i v ps led m₁ oI hh' tk' hin hP hJ hlI' (fr_psx hps' F₁) fun p hp => N₁ p ?_) (fun f s₂ q => ?_) fun _ _ e => e
    · rcases List.mem_append.mp hp with hp | hp
      · exact List.mem_append_right _ hp
      · rw [List.mem_singleton.mp hp]; exact List.mem_append_left _ hIown
    · have fin : TurnEnd h₀ env.locals I oI (J (i + 1)) { s with heap := hh', toks := tk' } s₂ → LoopStepU h₀ env.locals [I] own (fun m led => ∃ ps, (∀ p ∈ ps, m p.1 = some p.2) ∧ J (i + 1) ps led) { s with heap := hh', toks := tk' } .next s₂ := by
        rintro ⟨h', tk, m', news', ps', led', e, F', N', hl, hi, hI', hp', hj'⟩
        refine ⟨rfl, h', tk, m', led', e, F', fun p hp => ?_, fun p hp hq => hI' p hp (List.mem_singleton.mp hq), ps', hp', hj'⟩
        rcases List.mem_append.mp hp with hp | hp
        · rcases List.mem_cons.mp (hown p hp) with h1 | h1
          · have h2 := hget p hp
            rw [h1] at h2
            have h3 : p.2 = oI := Option.some.inj (h2.symm.trans hoI)
            have h4 : p = (I, oI) := Prod.ext h1 h3
            rw [h4]; exact N' _ hi
          · have hn0 : h₀.get? p.1 = none := (N₁ p (List.mem_append_left _ hp)).2.2
            obtain ⟨o, ho, hs⟩ := hro _ _ _ hj' _ h1 hn0
            have h2 := hget p hp
            have h3 : p.2 = o := Option.some.inj (h2.symm.trans (hs _ _ hst'))
            have h4 : p = (p.1, o) := Prod.ext rfl h3
            rw [h4]; exact N' _ (hl _ ho)
        · exact N' p (hl p hp)
      cases f with
      | ret v => exact .ret q
      | brk => exact .brk q
      | next => exact .next (fin q)
      | cont => exact .cont (fin q)
  · rintro h' tk m' led F' N' _ ⟨ps, hps', hJ⟩
    exact done ps led m' h' tk hJ (fr_ps hps' F') N'

/-- a for over bytes -/
theorem for_bytes {b : Array UInt8} {t : Tok} {m₀ : Str → Option Value} {news : List (Addr × Obj)} (J : Nat → List (Str × Value) → List (Addr × Obj) → Prop) (ps₀ : List (Str × Value)) (led₀ : List (Addr × Obj))
    (hh : A.handled = none) (F : Fr h₀ env.locals s.heap m₀) (N : News h₀ env.locals s.heap news) (hled : ∀ p ∈ led₀, p ∈ news) (hps : ∀ p ∈ ps₀, m₀ p.1 = some p.2) (hj : J 0 ps₀ led₀)
    (turn : ∀ i (c : UInt8) u ps led m I oI h tk, i < b.size → b[i]? = some c → J i ps led → (∀ p ∈ led, p.1 ≠ I) → Fr h₀ env.locals h (fun y => if y = x then some (.int (c.toNat : Int) u) else kstB m ps y) → News h₀ env.locals h (led ++ [(I, oI)]) →
      wpAny (model prog w) A (execs body env) (TurnPost h₀ env.locals I oI (J (i + 1)) { s with heap := h, toks := tk } Q) E { s with heap := h, toks := tk })
    (done : ∀ ps led m h tk, J b.size ps led → Fr h₀ env.locals h (kstB m ps) → News h₀ env.locals h led → Q .next { s with heap := h, toks := tk }) :
    wpAny (model prog w) A (pyIter (.bytes b t)) (fun it s₂ => LoopAtV prog w A h₀ env x body Q E it s₂) E s := by
  refine KBw.pyIter_bytes ?_
  refine loop_J J ps₀ led₀ (rd := []) (KBw.walks hh s.heap.objs.size b t) (fun _ h => nomatch h) ?_ (next_is_new F) ⟨_, Heap.get?_push_size _ rfl, rfl, rfl⟩ (fun i h st => let ⟨o, ho, _⟩ := st; ⟨o, ho⟩) (fun _ _ _ _ _ h => nomatch h) (F.push _)
    (fun p hp => ⟨Heap.get?_push_of_some _ (N p hp).1, (N p hp).2⟩) hled ?_ hps hj ?_ ?_
  · intro e
    exact absurd F.ns.lt (e ▸ Nat.lt_irrefl _)
  · intro p hp e
    exact absurd (Heap.lt_size (N p (hled p hp)).1) (e ▸ Nat.lt_irrefl _)
  · rintro i v ps led m oI h tk hi ⟨c, u, hc, rfl⟩ hJ hI F' N'
    exact turn i c u ps led m _ oI h tk hi hc hJ hI F' N'
  · exact done

/-- a for over a range -/
theorem for_range {r : Addr} {a₀ b₀ c₀ : Int} {t₀ u₀ v₀ : Tok} {n : Nat} {m₀ : Str → Option Value} {news : List (Addr × Obj)} (J : Nat → List (Str × Value) → List (Addr × Obj) → Prop) (ps₀ : List (Str × Value)) (led₀ : List (Addr × Obj))
    (hh : A.handled = none) (hr : IsRange s.heap r a₀ b₀ c₀ t₀ u₀ v₀) (hsmall : Builtin.Range.small a₀ b₀ c₀ = true) (hsz : Builtin.Range.rangeSize a₀ b₀ c₀ = (n : Int))
    (F : Fr h₀ env.locals s.heap m₀) (N : News h₀ env.locals s.heap news) (hled : ∀ p ∈ led₀, p ∈ news) (hps : ∀ p ∈ ps₀, m₀ p.1 = some p.2) (hj : J 0 ps₀ led₀)
    (turn : ∀ i k u ps led m I oI h tk, i < n → k = a₀ + (i : Int) * c₀ → J i ps led → (∀ p ∈ led, p.1 ≠ I) → Fr h₀ env.locals h (fun y => if y = x then some (.int k u) else kstB m ps y) → News h₀ env.locals h (led ++ [(I, oI)]) →
      wpAny (model prog w) A (execs body env) (TurnPost h₀ env.locals I oI (J (i + 1)) { s with heap := h, toks := tk } Q) E { s with heap := h, toks := tk })
    (done : ∀ ps led m h tk, J n ps led → Fr h₀ env.locals h (kstB m ps) → News h₀ env.locals h led → Q .next { s with heap := h, toks := tk }) :
    wpAny (model prog w) A (pyIter (.ref r)) (fun it s₂ => LoopAtV prog w A h₀ env x body Q E it s₂) E s := by
  refine wpAny_pyIter_range hr hsmall ?_
  refine loop_J J ps₀ led₀ (rd := []) (Walks.range hh s.heap.objs.size a₀ c₀ n) (fun _ h => nomatch h) ?_ (next_is_new F) (by show IsRangeIter _ _ _ _ _; rw [hsz]; simpa using Heap.get?_push_size _ rfl) (fun i h st => ⟨_, st⟩) (fun _ _ _ _ _ h => nomatch h) (F.push _)
    (fun p hp => ⟨Heap.get?_push_of_some _ (N p hp).1, (N p hp).2⟩) hled ?_ hps hj ?_ ?_
  · intro e
    exact absurd F.ns.lt (e ▸ Nat.lt_irrefl _)
  · intro p hp e
    exact absurd (Heap.lt_size (N p (hled p hp)).1) (e ▸ Nat.lt_irrefl _)
  · rintro i v ps led m oI h tk hi ⟨u, rfl⟩ hJ hI F' N'
    exact turn i _ u ps led m _ oI h tk hi rfl hJ hI F' N'
  · exact done

/-- a for over a list: of the base, or one that J keeps on the ledger -/
theorem for_list {l : Addr} {vs : List Value} {ol : Obj} {m₀ : Str → Option Value} {news : List (Addr × Obj)} (J : Nat → List (Str × Value) → List (Addr × Obj) → Prop) (ps₀ : List (Str × Value)) (led₀ : List (Addr × Obj))
    (hh : A.handled = none) (hol : s.heap.get? l = some ol) (hls : s.heap.IsList l vs.toArray) (hlL : l ≠ env.locals) (hwh : ∀ i ps led, J i ps led → h₀.get? l = none → (l, ol) ∈ led)
    (F : Fr h₀ env.locals s.heap m₀) (N : News h₀ env.locals s.heap news) (hled : ∀ p ∈ led₀, p ∈ news) (hps : ∀ p ∈ ps₀, m₀ p.1 = some p.2) (hj : J 0 ps₀ led₀)
    (turn : ∀ i v ps led m I oI h tk, i < vs.length → vs[i]? = some v → J i ps led → (∀ p ∈ led, p.1 ≠ I) → Fr h₀ env.locals h (fun y => if y = x then some v else kstB m ps y) → News h₀ env.locals h (led ++ [(I, oI)]) →
      wpAny (model prog w) A (execs body env) (TurnPost h₀ env.locals I oI (J (i + 1)) { s with heap := h, toks := tk } Q) E { s with heap := h, toks := tk })
    (done : ∀ ps led m h tk, J vs.length ps led → Fr h₀ env.locals h (kstB m ps) → News h₀ env.locals h led → Q .next { s with heap := h, toks := tk }) :
    wpAny (model prog w) A (pyIter (.ref l)) (fun it s₂ => LoopAtV prog w A h₀ env x body Q E it s₂) E s := by
  have hne : l ≠ s.heap.objs.size := Nat.ne_of_lt (Heap.lt_size hol)
  refine wpAny_pyIter_list hls ?_
  have W := Walks.list (prog := prog) (w := w) hh s.heap.objs.size l hne vs.toArray
  have hlen : vs.toArray.size = vs.length := by simp
  rw [hlen] at W
  have W' : Walks prog w A s.heap.objs.size (s.heap.objs.size :: [l]) [s.heap.objs.size] vs.length (fun i v => vs.toArray[i]? = some v) (fun i h => (h.IsListIter s.heap.objs.size l i ∧ h.IsList l vs.toArray) ∧ h.get? l = some ol) :=
    { sub := W.sub
      frame := fun i h h' st hk => ⟨W.frame i h h' st.1 hk, hk l (by simp) _ st.2⟩
      item := fun i s' Q' E' hi st hq => W.item i s' Q' E' hi st.1 fun v h' tk hv hs hk => hq v h' tk hv ⟨hs, hk l _ (by simpa using hne) st.2⟩ hk
      done := fun s' Q' E' st hq => W.done s' Q' E' st.1 hq
      self := fun i s' Q' E' st hq => W.self i s' Q' E' st.1 hq }
  refine loop_J J ps₀ led₀ (rd := [l]) W' (fun b hb => by rw [List.mem_singleton.mp hb]; exact ⟨hne, hlL⟩) ?_ (next_is_new F) ⟨⟨⟨_, Heap.get?_push_size _ rfl, rfl, rfl⟩, hls.at fun o e => Heap.get?_push_of_some _ e⟩, Heap.get?_push_of_some _ hol⟩ (fun i h st => let ⟨o, ho, _⟩ := st.1.1; ⟨o, ho⟩)
    (fun i ps led hJ b hb h0 => by rw [List.mem_singleton.mp hb] at h0 ⊢; exact ⟨ol, hwh i ps led hJ h0, fun h i st => st.2⟩) (F.push _)
    (fun p hp => ⟨Heap.get?_push_of_some _ (N p hp).1, (N p hp).2⟩) hled ?_ hps hj ?_ ?_
  · intro e
    exact absurd F.ns.lt (e ▸ Nat.lt_irrefl _)
  · intro p hp e
    exact absurd (Heap.lt_size (N p (hled p hp)).1) (e ▸ Nat.lt_irrefl _)
  · rintro i v ps led m oI h tk hi hv hJ hI F' N'
    exact turn i v ps led m _ oI h tk hi (by simpa using hv) hJ hI F' N'
  · exact done
end

end
section

open Builtin
theorem slot_join : Slot "bytes" "join" "bytes.join" :=
  .of (owner := "bytes") (n := "join") (by rw [typeLookup_type, builtinLookup_eq_fast]; kernel_rfl) (by decide +kernel) (by decide +kernel) (by decide +kernel)
    (by first | exact .inl (by decide +kernel) | exact .inr (by decide +kernel)) (by rw [isSubtype_type]; kernel_rfl)
theorem type_join : typeOf (.builtin "bytes.join") = pure (.type "method_descriptor") := by show builtinType _ = _; rw [builtinType_eq_fast]; kernel_rfl
theorem entry_join : entryFor table "bytes.join" = some Builtin.«bytes.join» := entryFor_of_tree (by kernel_rfl)
theorem args_join (a b : Value) : argsOk "bytes.join" ⟨[a, b], []⟩ := by
  unfold argsOk; rw [signature?_of (id := "bytes.join") (n := ['n', 'i', 'o', 'j']) (o := ['s', 'e', 't', 'y', 'b']) (by kernel_rfl) FB.owner_bytes]; kernel_rfl
theorem slot_find : Slot "bytes" "find" "bytes.find" :=
  .of (owner := "bytes") (n := "find") (by rw [typeLookup_type, builtinLookup_eq_fast]; kernel_rfl) (by decide +kernel) (by decide +kernel) (by decide +kernel)
    (by first | exact .inl (by decide +kernel) | exact .inr (by decide +kernel)) (by rw [isSubtype_type]; kernel_rfl)
theorem type_find : typeOf (.builtin "bytes.find") = pure (.type "method_descriptor") := by show builtinType _ = _; rw [builtinType_eq_fast]; kernel_rfl
theorem entry_find : entryFor table "bytes.find" = some Builtin.«bytes.find» := entryFor_of_tree (by kernel_rfl)
theorem args_find3 (a b c : Value) : argsOk "bytes.find" ⟨[a, b, c], []⟩ := by
  unfold argsOk; rw [signature?_of (id := "bytes.find") (n := ['d', 'n', 'i', 'f']) (o := ['s', 'e', 't', 'y', 'b']) (by kernel_rfl) FB.owner_bytes]; kernel_rfl
theorem args_find4 (a b c d : Value) : argsOk "bytes.find" ⟨[a, b, c, d], []⟩ := by
  unfold argsOk; rw [signature?_of (id := "bytes.find") (n := ['d', 'n', 'i', 'f']) (o := ['s', 'e', 't', 'y', 'b']) (by kernel_rfl) FB.owner_bytes]; kernel_rfl
theorem slot_split : Slot "bytes" "split" "bytes.split" :=
  .of (owner := "bytes") (n := "split") (by rw [typeLookup_type, builtinLookup_eq_fast]; kernel_rfl) (by decide +kernel) (by decide +kernel) (by decide +kernel)
    (by first | exact .inl (by decide +kernel) | exact .inr (by decide +kernel)) (by rw [isSubtype_type]; kernel_rfl)
theorem type_split : typeOf (.builtin "bytes.split") = pure (.type "method_descriptor") := by show builtinType _ = _; rw [builtinType_eq_fast]; kernel_rfl
theorem entry_split : entryFor table "bytes.split" = some Builtin.«bytes.split» := entryFor_of_tree (by kernel_rfl)
theorem args_split (a b : Value) : argsOk "bytes.split" ⟨[a, b], []⟩ := by
  unfold argsOk; rw [signature?_of (id := "bytes.split") (n := ['t', 'i', 'l', 'p', 's']) (o := ['s', 'e', 't', 'y', 'b']) (by kernel_rfl) FB.owner_bytes]; kernel_rfl
theorem slot_rstrip : Slot "bytes" "rstrip" "bytes.rstrip" :=
  .of (owner := "bytes") (n := "rstrip") (by rw [typeLookup_type, builtinLookup_eq_fast]; kernel_rfl) (by decide +kernel) (by decide +kernel) (by decide +kernel)
    (by first | exact .inl (by decide +kernel) | exact .inr (by decide +kernel)) (by rw [isSubtype_type]; kernel_rfl)
theorem type_rstrip : typeOf (.builtin "bytes.rstrip") = pure (.type "method_descriptor") := by show builtinType _ = _; rw [builtinType_eq_fast]; kernel_rfl
theorem entry_rstrip : entryFor table "bytes.rstrip" = some Builtin.«bytes.rstrip» := entryFor_of_tree (by kernel_rfl)
theorem args_rstrip (a b : Value) : argsOk "bytes.rstrip" ⟨[a, b], []⟩ := by
  unfold argsOk; rw [signature?_of (id := "bytes.rstrip") (n := ['p', 'i', 'r', 't', 's', 'r']) (o := ['s', 'e', 't', 'y', 'b']) (by kernel_rfl) FB.owner_bytes]; kernel_rfl

section
variable {prog : Program} {w : World} {A : Around} {E : Value → Shared → Prop} {s : Shared} {b c : Array UInt8} {t u : Tok} {Q : Value → Shared → Prop}
theorem like_eq {id : String} : Bytes.bytesLike id (.bytes b t) = pure b := by
  unfold Bytes.bytesLike
  rw [KBy.buffer_eq]
  rfl

/-! rstrip -/
def rstripped (b c : List UInt8) : List UInt8 := (b.reverse.dropWhile c.contains).reverse
/-! find -/
def findAt (b c : Array UInt8) (lo hi : Int) : Int :=
  match (if hi - lo < c.size then none else Bytes.find? b c lo.toNat hi.toNat) with
  | some i => (i : Int)
  | none => -1
end

end
section

open Builtin
section
variable {prog : Program} {w : World} {A : Around} {E : Value → Shared → Prop} {s : Shared} {b c : Array UInt8} {t u : Tok} {Q : Value → Shared → Prop}
theorem same_any {M : Model} {A : Around} {E : Value → Shared → Prop} {s : Shared} {Q : Value → Shared → Prop} (h : Q (.bytes b t) s) : wpAny M A (Bytes.Kind.bytes.same (.bytes b t)) Q E s := by
  show wpAny M A (typeOf (.bytes b t) >>= fun r => _) Q E s
  exact wpAny_bind (wpAny_typeOf (typeIs_bytes _ _ _) (wpAny_pure h))
theorem bound_int {M : Model} {A : Around} {E : Value → Shared → Prop} {s : Shared} {i : Int} {ti : Tok} {Q : Option Int → Shared → Prop} (h : Q (some i) s) : wpAny M A (Bytes.bound? (some (.int i ti))) Q E s := by
  show wpAny M A (specialOf (.int i ti) "__index__" >>= fun r => _) Q E s
  refine wpAny_bind (wpAny_specialOf (T := "int") (typeIs_int _ _ _) F.slot_int_index.lookup ?_)
  exact wpAny_bind (wpAny_of_eq rfl (wpAny_pure h))
theorem meets_rstrip : Meets («bytes.rstrip» ⟨[.bytes b t, .bytes c u], []⟩) (fun _ R s => b.size ≤ sizeLine ∧ ∀ t' k, R (.ok (.ret (.bytes (rstripped b.toList c.toList).toArray t'))) { s with toks := k }) := by
  refine .of_wp fun prog w A R s hS => ?_
  obtain ⟨hsz, h⟩ := hS
  have hle : (rstripped b.toList c.toList).length ≤ b.size := by
    unfold rstripped
    rw [List.length_reverse]
    refine Nat.le_trans ((List.dropWhile_suffix _).length_le) ?_
    simp
  show wpAny _ _ (Bytes.bytesLike _ (.bytes c u) >>= fun r => _) _ _ s
  refine wpAny_bind (wpAny_of_eq like_eq ?_)
  refine wpAny_bind (wpAny_pure ?_)
  refine wpAny_bind (wpAny_of_eq (a := b) rfl ?_)
  have ec : c.contains = c.toList.contains := funext fun x => by simp
  have fin : wpAny (model prog w) A.in1 (if ((rstripped b.toList c.toList).length == b.size) = true then (do
        rule (toString (toString Bytes.Kind.bytes.name ++ toString "." ++ toString "rstrip") ++ toString ".unchanged")
        ret (← Bytes.Kind.bytes.same (.bytes b t))) else do ret (← Bytes.Kind.bytes.new (rstripped b.toList c.toList).toArray)) (fun fin s' => ∃ v, fin = Fin.done (Flow.ret v) ∧ R (Except.ok (Flow.ret v)) s') (fun e s' => R (Except.error e) s') s := by
    by_cases hq : ((rstripped b.toList c.toList).length == b.size) = true
    · rw [if_pos hq]
      have e : (rstripped b.toList c.toList).toArray = b := by
        have h1 : (rstripped b.toList c.toList).length = b.toList.length := by simpa using hq
        have h2 : b.toList.reverse.dropWhile c.toList.contains = b.toList.reverse := by
          apply (List.dropWhile_suffix c.toList.contains).eq_of_length
          unfold rstripped at h1
          simpa using h1
        unfold rstripped
        rw [h2]; simp
      refine wpAny_bind (wpAny_rule (wpAny_bind (same_any (wpAny_pure ⟨_, rfl, ?_⟩))))
      have := h t s.toks
      rw [e] at this
      exact this
    · rw [if_neg hq]
      exact wpAny_bind (wpAny_mkBytes (wpAny_pure ⟨_, rfl, h _ _⟩) (by rw [List.size_toArray]; (first | lia | omega)))
  unfold rstripped at fin
  rw [← ec] at fin
  exact fin

theorem meets_find4 {i j : Int} {ti tj : Tok} : Meets («bytes.find» ⟨[.bytes b t, .bytes c u, .int i ti, .int j tj], []⟩) (fun _ R s => (0 ≤ i ∧ 0 ≤ j) ∧ ∀ t' k, R (.ok (.ret (.int (findAt b c i (Min.min (b.size : Int) j)) t'))) { s with toks := k }) := by
  refine .of_wp fun prog w A R s hS => ?_
  obtain ⟨⟨hi, hj⟩, h⟩ := hS
  show wpAny _ _ (Bytes.searchArgs _ _ _ >>= fun r => _) _ _ s
  unfold Bytes.searchArgs
  refine wpAny_bind ?_
  refine wpAny_bind (wpAny_of_eq (a := (.bytes b t, [.bytes c u, .int i ti, .int j tj])) rfl ?_)
  refine wpAny_bind (bound_int ?_)
  refine wpAny_bind (bound_int ?_)
  refine wpAny_bind (wpAny_of_eq KBy.buffer_eq ?_)
  refine wpAny_bind (wpAny_pure ?_)
  refine wpAny_bind (wpAny_of_eq (a := b) rfl ?_)
  have ew : Bytes.window b.size (some i) (some j) = (i, Min.min (b.size : Int) j) := by
    unfold Bytes.window
    simp only [Option.getD_some]
    rw [if_neg (by (first | lia | omega)), if_neg (by (first | lia | omega))]
  rw [ew]
  refine wpAny_pure ?_
  have h' := h s.toks (s.toks + 1)
  unfold findAt at h'
  by_cases hc : Min.min (b.size : Int) j - i < c.size
  · rw [if_pos hc] at h' ⊢
    exact wpAny_bind (wpAny_rule (wpAny_bind (wpAny_mkInt (wpAny_pure ⟨_, rfl, h'⟩))))
  · rw [if_neg hc] at h' ⊢
    show wpAny _ _ (match Bytes.find? b c i.toNat (Min.min (b.size : Int) j).toNat with | some i => retInt ↑i | none => _) _ _ s
    cases hf : Bytes.find? b c i.toNat (Min.min (b.size : Int) j).toNat with
    | none =>
      rw [hf] at h'
      exact wpAny_bind (wpAny_rule (wpAny_bind (wpAny_mkInt (wpAny_pure ⟨_, rfl, h'⟩))))
    | some k =>
      rw [hf] at h'
      exact wpAny_bind (wpAny_mkInt (wpAny_pure ⟨_, rfl, h'⟩))
theorem meets_find3 {i : Int} {ti : Tok} : Meets («bytes.find» ⟨[.bytes b t, .bytes c u, .int i ti], []⟩) (fun _ R s => (0 ≤ i) ∧ ∀ t' k, R (.ok (.ret (.int (findAt b c i b.size) t'))) { s with toks := k }) := by
  refine .of_wp fun prog w A R s hS => ?_
  obtain ⟨hi, h⟩ := hS
  show wpAny _ _ (Bytes.searchArgs _ _ _ >>= fun r => _) _ _ s
  unfold Bytes.searchArgs
  refine wpAny_bind ?_
  refine wpAny_bind (wpAny_of_eq (a := (.bytes b t, [.bytes c u, .int i ti])) rfl ?_)
  refine wpAny_bind (bound_int ?_)
  refine wpAny_bind (wpAny_pure ?_)
  refine wpAny_bind (wpAny_of_eq KBy.buffer_eq ?_)
  refine wpAny_bind (wpAny_pure ?_)
  refine wpAny_bind (wpAny_of_eq (a := b) rfl ?_)
  have ew : Bytes.window b.size (some i) none = (i, (b.size : Int)) := by
    unfold Bytes.window
    simp only [Option.getD_some, Option.getD_none]
    rw [if_neg (by (first | lia | omega)), if_neg (by (first | lia | omega)), Int.min_self]
  rw [ew]
  refine wpAny_pure ?_
  have h' := h s.toks (s.toks + 1)
  unfold findAt at h'
  by_cases hc : (b.size : Int) - i < c.size
  · rw [if_pos hc] at h' ⊢
    exact wpAny_bind (wpAny_rule (wpAny_bind (wpAny_mkInt (wpAny_pure ⟨_, rfl, h'⟩))))
  · rw [if_neg hc] at h' ⊢
    show wpAny _ _ (match Bytes.find? b c i.toNat (b.size : Int).toNat with | some i => retInt ↑i | none => _) _ _ s
    cases hf : Bytes.find? b c i.toNat (b.size : Int).toNat with
    | none =>
      rw [hf] at h'
      exact wpAny_bind (wpAny_rule (wpAny_bind (wpAny_mkInt (wpAny_pure ⟨_, rfl, h'⟩))))
    | some k =>
      rw [hf] at h'
      exact wpAny_bind (wpAny_mkInt (wpAny_pure ⟨_, rfl, h'⟩))

theorem find4 {i j : Int} {ti tj : Tok} (hi : 0 ≤ i) (hj : 0 ≤ j) (h : ∀ t' k, Q (.int (findAt b c i (Min.min (b.size : Int) j)) t') { s with toks := k }) :
    wpAny (model prog w) A (call (.builtin "bytes.find") [.bytes b t, .bytes c u, .int i ti, .int j tj]) Q E s :=
  call_meets slot_find (typeIs_bytes _ _ _) entry_find (args_find4 _ _ _ _) meets_find4 ⟨⟨hi, hj⟩, h⟩
theorem find3 {i : Int} {ti : Tok} (hi : 0 ≤ i) (h : ∀ t' k, Q (.int (findAt b c i b.size) t') { s with toks := k }) :
    wpAny (model prog w) A (call (.builtin "bytes.find") [.bytes b t, .bytes c u, .int i ti]) Q E s :=
  call_meets slot_find (typeIs_bytes _ _ _) entry_find (args_find3 _ _ _) meets_find3 ⟨hi, h⟩
theorem rstrip1 (hsz : b.size ≤ 16777216) (h : ∀ t' k, Q (.bytes (rstripped b.toList c.toList).toArray t') { s with toks := k }) :
    wpAny (model prog w) A (call (.builtin "bytes.rstrip") [.bytes b t, .bytes c u]) Q E s :=
  call_meets slot_rstrip (typeIs_bytes _ _ _) entry_rstrip (args_rstrip _ _) meets_rstrip ⟨by rw [sizeLine_eq]; exact hsz, h⟩
theorem meth_join {M : Model} {pl : Sem Bool} {Q : Value × List Value → Shared → Prop} (h : Q (.builtin "bytes.join", [.bytes b t]) s) : wpAny M A (getMethod (.bytes b t) "join" pl) Q E s := by
  with_reducible exact KBd.method_of (.bytes b t) (typeIs_bytes _ _ _) slot_join type_join KBd.noRef h
theorem meth_find {M : Model} {pl : Sem Bool} {Q : Value × List Value → Shared → Prop} (h : Q (.builtin "bytes.find", [.bytes b t]) s) : wpAny M A (getMethod (.bytes b t) "find" pl) Q E s := by
  with_reducible exact KBd.method_of (.bytes b t) (typeIs_bytes _ _ _) slot_find type_find KBd.noRef h
theorem meth_split {M : Model} {pl : Sem Bool} {Q : Value × List Value → Shared → Prop} (h : Q (.builtin "bytes.split", [.bytes b t]) s) : wpAny M A (getMethod (.bytes b t) "split" pl) Q E s := by
  with_reducible exact KBd.method_of (.bytes b t) (typeIs_bytes _ _ _) slot_split type_split KBd.noRef h
theorem meth_rstrip {M : Model} {pl : Sem Bool} {Q : Value × List Value → Shared → Prop} (h : Q (.builtin "bytes.rstrip", [.bytes b t]) s) : wpAny M A (getMethod (.bytes b t) "rstrip" pl) Q E s := by
  with_reducible exact KBd.method_of (.bytes b t) (typeIs_bytes _ _ _) slot_rstrip type_rstrip KBd.noRef h
end

end
section

open Builtin
/-- each value is bytes -/
inductive BytesAre : List Value → List (Array UInt8) → Prop
  | nil : BytesAre [] []
  | cons {b : Array UInt8} {t : Tok} {vs : List Value} {bs : List (Array UInt8)} : BytesAre vs bs → BytesAre (.bytes b t :: vs) (b :: bs)
theorem BytesAre.length {vs : List Value} {bs : List (Array UInt8)} (h : BytesAre vs bs) : vs.length = bs.length := by
  induction h with
  | nil => rfl
  | cons _ ih => simp [ih]
theorem BytesAre.get {vs : List Value} {bs : List (Array UInt8)} (h : BytesAre vs bs) {i : Nat} {v : Value} (e : vs[i]? = some v) : ∃ b t, bs[i]? = some b ∧ v = .bytes b t := by
  induction h generalizing i with
  | nil => simp at e
  | cons h ih =>
    cases i with
    | zero => simp at e; exact ⟨_, _, rfl, e.symm⟩
    | succ i => simp at e; simpa using ih e
theorem BytesAre.append {vs ws : List Value} {bs cs : List (Array UInt8)} (h : BytesAre vs bs) (k : BytesAre ws cs) : BytesAre (vs ++ ws) (bs ++ cs) := by
  induction h with
  | nil => exact k
  | cons _ ih => exact .cons ih
theorem BytesAre.one {b : Array UInt8} {t : Tok} : BytesAre [.bytes b t] [b] := .cons .nil
theorem BytesAre.take {vs : List Value} {bs : List (Array UInt8)} (h : BytesAre vs bs) : ∀ n, BytesAre (vs.take n) (bs.take n) := by
  induction h with
  | nil => intro n; simpa using BytesAre.nil
  | cons h ih =>
    intro n
    cases n with
    | zero => exact .nil
    | succ n => exact .cons (ih n)

theorem joined_nil (parts : List (Array UInt8)) : Bytes.joined #[] parts = (parts.map Array.toList).flatten.toArray := by
  unfold Bytes.joined
  have key : ∀ (l : List (Array UInt8)) (k : Nat) (acc : Array UInt8), (l.zipIdx k).foldl (fun out (x : Array UInt8 × Nat) => (if x.2 > 0 then out ++ #[] else out) ++ x.1) acc = acc ++ (l.map Array.toList).flatten.toArray := by
    intro l
    induction l with
    | nil => intro k acc; simp
    | cons x l ih =>
      intro k acc
      rw [List.zipIdx_cons, List.foldl_cons, ih]
      have e : (if k > 0 then acc ++ (#[] : Array UInt8) else acc) = acc := by split <;> simp
      show ((if k > 0 then acc ++ #[] else acc) ++ x) ++ _ = _
      rw [e, Array.append_assoc]
      congr 1
      apply Array.ext'
      simp
  have := key parts 0 #[]
  simpa using this
theorem joined_one (sep b : Array UInt8) : Bytes.joined sep [b] = b := by
  unfold Bytes.joined
  simp

section
variable {prog : Program} {w : World} {A : Around} {E : Value → Shared → Prop} {s : Shared} {b c : Array UInt8} {t u : Tok} {Q : Value → Shared → Prop}
theorem mapM_new {M : Model} {A : Around} {E : Value → Shared → Prop} : ∀ (l : List (Array UInt8)) (s : Shared) (Q : List Value → Shared → Prop), (∀ x ∈ l, x.size ≤ sizeLine) → (∀ vs k, BytesAre vs l → Q vs { s with toks := k }) → wpAny M A (l.mapM Bytes.Kind.bytes.new) Q E s
  | [], s, Q, _, h => by rw [List.mapM_nil]; exact wpAny_pure (h [] s.toks .nil)
  | x :: l, s, Q, hz, h => by
    rw [List.mapM_cons]
    refine wpAny_bind (wpAny_mkBytes (wpAny_bind (mapM_new l _ _ (fun y hy => hz y (List.mem_cons_of_mem _ hy)) fun vs k hv => wpAny_pure (h _ k (.cons hv)))) (hz x List.mem_cons_self))

def splitAt (b c : Array UInt8) : List (Array UInt8) :=
  let places := (Bytes.occurrences b c 0 b.size).take (b.size + 1)
  if places.isEmpty = true then [b] else Bytes.between b c.size places
theorem meets_split : Meets («bytes.split» ⟨[.bytes b t, .bytes c u], []⟩) (fun _ R s => (c.isEmpty = false ∧ (splitAt b c).length ≤ sizeLine ∧ ∀ x ∈ splitAt b c, x.size ≤ sizeLine) ∧ ∀ vs k, BytesAre vs (splitAt b c) → R (.ok (.ret (.ref s.heap.objs.size))) { s with heap := s.heap.push { cls := .type "list", data := .seq vs.toArray }, toks := k }) := by
  refine .of_wp fun prog w A R s hS => ?_
  obtain ⟨⟨hc, hlen, hsz⟩, h⟩ := hS
  unfold «bytes.split» Bytes.splitM
  dsimp only
  refine wpAny_bind (wpAny_of_eq (a := [some (.bytes c u), none]) (by kernel_rfl) ?_)
  show wpAny _ _ (pure (-1) >>= fun m => _) _ _ s
  refine wpAny_bind (wpAny_pure ?_)
  refine wpAny_bind (wpAny_of_eq (a := b) rfl ?_)
  refine wpAny_bind (wpAny_of_eq like_eq ?_)
  rw [hc]
  have fin : wpAny (model prog w) A.in1 (if ((Bytes.occurrences b c 0 b.size).take (b.size + 1)).isEmpty = true then (do
        rule (toString (toString Bytes.Kind.bytes.name ++ toString "." ++ toString "split") ++ toString ".no-separator")
        ret (← newList [← Bytes.Kind.bytes.same (.bytes b t)])) else do ret (← newList (← (Bytes.between b c.size ((Bytes.occurrences b c 0 b.size).take (b.size + 1))).mapM Bytes.Kind.bytes.new))) (fun fin s' => ∃ v, fin = Fin.done (Flow.ret v) ∧ R (Except.ok (Flow.ret v)) s') (fun e s' => R (Except.error e) s') s := by
    unfold splitAt at hlen hsz h
    by_cases hq : ((Bytes.occurrences b c 0 b.size).take (b.size + 1)).isEmpty = true
    · simp only [hq, if_true] at hlen hsz h ⊢
      refine wpAny_bind (wpAny_rule (wpAny_bind (same_any (wpAny_bind (wpAny_newObj_type ?_ (by show ([Value.bytes b t].toArray).size ≤ sizeLine; rw [sizeLine_eq]; simp))))))
      exact wpAny_pure ⟨_, rfl, h [.bytes b t] s.toks .one⟩
    · simp only [hq, Bool.false_eq_true, if_false] at hlen hsz h ⊢
      refine wpAny_bind (mapM_new _ _ _ hsz fun vs k hv => ?_)
      refine wpAny_bind (wpAny_newObj_type ?_ (by show vs.toArray.size ≤ sizeLine; rw [List.size_toArray, hv.length]; exact hlen))
      exact wpAny_pure ⟨_, rfl, h vs k hv⟩
  exact fin

theorem take_buffer {id : String} : Bytes.takeBuffer? id (.bytes b t) 0 = pure (some (b, none)) := by
  unfold Bytes.takeBuffer?
  rw [KBy.special_eq KBy.look_buffer, KBy.own_buffer]
  show ((Bytes.buffer? id (.bytes b t) (full := (0 : Int) == Bytes.fullReadOnly)) >>= fun r => pure (r.map (·, none))) = _
  have e : Bytes.buffer? id (.bytes b t) (full := (0 : Int) == Bytes.fullReadOnly) = pure (some b) := by
    unfold Bytes.buffer?
    rw [KBy.special_eq KBy.look_buffer, KBy.own_buffer, KBy.own_release]
    kernel_rfl
  rw [e]; rfl
theorem take_quiet {id : String} {M : Model} {A : Around} {E : Value → Shared → Prop} {s : Shared} {Q : Option (Array UInt8 × Option Value) → Shared → Prop} (h : Q (some (b, none)) s) : wpAny M A (Bytes.takeBufferQuiet? id (.bytes b t) 0) Q E s := by
  unfold Bytes.takeBufferQuiet?
  rw [take_buffer]
  exact wpAny_bind (wpAny_attempt (wpAny_pure (wpAny_pure h)))
theorem letGo_join {M : Model} {A : Around} {E : Value → Shared → Prop} {s : Shared} {keep : List Value} {Q : Unit → Shared → Prop} : ∀ (l : List (Value × Option Value)), (∀ x ∈ l, x.2 = none) → Q () s → wpAny M A (Bytes.joinLetGo l keep) Q E s
  | [], _, h => wpAny_pure h
  | (x, w) :: r, hn, h => by
    obtain rfl : w = none := hn _ List.mem_cons_self
    unfold Bytes.joinLetGo
    exact wpAny_bind (wpAny_letGo (letGo_join r (fun y hy => hn y (List.mem_cons_of_mem _ hy)) h))
theorem join_match {α : Type} (items : Array Value) (hi : items.size ≠ 1) (f : Value → α) (g : Array Value → α) : Bytes.joinM.match_1 (motive := fun _ => α) items f g = g items := by
  delta Bytes.joinM.match_1
  exact dif_neg hi
theorem wpAny_of_eq' {α : Type} {M : Model} {A : Around} {E : Value → Shared → Prop} {s : Shared} {t t' : Sem α} {Q : α → Shared → Prop} (e : t = t') (h : wpAny M A t' Q E s) : wpAny M A t Q E s := by rw [e]; exact h
theorem meets_join {l : Addr} {o : Obj} {vs : List Value} {bs : List (Array UInt8)} {n : Nat} (ho' : o.cls = .type "list") (hd : o.data = .seq vs.toArray n) (hv : BytesAre vs bs) :
    Meets («bytes.join» ⟨[.bytes b t, .ref l], []⟩) (fun _ R s => (s.heap.get? l = some o ∧ (bs.foldl (· + ·.size) (b.size * (bs.length - 1))) ≤ sizeLine ∧ (Bytes.joined b bs).size ≤ sizeLine) ∧ ∀ t' k, R (.ok (.ret (.bytes (Bytes.joined b bs) t'))) { s with toks := k }) := by
  refine .of_wp fun prog w A R s hS => ?_
  obtain ⟨⟨ho, hsz, hsz2⟩, h⟩ := hS
  have hT : s.TypeIs (.ref l) "list" := ⟨o, ho, ho'⟩
  show wpAny _ _ (Bytes.joinItems (.ref l) >>= fun r => _) _ _ s
  refine wpAny_bind ?_
  show wpAny _ _ (typeOf (.ref l) >>= fun r => _) _ _ s
  refine wpAny_bind (wpAny_typeOf hT (wpAny_pure ?_))
  refine wpAny_bind (wpAny_seqItems ho hd ?_)
  dsimp only
  refine wpAny_ite (KBc.ite_yes (by rfl) ?_)
  have hcase : (∃ x, vs = [x]) ∨ vs.length ≠ 1 := by
    cases vs with
    | nil => right; simp
    | cons x r =>
      cases r with
      | nil => left; exact ⟨x, rfl⟩
      | cons y r => right; simp
  rcases hcase with ⟨x, rfl⟩ | hne
  · cases hv with
    | @cons b1 t1 _ _ hv =>
      cases hv
      refine wpAny_bind (wpAny_typeOf (typeIs_bytes _ _ _) ?_)
      refine wpAny_ite (KBc.ite_yes (by rfl) ?_)
      refine wpAny_bind (wpAny_rule (wpAny_pure ⟨_, rfl, ?_⟩))
      have h' := h t1 s.toks
      rw [joined_one] at h'
      exact h'
  · refine wpAny_of_eq' (join_match vs.toArray (by simpa using hne) _ _) ?_
    rw [Std.Legacy.Range.forIn_eq_forIn_range']
    simp only [Std.Legacy.Range.size, Nat.sub_zero, Nat.add_sub_cancel, Nat.div_one]
    refine wpAny_bind (wpAny_forIn_list _
      (fun rest (st : Array (Array UInt8) × List (Value × Option Value)) s' => s' = s ∧ ∃ i, rest = List.range' i (vs.toArray.size - i) ∧ i ≤ vs.toArray.size ∧ st.1.toList = bs.take i ∧ (∀ x ∈ st.2, x.2 = none ∧ x.1.onHeap = false))
      _ ?_ ?_ _ _ ⟨rfl, 0, by simp, Nat.zero_le _, by simp, fun _ h => nomatch h⟩)
    · rintro x rest st s' ⟨rfl, i, hr, hi, hst, htk⟩
      have hlt : i < vs.toArray.size := by
        rcases Nat.lt_or_ge i vs.toArray.size with h | h
        · exact h
        · rw [Nat.sub_eq_zero_of_le h] at hr; simp at hr
      obtain ⟨rfl, hrest⟩ : x = i ∧ rest = List.range' (i + 1) (vs.toArray.size - (i + 1)) := by
        have e : vs.toArray.size - i = (vs.toArray.size - (i + 1)) + 1 := by (first | lia | omega)
        rw [e, List.range'_succ] at hr
        injection hr with h1 h2
        exact ⟨h1, h2⟩
      refine wpAny_bind (wpAny_seqItems ho hd ?_)
      (try dsimp only)
      have hin : x < vs.length := by simpa using hlt
      obtain ⟨b', t', hb', hv'⟩ := hv.get (List.getElem?_eq_getElem hin)
      have hget : vs.toArray.getD x Value.none = .bytes b' t' := by
        rw [← hv']
        simp [Array.getD, hin]
      rw [hget]
      have hany : (st.2.any fun x => x.fst.onHeap) = false := by
        rw [List.any_eq_false]
        intro y hy
        rw [(htk y hy).2]; exact Bool.false_ne_true
      rw [hany]
      refine wpAny_ite (KBy.ite_no (by decide) ?_)
      refine wpAny_bind (wpAny_holding (take_quiet ?_))
      (try dsimp only)
      refine wpAny_bind (wpAny_seqItems ho hd ?_)
      (try dsimp only)
      refine wpAny_ite (KBy.ite_no (by simp) ?_)
      refine wpAny_pure ⟨rfl, x + 1, hrest, hlt, ?_, ?_⟩
      · rw [List.take_add_one, hb']
        simp [hst]
      · intro y hy
        rcases List.mem_append.mp hy with hy | hy
        · exact htk y hy
        · rw [List.mem_singleton.mp hy]; exact ⟨rfl, rfl⟩
    · rintro st s' ⟨rfl, i, hr, hi, hst, htk⟩
      have hlen : vs.toArray.size = bs.length := by rw [List.size_toArray]; exact hv.length
      have hi' : i = vs.toArray.size := by
        rcases Nat.lt_or_ge i vs.toArray.size with h | h
        · have e : vs.toArray.size - i = (vs.toArray.size - (i + 1)) + 1 := by (first | lia | omega)
          rw [e, List.range'_succ] at hr
          cases hr
        · (first | lia | omega)
      have hall : st.1.toList = bs := by rw [hst, hi', hlen, List.take_length]
      refine wpAny_bind (wpAny_of_eq (a := b) rfl ?_)
      have hp : st.1 = bs.toArray := by apply Array.ext'; simpa using hall
      have hfold : Array.foldl (fun x1 (x2 : Array UInt8) => x1 + x2.size) (b.size * (st.1.size - 1)) st.1 ≤ 16777216 := by
        rw [hp]
        simpa [sizeLine_eq] using hsz
      refine wpAny_ite (KBy.ite_no (by rw [KBy.tooLong_not hfold]; exact Bool.false_ne_true) ?_)
      refine wpAny_bind (wpAny_mkBytes ?_ (by rw [hall]; exact hsz2))
      refine wpAny_bind (wpAny_holding (wpAny_point ?_))
      refine wpAny_bind (letGo_join _ (fun x hx => (htk x hx).1) ?_)
      refine wpAny_pure ⟨_, rfl, ?_⟩
      rw [hall]
      exact h _ _

theorem split1 {h₀ : Heap} {L : Addr} {m : Str → Option Value} {news : List (Addr × Obj)} (F : Fr h₀ L s.heap m) (N : News h₀ L s.heap news) (hc : c.isEmpty = false) (hlen : (splitAt b c).length ≤ 16777216) (hsz : ∀ x ∈ splitAt b c, x.size ≤ 16777216)
    (h : ∀ l vs h' k, BytesAre vs (splitAt b c) → Fr h₀ L h' m → News h₀ L h' ((l, listOf vs.toArray 0) :: news) → (∀ p ∈ news, p.1 ≠ l) → Q (.ref l) { s with heap := h', toks := k }) :
    wpAny (model prog w) A (call (.builtin "bytes.split") [.bytes b t, .bytes c u]) Q E s := by
  refine call_meets slot_split (typeIs_bytes _ _ _) entry_split (args_split _ _) meets_split ⟨⟨hc, by rw [sizeLine_eq]; exact hlen, by rw [sizeLine_eq]; exact hsz⟩, fun vs k hv => ?_⟩
  exact h _ vs _ k hv (F.push _) (N.push F _) fun p hp => Nat.ne_of_lt (Heap.lt_size (N p hp).1)
theorem join1 {l : Addr} {o : Obj} {vs : List Value} {bs : List (Array UInt8)} {n : Nat} (ho : s.heap.get? l = some o) (ho' : o.cls = .type "list") (hd : o.data = .seq vs.toArray n) (hv : BytesAre vs bs)
    (hsz : (bs.foldl (· + ·.size) (b.size * (bs.length - 1))) ≤ 16777216) (hsz2 : (Bytes.joined b bs).size ≤ 16777216)
    (h : ∀ t' k, Q (.bytes (Bytes.joined b bs) t') { s with toks := k }) : wpAny (model prog w) A (call (.builtin "bytes.join") [.bytes b t, .ref l]) Q E s :=
  call_meets slot_join (typeIs_bytes _ _ _) entry_join (args_join _ _) (meets_join ho' hd hv) ⟨⟨ho, by rw [sizeLine_eq]; exact hsz, by rw [sizeLine_eq]; exact hsz2⟩, h⟩
end

end
section


/-! what a call hands back -/
abbrev PInt (x : Int) (r : Value) (_ : List (Addr × Obj)) : Prop := ∃ t, r = .int x t
abbrev PBool (x : Bool) (r : Value) (_ : List (Addr × Obj)) : Prop := r = .bool x
abbrev PBytes (x : Array UInt8) (r : Value) (_ : List (Addr × Obj)) : Prop := ∃ t, r = .bytes x t
abbrev PStr (x : Str) (r : Value) (_ : List (Addr × Obj)) : Prop := ∃ t, r = .str x t
abbrev PBL (bs : List (Array UInt8)) (r : Value) (ad : List (Addr × Obj)) : Prop := ∃ l vs n, r = .ref l ∧ BytesAre vs bs ∧ ad = [(l, listOf vs.toArray n)]
abbrev PIL (ns : List Int) (r : Value) (ad : List (Addr × Obj)) : Prop := ∃ l vs n, r = .ref l ∧ IntsAre vs ns ∧ ad = [(l, listOf vs.toArray n)]

section
variable {w : World} {lv : Nat} {f : Addr} {args : List Value}
variable {mean : ExcName → Option Value} {mg mb : Str → Option Value} {dp un : Nat} {gd : Option (List Code)} {fr : List Env} {h₀ : Heap} {L : Addr} {m : Str → Option Value} {news : List (Addr × Obj)} {s : Shared} {Q E : Value → Shared → Prop}

theorem drop_ad {ad : List (Addr × Obj)} {h : Heap} (N : News h₀ L h (ad ++ news)) : News h₀ L h news := fun p hp => N p (List.mem_append_right _ hp)
theorem use_int {x : Int} (C : Ctr w lv f args (PInt x)) (X : (hd.heap_1 w.params).In h₀) (T : Top PP LO mean mg mb h₀) (F : Fr h₀ L s.heap m) (N : News h₀ L s.heap news) (hd : dp + lv < recursionLimit) (hu : un + 8 * lv < cLine)
    (h : ∀ t h' tk', Fr h₀ L h' m → News h₀ L h' news → Q (.int x t) { s with heap := h', toks := tk' }) : wpAny (model PG w) (mkA dp un gd fr) (call (.ref f) args) Q E s :=
  ctr_use C X T F N hd hu fun _ _ h' tk' hp F' N' _ => by obtain ⟨t, rfl⟩ := hp; exact h t h' tk' F' (drop_ad N')
theorem use_bool {x : Bool} (C : Ctr w lv f args (PBool x)) (X : (hd.heap_1 w.params).In h₀) (T : Top PP LO mean mg mb h₀) (F : Fr h₀ L s.heap m) (N : News h₀ L s.heap news) (hd : dp + lv < recursionLimit) (hu : un + 8 * lv < cLine)
    (h : ∀ h' tk', Fr h₀ L h' m → News h₀ L h' news → Q (.bool x) { s with heap := h', toks := tk' }) : wpAny (model PG w) (mkA dp un gd fr) (call (.ref f) args) Q E s :=
  ctr_use C X T F N hd hu fun _ _ h' tk' hp F' N' _ => by obtain rfl := hp; exact h h' tk' F' (drop_ad N')
theorem use_bytes {x : Array UInt8} (C : Ctr w lv f args (PBytes x)) (X : (hd.heap_1 w.params).In h₀) (T : Top PP LO mean mg mb h₀) (F : Fr h₀ L s.heap m) (N : News h₀ L s.heap news) (hd : dp + lv < recursionLimit) (hu : un + 8 * lv < cLine)
    (h : ∀ t h' tk', Fr h₀ L h' m → News h₀ L h' news → Q (.bytes x t) { s with heap := h', toks := tk' }) : wpAny (model PG w) (mkA dp un gd fr) (call (.ref f) args) Q E s :=
  ctr_use C X T F N hd hu fun _ _ h' tk' hp F' N' _ => by obtain ⟨t, rfl⟩ := hp; exact h t h' tk' F' (drop_ad N')
theorem use_str {x : Str} (C : Ctr w lv f args (PStr x)) (X : (hd.heap_1 w.params).In h₀) (T : Top PP LO mean mg mb h₀) (F : Fr h₀ L s.heap m) (N : News h₀ L s.heap news) (hd : dp + lv < recursionLimit) (hu : un + 8 * lv < cLine)
    (h : ∀ t h' tk', Fr h₀ L h' m → News h₀ L h' news → Q (.str x t) { s with heap := h', toks := tk' }) : wpAny (model PG w) (mkA dp un gd fr) (call (.ref f) args) Q E s :=
  ctr_use C X T F N hd hu fun _ _ h' tk' hp F' N' _ => by obtain ⟨t, rfl⟩ := hp; exact h t h' tk' F' (drop_ad N')
theorem use_bl {x : List (Array UInt8)} (C : Ctr w lv f args (PBL x)) (X : (hd.heap_1 w.params).In h₀) (T : Top PP LO mean mg mb h₀) (F : Fr h₀ L s.heap m) (N : News h₀ L s.heap news) (hd : dp + lv < recursionLimit) (hu : un + 8 * lv < cLine)
    (h : ∀ l vs n h' tk', BytesAre vs x → Fr h₀ L h' m → News h₀ L h' ((l, listOf vs.toArray n) :: news) → (∀ q ∈ news, l ≠ q.1) → Q (.ref l) { s with heap := h', toks := tk' }) : wpAny (model PG w) (mkA dp un gd fr) (call (.ref f) args) Q E s :=
  ctr_use C X T F N hd hu fun _ _ h' tk' hp F' N' hne => by obtain ⟨l, vs, n, rfl, hv, rfl⟩ := hp; exact h l vs n h' tk' hv F' N' (hne _ (List.mem_singleton.mpr rfl))
theorem use_il {x : List Int} (C : Ctr w lv f args (PIL x)) (X : (hd.heap_1 w.params).In h₀) (T : Top PP LO mean mg mb h₀) (F : Fr h₀ L s.heap m) (N : News h₀ L s.heap news) (hd : dp + lv < recursionLimit) (hu : un + 8 * lv < cLine)
    (h : ∀ l vs n h' tk', IntsAre vs x → Fr h₀ L h' m → News h₀ L h' ((l, listOf vs.toArray n) :: news) → (∀ q ∈ news, l ≠ q.1) → Q (.ref l) { s with heap := h', toks := tk' }) : wpAny (model PG w) (mkA dp un gd fr) (call (.ref f) args) Q E s :=
  ctr_use C X T F N hd hu fun _ _ h' tk' hp F' N' hne => by obtain ⟨l, vs, n, rfl, hv, rfl⟩ := hp; exact h l vs n h' tk' hv F' N' (hne _ (List.mem_singleton.mpr rfl))
end

def NeAll (l : Addr) : List (Addr × Obj) → Prop
  | [] => True
  | p :: r => @Ne Nat l p.1 ∧ NeAll l r
theorem ne_all {l : Addr} : ∀ {news : List (Addr × Obj)}, (∀ q ∈ news, l ≠ q.1) → NeAll l news
  | [], _ => trivial
  | p :: _, h => ⟨h p (.head _), ne_all fun q hq => h q (.tail _ hq)⟩
theorem allNe_of9 {l : Addr} {news : List (Addr × Obj)} (h : ∀ p ∈ news, p.1 ≠ l) : NeAll l news := ne_all fun q hq => Ne.symm (h q hq)
theorem in_nil : KBa.In [] := fun _ h => nomatch h
theorem in_cons {n : Int} {r : List Int} (h0 : 0 ≤ n) (h1 : n < 256) (h : KBa.In r) : KBa.In (n :: r) := fun k hk => by
  rcases List.mem_cons.mp hk with rfl | hk
  · exact ⟨h0, h1⟩
  · exact h k hk

theorem snoc_range {vs : List Value} {f : Nat → Array UInt8} {i : Nat} {x : Array UInt8} {t : Tok} (hv : BytesAre vs ((List.range i).map f)) (e : x = f i) : BytesAre (vs ++ [.bytes x t]) ((List.range (i + 1)).map f) := by
  rw [List.range_succ, List.map_append, e]
  exact hv.append .one
theorem snoc_take {vs : List Value} {bs : List (Array UInt8)} {i : Nat} {x : Array UInt8} {t : Tok} (hv : BytesAre vs (bs.take i)) (e : bs[i]? = some x) : BytesAre (vs ++ [.bytes x t]) (bs.take (i + 1)) := by
  rw [List.take_add_one, e]
  exact hv.append .one
/-! ends -/
theorem CEnd.flat {g : Heap} {Post : Value → List (Addr × Obj) → Prop} {s₀ : Shared} {v : Value} {L : Addr} {m : Str → Option Value} {h' : Heap} {tk' : Nat}
    (F : Fr g L h' m) (hp : Post v []) : CEnd g Post s₀ (.ret v) { s₀ with heap := h', toks := tk' } :=
  ⟨[], h', tk', rfl, F.keep, (fun _ h => nomatch h), hp⟩
theorem CEnd.bl {g : Heap} {bs : List (Array UInt8)} {s₀ : Shared} {l : Addr} {vs : List Value} {n : Nat} {L : Addr} {m : Str → Option Value} {h' : Heap} {tk' : Nat} {news : List (Addr × Obj)}
    (F : Fr g L h' m) (N : News g L h' news) (hm : (l, listOf vs.toArray n) ∈ news) (hv : BytesAre vs bs) : CEnd g (PBL bs) s₀ (.ret (.ref l)) { s₀ with heap := h', toks := tk' } :=
  ⟨[(l, listOf vs.toArray n)], h', tk', rfl, F.keep, fun p hp => by rw [List.mem_singleton.mp hp]; exact ⟨(N _ hm).1, (N _ hm).2.2⟩, l, vs, n, rfl, hv, rfl⟩
theorem CEnd.il {g : Heap} {ns : List Int} {s₀ : Shared} {l : Addr} {vs : List Value} {n : Nat} {L : Addr} {m : Str → Option Value} {h' : Heap} {tk' : Nat} {news : List (Addr × Obj)}
    (F : Fr g L h' m) (N : News g L h' news) (hm : (l, listOf vs.toArray n) ∈ news) (hv : IntsAre vs ns) : CEnd g (PIL ns) s₀ (.ret (.ref l)) { s₀ with heap := h', toks := tk' } :=
  ⟨[(l, listOf vs.toArray n)], h', tk', rfl, F.keep, fun p hp => by rw [List.mem_singleton.mp hp]; exact ⟨(N _ hm).1, (N _ hm).2.2⟩, l, vs, n, rfl, hv, rfl⟩
theorem pint {x y : Int} {t : Tok} (e : x = y) : ∃ t', Value.int x t = .int y t' := ⟨t, by rw [e]⟩
theorem pbytes {x y : Array UInt8} {t : Tok} (e : x = y) : ∃ t', Value.bytes x t = .bytes y t' := ⟨t, by rw [e]⟩
theorem pstr {x y : Str} {t : Tok} (e : x = y) : ∃ t', Value.str x t = .str y t' := ⟨t, by rw [e]⟩
theorem pbool {x y : Bool} (e : x = y) : Value.bool x = .bool y := by rw [e]

/-! a goal laid by for the hand -/
def Park (P : Prop) : Prop := P
theorem park {P : Prop} (h : Park P) : P := h

/-! cuts of bytes -/
def cut (b : Array UInt8) (i j : Int) : Array UInt8 := ((b.toList.drop i.toNat).take (j.toNat - i.toNat)).toArray
def cutFrom (b : Array UInt8) (i : Int) : Array UInt8 := (b.toList.drop i.toNat).toArray
def cutTo (b : Array UInt8) (j : Int) : Array UInt8 := (b.toList.take j.toNat).toArray
def last1 (b : Array UInt8) : Array UInt8 := (b.toList.drop (b.size - 1)).toArray
theorem clip_nn {n : Nat} {i : Int} (h : 0 ≤ i) : clipAt n i = min i.toNat n := by
  have := clipAt_nat n i.toNat
  rw [Int.toNat_of_nonneg h] at this
  exact this
theorem drop_min {α : Type} (l : List α) (k : Nat) : l.drop (min k l.length) = l.drop k := by
  rcases Nat.le_total k l.length with h | h
  · rw [Nat.min_eq_left h]
  · rw [Nat.min_eq_right h, List.drop_length, List.drop_eq_nil_of_le h]
theorem min_toNat {x : Int} (n : Nat) (h : 0 ≤ x) : min x (n : Int) = ((min x.toNat n : Nat) : Int) := by
  obtain ⟨k, rfl⟩ := Int.eq_ofNat_of_zero_le h
  rw [Int.toNat_natCast]
  rcases Nat.le_total k n with q | q
  · rw [Nat.min_eq_left q, Int.min_eq_left (Int.ofNat_le.mpr q)]
  · rw [Nat.min_eq_right q, Int.min_eq_right (Int.ofNat_le.mpr q)]
theorem clip0 {x : Int} (n : Nat) (h : 0 ≤ x) : max 0 (min x (n : Int)) = ((min x.toNat n : Nat) : Int) := by
  rw [min_toNat n h]
  exact Int.max_eq_right (Int.natCast_nonneg _)
theorem run_eq {α : Type} (l : List α) (a b : Nat) : (l.drop (min a l.length)).take (min b l.length - min a l.length) = (l.drop a).take (b - a) := by
  rcases Nat.le_total a l.length with h | h
  · rw [Nat.min_eq_left h, ← Nat.sub_min_sub_right, ← List.take_take, List.take_of_length_le (i := l.length - a) (by rw [List.length_drop]; exact Nat.le_refl _)]
  · rw [Nat.min_eq_right h, List.drop_eq_nil_of_le (Nat.le_refl _), List.drop_eq_nil_of_le h, List.take_nil, List.take_nil]
theorem picked_ss {b : Array UInt8} {i j : Int} (hi : 0 ≤ i) (hj : 0 ≤ j) : KBy.picked b (some i) (some j) = cut b i j := by
  rw [KBc.picked_eq]
  unfold cut
  simp only [Option.elim]
  rw [clip_nn hi, clip_nn hj, ← Array.length_toList, run_eq]
theorem picked_sn {b : Array UInt8} {i : Int} (hi : 0 ≤ i) : KBy.picked b (some i) none = cutFrom b i := by
  rw [KBc.picked_eq]
  unfold cutFrom
  simp only [Option.elim]
  rw [clip_nn hi, ← Array.length_toList, drop_min, List.take_of_length_le]
  rw [List.length_drop]
  rcases Nat.le_total i.toNat b.toList.length with h | h
  · rw [Nat.min_eq_left h]; exact Nat.le_refl _
  · rw [Nat.sub_eq_zero_of_le h]; exact Nat.zero_le _
theorem picked_ns {b : Array UInt8} {j : Int} (hj : 0 ≤ j) : KBy.picked b none (some j) = cutTo b j := by
  rw [KBc.picked_eq]
  unfold cutTo
  simp only [Option.elim, List.drop_zero, Nat.sub_zero]
  rw [clip_nn hj, ← Array.length_toList, ← List.take_take, List.take_length]
theorem picked_last {b : Array UInt8} : KBy.picked b (some (-1)) none = last1 b := by
  rw [KBc.picked_eq]
  unfold last1
  simp only [Option.elim]
  have e : clipAt b.size (-1) = b.size - 1 := clipAt_neg b.size 1 (Nat.le_refl _)
  rw [e]
  congr 1
  apply List.take_of_length_le
  rw [List.length_drop, Array.length_toList]
  (first | lia | omega)
theorem cut_le (b : Array UInt8) (i j : Int) : (cut b i j).size ≤ b.size := by
  show ((b.toList.drop i.toNat).take (j.toNat - i.toNat)).length ≤ b.toList.length
  rw [List.length_take, List.length_drop]
  exact Nat.le_trans (Nat.min_le_right _ _) (Nat.sub_le _ _)
theorem cutFrom_le (b : Array UInt8) (i : Int) : (cutFrom b i).size ≤ b.size := by unfold cutFrom; simp
theorem cutTo_le (b : Array UInt8) (i : Int) : (cutTo b i).size ≤ b.size := by
  show (b.toList.take i.toNat).length ≤ b.toList.length
  rw [List.length_take]
  exact Nat.min_le_right _ _
theorem last1_le (b : Array UInt8) : (last1 b).size ≤ 1 := by unfold last1; simp; (first | lia | omega)

section
variable {prog : Program} {w : World} {A : Around} {E : Value → Shared → Prop} {s : Shared} {value slice : PySem.Expr} {b : Array UInt8} {t : Tok} {h₀ : Heap} {L : Addr} {m : PySem.Str → Option Value} {news : List (Addr × Obj)} {l u : Value} {lo hi : Option Int} {Q : Value → Shared → Prop} {i j : Int} {ti tj : Tok}
theorem slice_any (hF : Fr h₀ L s.heap m) (hN : News h₀ L s.heap news) (hl : IsPart l lo) (hu : IsPart u hi) (hz : b.size ≤ 16777216)
    (h : ∀ h' t' k, Fr h₀ L h' m → News h₀ L h' news → Q (.bytes (KBy.picked b lo hi) t') { s with heap := h', toks := k })
    (hs : subscripted slice false (.bytes b t) (.ref s.heap.objs.size) = operate [.ref s.heap.objs.size, .bytes b t] (getItem (.bytes b t) (.ref s.heap.objs.size)) := by with_unfolding_all rfl)
    (ht : ∀ r, letTemporaryGo value (.bytes b t) r = pure () := by intro _; with_unfolding_all rfl) :
    wpAny (model prog w) A (subscriptTail value slice (.bytes b t) (.ref s.heap.objs.size)) Q E { s with heap := s.heap.push { cls := .type "slice", data := .fields #[l, u, .none] } } :=
  tail_of_ItemOn ⟨"bytes", _, FB.slot_bytes_getitem.lookup, typeIs_bytes _ _ _, getItem_meets (typeIs_bytes _ _ _) (by decide) FB.slot_bytes_getitem FB.entry_bytes_getitem (FB.args_bytes_getitem_2 _ _) (KBc.meets_slice2 b t _ hl hu)
    ⟨Heap.IsSliceOf.new _ _ _ _, Nat.le_trans (KBc.size_picked_le b lo hi) (by rw [sizeLine_eq]; exact hz), fun t' k => h _ _ _ (hF.push _) (News.pushKeep hN _)⟩⟩ hs ht
theorem slice_ss (hF : Fr h₀ L s.heap m) (hN : News h₀ L s.heap news) (hi : 0 ≤ i) (hj : 0 ≤ j) (hz : b.size ≤ 16777216)
    (h : ∀ h' t' k, (cut b i j).size ≤ b.size → Fr h₀ L h' m → News h₀ L h' news → Q (.bytes (cut b i j) t') { s with heap := h', toks := k })
    (hs : subscripted slice false (.bytes b t) (.ref s.heap.objs.size) = operate [.ref s.heap.objs.size, .bytes b t] (getItem (.bytes b t) (.ref s.heap.objs.size)) := by with_unfolding_all rfl)
    (ht : ∀ r, letTemporaryGo value (.bytes b t) r = pure () := by intro _; with_unfolding_all rfl) :
    wpAny (model prog w) A (subscriptTail value slice (.bytes b t) (.ref s.heap.objs.size)) Q E { s with heap := s.heap.push { cls := .type "slice", data := .fields #[.int i ti, .int j tj, .none] } } :=
  slice_any hF hN (.int i ti) (.int j tj) hz (fun h' t' k F N => by rw [picked_ss hi hj]; exact h h' t' k (cut_le b i j) F N) hs ht
theorem slice_sn (hF : Fr h₀ L s.heap m) (hN : News h₀ L s.heap news) (hi : 0 ≤ i) (hz : b.size ≤ 16777216)
    (h : ∀ h' t' k, (cutFrom b i).size ≤ b.size → Fr h₀ L h' m → News h₀ L h' news → Q (.bytes (cutFrom b i) t') { s with heap := h', toks := k })
    (hs : subscripted slice false (.bytes b t) (.ref s.heap.objs.size) = operate [.ref s.heap.objs.size, .bytes b t] (getItem (.bytes b t) (.ref s.heap.objs.size)) := by with_unfolding_all rfl)
    (ht : ∀ r, letTemporaryGo value (.bytes b t) r = pure () := by intro _; with_unfolding_all rfl) :
    wpAny (model prog w) A (subscriptTail value slice (.bytes b t) (.ref s.heap.objs.size)) Q E { s with heap := s.heap.push { cls := .type "slice", data := .fields #[.int i ti, .none, .none] } } :=
  slice_any hF hN (.int i ti) .none hz (fun h' t' k F N => by rw [picked_sn hi]; exact h h' t' k (cutFrom_le b i) F N) hs ht
theorem slice_ns (hF : Fr h₀ L s.heap m) (hN : News h₀ L s.heap news) (hj : 0 ≤ j) (hz : b.size ≤ 16777216)
    (h : ∀ h' t' k, (cutTo b j).size ≤ b.size → Fr h₀ L h' m → News h₀ L h' news → Q (.bytes (cutTo b j) t') { s with heap := h', toks := k })
    (hs : subscripted slice false (.bytes b t) (.ref s.heap.objs.size) = operate [.ref s.heap.objs.size, .bytes b t] (getItem (.bytes b t) (.ref s.heap.objs.size)) := by with_unfolding_all rfl)
    (ht : ∀ r, letTemporaryGo value (.bytes b t) r = pure () := by intro _; with_unfolding_all rfl) :
    wpAny (model prog w) A (subscriptTail value slice (.bytes b t) (.ref s.heap.objs.size)) Q E { s with heap := s.heap.push { cls := .type "slice", data := .fields #[.none, .int j tj, .none] } } :=
  slice_any hF hN .none (.int j tj) hz (fun h' t' k F N => by rw [picked_ns hj]; exact h h' t' k (cutTo_le b j) F N) hs ht
theorem slice_last (hF : Fr h₀ L s.heap m) (hN : News h₀ L s.heap news) (hz : b.size ≤ 16777216) (e : i = -1)
    (h : ∀ h' t' k, (last1 b).size ≤ 1 → Fr h₀ L h' m → News h₀ L h' news → Q (.bytes (last1 b) t') { s with heap := h', toks := k })
    (hs : subscripted slice false (.bytes b t) (.ref s.heap.objs.size) = operate [.ref s.heap.objs.size, .bytes b t] (getItem (.bytes b t) (.ref s.heap.objs.size)) := by with_unfolding_all rfl)
    (ht : ∀ r, letTemporaryGo value (.bytes b t) r = pure () := by intro _; with_unfolding_all rfl) :
    wpAny (model prog w) A (subscriptTail value slice (.bytes b t) (.ref s.heap.objs.size)) Q E { s with heap := s.heap.push { cls := .type "slice", data := .fields #[.int i ti, .none, .none] } } := by
  subst e
  exact slice_any hF hN (.int (-1) ti) .none hz (fun h' t' k F N => by rw [picked_last]; exact h h' t' k (last1_le b) F N) hs ht
/-- the sign at a place, as a number -/
def at_ (b : Array UInt8) (i : Int) : Int := ((b.toList.getD i.toNat 0).toNat : Int)
theorem at_lo (b : Array UInt8) (i : Int) : 0 ≤ at_ b i := by unfold at_; (first | lia | omega)
theorem at_hi (b : Array UInt8) (i : Int) : at_ b i < 256 := by unfold at_; have := (b.toList.getD i.toNat 0).toNat_lt; (first | lia | omega)
theorem at_u8 (b : Array UInt8) (i : Int) : (at_ b i).toNat.toUInt8 = b.toList.getD i.toNat 0 := by
  unfold at_
  rw [Int.toNat_natCast]
  exact UInt8.ofNat_toNat
theorem item_M (hfit : b.size ≤ 16777216) (h0 : 0 ≤ i) (h1 : i < (b.size : Int)) (h : ∀ t' k, 0 ≤ at_ b i → at_ b i < 256 → Q (.int (at_ b i) t') { s with toks := k })
    (hs : subscripted slice false (.bytes b t) (.int i ti) = operate [.bytes b t, .int i ti] (getItem (.bytes b t) (.int i ti)) := by with_unfolding_all rfl)
    (ht : ∀ r, letTemporaryGo value (.bytes b t) r = pure () := by intro _; with_unfolding_all rfl) :
    wpAny (model prog w) A (subscriptTail value slice (.bytes b t) (.int i ti)) Q E s := by
  have e : b.toList.toArray = b := Array.toArray_toList
  have g : wpAny (model prog w) A (getItem (.bytes b.toList.toArray t) (.int i ti)) Q E s :=
    getItem_bytes (l := b.toList) (by rw [Array.length_toList]; (first | lia | omega)) h0 (by rw [Array.length_toList]; exact h1) (h _ _ (at_lo b i) (at_hi b i))
  rw [e] at g
  exact tail_of_ItemOn ⟨"bytes", _, FB.slot_bytes_getitem.lookup, typeIs_bytes _ _ _, g⟩ hs ht
end

end
section

/-- a contract that leans on objects that stand already -/
def CtrI (w : World) (lv : Nat) (f : Addr) (args : List Value) (inp : List (Addr × Obj)) (Post : Value → List (Addr × Obj) → Prop) : Prop :=
  ∀ (mean : ExcName → Option Value) (mg mb : Str → Option Value) (dp un : Nat) (gd : Option (List Code)) (fr : List Env) (s : Shared) (Q E : Value → Shared → Prop),
    (∀ p ∈ inp, s.heap.get? p.1 = some p.2) →
    (hd.heap_1 w.params).In s.heap → Top PP LO mean mg mb s.heap → dp + lv < recursionLimit → un + 8 * lv < cLine →
    (∀ r ad h' tk', (∀ b o, s.heap.get? b = some o → h'.get? b = some o) → (∀ p ∈ ad, h'.get? p.1 = some p.2 ∧ s.heap.get? p.1 = none) → Post r ad → Q r { s with heap := h', toks := tk' }) →
    wpAny (model PG w) (mkA dp un gd fr) (call (.ref f) args) Q E s

theorem ctri_enter {w : World} {lv : Nat} {f : Addr} {args : List Value} {inp : List (Addr × Obj)} {Post : Value → List (Addr × Obj) → Prop}
    {name qual : Str} {params : Arguments} {body : List Stmt} {scope : Scope} {dV kV doc pm cdv ct oc : Value} {an od : Option Addr} {osl : Array (Option Value)} {binds : List (Str × Value)}
    (ho : (hd.heap_1 w.params).lookup f = some ⟨oc, od, .func (fnOf name qual params body scope dV kV doc pm an cdv ct), osl⟩)
    (hcd : codeIn (hd.heap_1 w.params) cdv qual = true)
    (hlv : 1 ≤ lv)
    (hbind : ∀ s : Shared, (hd.heap_1 w.params).In s.heap → BindsTo s (fnOf name qual params body scope dV kV doc pm an cdv ct) ⟨args, []⟩ binds)
    (hloc : ∀ y ∈ binds, scope.names.lookup y.1 = some .local)
    (hcell : ∀ x ∈ scope.names, x.2 ≠ .cell)
    (hk : scope.kind = .function) (hco : scope.isCoroutine = false) (hgen : scope.isGenerator = false)
    (h : ∀ (mean : ExcName → Option Value) (mg mb : Str → Option Value) (dp un : Nat) (gd : Option (List Code)) (fr : List Env) (s : Shared) (g : Heap) (L : Addr) (h₁ : Heap) (tk : Nat),
      (∀ p ∈ inp, g.get? p.1 = some p.2) → (∀ p ∈ inp, p.1 ≠ L) →
      (hd.heap_1 w.params).In g → Top PP LO mean mg mb g → dp + (lv - 1) < recursionLimit → un + 8 * (lv - 1) < cLine →
      Fr g L h₁ (fun y => binds.reverse.lookup y) → News g L h₁ [] →
      wpAny (model PG w) (mkA dp un gd (envOf qual scope L f cdv :: fr)) (execs body (envOf qual scope L f cdv)) (CEnd g Post s) (fun _ _ => False) { s with heap := h₁, toks := tk }) :
    CtrI w lv f args inp Post := by
  intro mean mg mb dp un gd fr s Q E I X T hd hu hret
  refine wpAny_call (codeAny_call_def (fd := fnOf name qual params body scope dV kV doc pm an cdv ct) (body := body) (binds := binds) (by show dp < _; (first | lia | omega)) (X _ _ ho) rfl T.nolimit (codeRec_of X hcd) rfl (hbind s X) hcell hloc (fun h₁ hns hk₁ => ?_) hco hgen hk)
  have F : Fr s.heap s.heap.objs.size h₁ (fun y => binds.reverse.lookup y) := ⟨hns, hk₁, Nat.le_refl _⟩
  refine wpAny_mono (h mean mg mb (dp + 1) (un + 3) gd fr s s.heap s.heap.objs.size h₁ (s.toks + binds.length) I (fun p hp => Nat.ne_of_lt (Heap.lt_size (I p hp))) X T (by (first | lia | omega)) (by (first | lia | omega)) F (fun _ hp => nomatch hp)) (fun fl s' e => ?_) fun _ _ e => e.elim
  obtain ⟨ad, h', tk', rfl, hkeep, had, hp⟩ := e
  exact hret _ ad h' tk' hkeep had hp

theorem ctri_enterC {w : World} {lv : Nat} {f : Addr} {args : List Value} {inp : List (Addr × Obj)} {Post : Value → List (Addr × Obj) → Prop}
    {name qual : Str} {params : Arguments} {body : List Stmt} {scope : Scope} {dV kV doc pm cdv ct oc : Value} {an od : Option Addr} {osl : Array (Option Value)} {binds : List (Str × Value)}
    (ho : (hd.heap_1 w.params).lookup f = some ⟨oc, od, .func (fnOf name qual params body scope dV kV doc pm an cdv ct), osl⟩)
    (hcd : codeIn (hd.heap_1 w.params) cdv qual = true)
    (hlv : 1 ≤ lv)
    (hbind : ∀ s : Shared, (hd.heap_1 w.params).In s.heap → BindsTo s (fnOf name qual params body scope dV kV doc pm an cdv ct) ⟨args, []⟩ binds)
    (hkind : (binds.all fun y => scope.names.lookup y.1 == some .local || scope.names.lookup y.1 == some .cell) = true)
    (hnd : ((cellsFrom 0 scope.names []).map (·.1)).Nodup)
    (hk : scope.kind = .function) (hco : scope.isCoroutine = false) (hgen : scope.isGenerator = false)
    (h : ∀ (mean : ExcName → Option Value) (mg mb : Str → Option Value) (dp un : Nat) (gd : Option (List Code)) (fr : List Env) (s : Shared) (g : Heap) (L : Addr) (h₁ : Heap) (tk : Nat) (cells : List (Addr × Obj)),
      (∀ p ∈ inp, g.get? p.1 = some p.2) → (∀ p ∈ inp, p.1 ≠ L) →
      (hd.heap_1 w.params).In g → Top PP LO mean mg mb g → dp + (lv - 1) < recursionLimit → un + 8 * (lv - 1) < cLine →
      Fr g L h₁ (bindL (envOfC qual scope L f cdv).kindOf binds fun _ => none) → News g L h₁ cells →
      CellsAre (bindC (envOfC qual scope L f cdv).kindOf binds fun _ => none) (cellsFrom (L + 1) scope.names []) cells →
      wpAny (model PG w) (mkA dp un gd (envOfC qual scope L f cdv :: fr)) (execs body (envOfC qual scope L f cdv)) (CEnd g Post s) (fun _ _ => False) { s with heap := h₁, toks := tk }) :
    CtrI w lv f args inp Post := by
  intro mean mg mb dp un gd fr s Q E I X T hd hu hret
  refine wpAny_call (codeAny_call_function (fd := fnOf name qual params body scope dV kV doc pm an cdv ct) (by show dp < _; (first | lia | omega)) (X _ _ ho) rfl hco hgen rfl (codeRec_of X hcd) (hbind s X _ _ _ _ ?_))
  refine wpAny_newFunctionEnv_cells hk (kindsX hkind _) fun env' he s' x => ?_
  subst he
  refine ⟨T.nolimit.keeps x.toInCall.keep, codeAny_func ?_⟩
  obtain ⟨h₁, tk, rfl, _⟩ := x.done
  have hk₁ := x.toInCall.keep
  obtain ⟨cells, NC, Y⟩ := Cl.news (h₀ := s.heap) (Nat.le_refl _) fun n c hm => ⟨x.cell n c (lookup_of_mem_nodup (cellsFrom_names scope.names 0 (s.heap.objs.size + 1) [] [] rfl ▸ hnd) hm), x.above n c hm⟩
  refine wpAny_mono (h mean mg mb (dp + 1) (un + 3) gd fr s s.heap s.heap.objs.size h₁ tk cells I (fun p hp => Nat.ne_of_lt (Heap.lt_size (I p hp))) X T (by (first | lia | omega)) (by (first | lia | omega)) ⟨x.toInCall.ns, hk₁, Nat.le_refl _⟩ (fun p hp => ⟨(NC p hp).1, (NC p hp).2.1, (NC p hp).2.2⟩) Y) (fun fl s' e => ?_) fun _ _ e => e.elim
  obtain ⟨ad, h', tk', rfl, hkeep, had, hp⟩ := e
  exact hret _ ad h' tk' hkeep had hp

section
variable {w : World} {lv : Nat} {f : Addr} {args : List Value} {inp : List (Addr × Obj)}
variable {mean : ExcName → Option Value} {mg mb : Str → Option Value} {dp un : Nat} {gd : Option (List Code)} {fr : List Env} {h₀ : Heap} {L : Addr} {m : Str → Option Value} {news : List (Addr × Obj)} {s : Shared} {Q E : Value → Shared → Prop}
theorem ctri_use {Post : Value → List (Addr × Obj) → Prop} (C : CtrI w lv f args inp Post)
    (X : (hd.heap_1 w.params).In h₀) (T : Top PP LO mean mg mb h₀) (F : Fr h₀ L s.heap m) (N : News h₀ L s.heap news) (hin : ∀ p ∈ inp, p ∈ news)
    (hd : dp + lv < recursionLimit) (hu : un + 8 * lv < cLine)
    (h : ∀ r ad h' tk', Post r ad → Fr h₀ L h' m → News h₀ L h' (ad ++ news) → (∀ p ∈ ad, ∀ q ∈ news, p.1 ≠ q.1) → Q r { s with heap := h', toks := tk' }) :
    wpAny (model PG w) (mkA dp un gd fr) (call (.ref f) args) Q E s := by
  refine C mean mg mb dp un gd fr s Q E (fun p hp => (N p (hin p hp)).1) (X.keeps F.keep) (T.keeps F.keep) hd hu fun r ad h' tk' hk ha hp => ?_
  obtain ⟨oL, es, ep, hL, hLr⟩ := F.ns
  refine h r ad h' tk' hp ⟨⟨oL, es, ep, hk _ _ hL, hLr⟩, fun b o e => hk _ _ (F.keep b o e), F.above⟩ (fun p hp => ?_) fun p hp q hq e => ?_
  · rcases List.mem_append.mp hp with hp | hp
    · refine ⟨(ha p hp).1, fun e => ?_, ?_⟩
      · have h1 := (ha p hp).2
        rw [e, hL] at h1; cases h1
      · cases hq : h₀.get? p.1 with
        | none => rfl
        | some o => have h1 := (ha p hp).2; rw [F.keep _ _ hq] at h1; cases h1
    · exact ⟨hk _ _ (N p hp).1, (N p hp).2⟩
  · have h1 := (ha p hp).2
    rw [e, (N q hq).1] at h1; cases h1
theorem usei_bytes {x : Array UInt8} (C : CtrI w lv f args inp (PBytes x)) (X : (hd.heap_1 w.params).In h₀) (T : Top PP LO mean mg mb h₀) (F : Fr h₀ L s.heap m) (N : News h₀ L s.heap news) (hin : ∀ p ∈ inp, p ∈ news) (hd : dp + lv < recursionLimit) (hu : un + 8 * lv < cLine)
    (h : ∀ t h' tk', Fr h₀ L h' m → News h₀ L h' news → Q (.bytes x t) { s with heap := h', toks := tk' }) : wpAny (model PG w) (mkA dp un gd fr) (call (.ref f) args) Q E s :=
  ctri_use C X T F N hin hd hu fun _ _ h' tk' hp F' N' _ => by obtain ⟨t, rfl⟩ := hp; exact h t h' tk' F' (drop_ad N')
theorem usei_bl {x : List (Array UInt8)} (C : CtrI w lv f args inp (PBL x)) (X : (hd.heap_1 w.params).In h₀) (T : Top PP LO mean mg mb h₀) (F : Fr h₀ L s.heap m) (N : News h₀ L s.heap news) (hin : ∀ p ∈ inp, p ∈ news) (hd : dp + lv < recursionLimit) (hu : un + 8 * lv < cLine)
    (h : ∀ l vs n h' tk', BytesAre vs x → Fr h₀ L h' m → News h₀ L h' ((l, listOf vs.toArray n) :: news) → (∀ q ∈ news, l ≠ q.1) → Q (.ref l) { s with heap := h', toks := tk' }) : wpAny (model PG w) (mkA dp un gd fr) (call (.ref f) args) Q E s :=
  ctri_use C X T F N hin hd hu fun _ _ h' tk' hp F' N' hne => by obtain ⟨l, vs, n, rfl, hv, rfl⟩ := hp; exact h l vs n h' tk' hv F' N' (hne _ (List.mem_singleton.mpr rfl))
end

def ints8 (us : List UInt8) : List Int := us.map fun u => (u.toNat : Int)
theorem in_ints8 (us : List UInt8) : KBa.In (ints8 us) := fun n hn => by
  obtain ⟨u, _, rfl⟩ := List.mem_map.mp hn
  have := u.toNat_lt
  (first | lia | omega)
theorem byteArr_ints8 (us : List UInt8) : byteArr (ints8 us) = us.toArray := by
  show ((us.map fun u => (u.toNat : Int)).map fun n => n.toNat.toUInt8).toArray = us.toArray
  rw [List.map_map]
  congr 1
  rw [show ((fun n : Int => n.toNat.toUInt8) ∘ fun u : UInt8 => (u.toNat : Int)) = id from funext fun u => by
    show ((u.toNat : Int).toNat).toUInt8 = u
    rw [Int.toNat_natCast]
    exact UInt8.ofNat_toNat]
  simp
theorem ints8_snoc {ws : List Value} {us : List UInt8} {t : Tok} {x : Int} {u : UInt8} (h : IntsAre ws (ints8 us)) (e : x = (u.toNat : Int)) : IntsAre (ws ++ [.int x t]) (ints8 (us ++ [u])) := by
  subst e
  unfold ints8
  rw [List.map_append]
  exact h.append (.cons _ _ .nil)
theorem ints8_length (us : List UInt8) : (ints8 us).length = us.length := List.length_map ..

/-! lists of bytes that stand in the base or on the ledger -/
section
variable {prog : Program} {w : World} {A : Around} {E : Value → Shared → Prop} {s : Shared} {value slice : PySem.Expr} {h₀ : Heap} {L : Addr} {m : PySem.Str → Option Value} {news : List (Addr × Obj)} {l : Addr} {vs : List Value} {n : Nat} {Q : Value → Shared → Prop} {i : Int} {ti : Tok} {bs : List (Array UInt8)}
theorem isList_of {h : Heap} (hl : h.get? l = some (listOf vs.toArray n)) : h.IsList l vs.toArray := ⟨_, hl, rfl, n, rfl⟩
theorem len_base (hl : h₀.get? l = some (listOf vs.toArray n)) (F : Fr h₀ L s.heap m) (hfit : vs.length ≤ 16777216) (h : ∀ t k, Q (.int vs.length t) { s with toks := k }) : wpAny (model prog w) A (call (.builtin "len") [.ref l]) Q E s := by
  have e : (List.toArray vs).size = vs.length := List.size_toArray ..
  exact call_len_list (isList_of (F.keep _ _ hl)) (by rw [e]; (first | lia | omega)) (by rw [e]; exact h _ _)
theorem len_led (N : News h₀ L s.heap news) (hm : (l, listOf vs.toArray n) ∈ news) (hfit : vs.length ≤ 16777216) (h : ∀ t k, Q (.int vs.length t) { s with toks := k }) : wpAny (model prog w) A (call (.builtin "len") [.ref l]) Q E s := by
  have e : (List.toArray vs).size = vs.length := List.size_toArray ..
  exact call_len_list (isList_of (N _ hm).1) (by rw [e]; (first | lia | omega)) (by rw [e]; exact h _ _)
theorem pick_to (vs : List Value) {y : Int} (h : 0 ≤ y) : slicePick vs.toArray none (some y) none = (vs.take y.toNat).toArray := by
  have e : sliceBounds none (some y) none vs.toArray.size = (((0 : Nat) : Int), ((min y.toNat vs.toArray.size : Nat) : Int), 1) := by
    simp only [sliceBounds, Option.getD_none, show (1 : Int) > 0 by decide, if_true, if_neg (Int.not_lt.mpr h)]
    rw [clip0 _ h]
    rfl
  rw [kmk_pick_nat _ e]
  show ((vs.drop 0).take (min y.toNat vs.toArray.size - 0)).toArray = _
  rw [List.drop_zero, Nat.sub_zero, List.size_toArray, kmk_take_min]
theorem pick_run (vs : List Value) {x y : Int} (h : 0 ≤ x) (h2 : 0 ≤ y) : slicePick vs.toArray (some x) (some y) none = ((vs.drop x.toNat).take (y.toNat - x.toNat)).toArray := by
  have e : sliceBounds (some x) (some y) none vs.toArray.size = (((min x.toNat vs.toArray.size : Nat) : Int), ((min y.toNat vs.toArray.size : Nat) : Int), 1) := by
    simp only [sliceBounds, Option.getD_none, show (1 : Int) > 0 by decide, if_true, if_neg (Int.not_lt.mpr h), if_neg (Int.not_lt.mpr h2)]
    rw [clip0 _ h, clip0 _ h2]
  rw [kmk_pick_nat _ e]
  show ((vs.drop (min x.toNat vs.toArray.size)).take (min y.toNat vs.toArray.size - min x.toNat vs.toArray.size)).toArray = _
  rw [List.size_toArray, run_eq]
theorem lslice_to {value slice : PySem.Expr} {y : Int} {ty : Tok} {Q : Value → Shared → Prop} (F : Fr h₀ L s.heap m) (N : News h₀ L s.heap news) (hm : (l, listOf vs.toArray n) ∈ news) (hy : 0 ≤ y) (hz : vs.length ≤ 16777216)
    (h : ∀ D h', Fr h₀ L h' m → News h₀ L h' ((D, listOf (vs.take y.toNat).toArray 0) :: news) → (∀ p ∈ news, p.1 < D) → Q (.ref D) { s with heap := h' })
    (hs : subscripted slice false (.ref l) (.ref s.heap.objs.size) = operate [.ref s.heap.objs.size, .ref l] (getItem (.ref l) (.ref s.heap.objs.size))) (ht : ∀ r, letTemporaryGo value (.ref l) r = pure ()) :
    wpAny (model prog w) A (subscriptTail value slice (.ref l) (.ref s.heap.objs.size)) Q E { s with heap := s.heap.push { cls := .type "slice", data := .fields #[.none, .int y ty, .none] } } :=
  kmk_slice F N (isList_of (N _ hm).1) .none (.int y ty) (fun D h' F' N' l1 => h D h' F' (by rw [← pick_to vs hy]; exact N') l1) hs ht (by rw [sizeLine_eq, List.size_toArray]; exact hz)
theorem lslice_run {value slice : PySem.Expr} {x y : Int} {tx ty : Tok} {Q : Value → Shared → Prop} (F : Fr h₀ L s.heap m) (N : News h₀ L s.heap news) (hm : (l, listOf vs.toArray n) ∈ news) (hx : 0 ≤ x) (hy : 0 ≤ y) (hz : vs.length ≤ 16777216)
    (h : ∀ D h', Fr h₀ L h' m → News h₀ L h' ((D, listOf ((vs.drop x.toNat).take (y.toNat - x.toNat)).toArray 0) :: news) → (∀ p ∈ news, p.1 < D) → Q (.ref D) { s with heap := h' })
    (hs : subscripted slice false (.ref l) (.ref s.heap.objs.size) = operate [.ref s.heap.objs.size, .ref l] (getItem (.ref l) (.ref s.heap.objs.size))) (ht : ∀ r, letTemporaryGo value (.ref l) r = pure ()) :
    wpAny (model prog w) A (subscriptTail value slice (.ref l) (.ref s.heap.objs.size)) Q E { s with heap := s.heap.push { cls := .type "slice", data := .fields #[.int x tx, .int y ty, .none] } } :=
  kmk_slice F N (isList_of (N _ hm).1) (.int x tx) (.int y ty) (fun D h' F' N' l1 => h D h' F' (by rw [← pick_run vs hx hy]; exact N') l1) hs ht (by rw [sizeLine_eq, List.size_toArray]; exact hz)
theorem ext_M {D b : Addr} {xs ys : List Value} {n2 : Nat} {news' : List (Addr × Obj)} {Q : Value → Shared → Prop} (F : Fr h₀ L s.heap m) (N : News h₀ L s.heap news) (_ : True) (hb : (b, listOf ys.toArray n2) ∈ news) (hne : 0 < ys.length)
    (U : Upd D (listOf xs.toArray n) (listOf (xs ++ ys).toArray (n + 1)) news news') (hz : xs.length + ys.length ≤ 16777216)
    (h : ∀ h', Fr h₀ L h' m → News h₀ L h' news' → Q .none { s with heap := h' }) : wpAny (model prog w) A (call (.builtin "list.extend") [.ref D, .ref b]) Q E s := by
  refine kl_extend (its := xs.toArray) (its2 := ys.toArray) F N hb rfl (by simp; intro q; rw [q] at hne; simp at hne) U ?_ (by rw [sizeLine_eq]; simp; (first | lia | omega)) (by rw [sizeLine_eq]; simp; (first | lia | omega)) h
  have : Builtin.List.listTooLong (xs.toArray.size + ys.toArray.size) = false := by
    unfold Builtin.List.listTooLong
    rw [sizeLine_eq]
    simp
    (first | lia | omega)
  rw [this]
  simp
theorem item_bl (hl : s.heap.get? l = some (listOf vs.toArray n)) (hv : BytesAre vs bs) (h0 : 0 ≤ i) (h1 : i < (bs.length : Int)) (h2 : bs.length ≤ 16777216) (h : ∀ t k, Q (.bytes (bs.getD i.toNat #[]) t) { s with toks := k })
    (hs : subscripted slice false (.ref l) (.int i ti) = operate [.ref l, .int i ti] (getItem (.ref l) (.int i ti)) := by with_unfolding_all rfl) :
    wpAny (model prog w) A (subscriptTail value slice (.ref l) (.int i ti)) Q E s := by
  have hL := isList_of hl
  have hlt : i.toNat < vs.length := by rw [hv.length]; (first | lia | omega)
  obtain ⟨b, t, hb, hvb⟩ := hv.get (List.getElem?_eq_getElem hlt)
  have e : bs.getD i.toNat #[] = b := by rw [List.getD_eq_getElem?_getD, hb]; rfl
  refine tail_any hL.typeIs slot_list_getitem.lookup (wpAny_getItem_list hL h0 (by (first | lia | omega)) (x := .bytes b t) ?_ ?_) hs
  · rw [← hvb]; simp [hlt]
  · have := h t s.toks
    rw [e] at this
    exact this
end
def flat (bs : List (Array UInt8)) : Array UInt8 := (bs.map Array.toList).flatten.toArray
theorem flat_nil : flat [] = #[] := rfl
theorem flat_append (a b : List (Array UInt8)) : flat (a ++ b) = flat a ++ flat b := by unfold flat; simp
theorem flat_one (x : Array UInt8) : flat [x] = x := by unfold flat; simp
theorem flat_take_succ {bs : List (Array UInt8)} {i : Nat} (h : i < bs.length) : flat (bs.take (i + 1)) = flat (bs.take i) ++ bs.getD i #[] := by
  rw [List.take_add_one, List.getElem?_eq_getElem h, flat_append]
  congr 1
  rw [List.getD_eq_getElem?_getD, List.getElem?_eq_getElem h]
  exact flat_one _
theorem flat_take_le (bs : List (Array UInt8)) (i : Nat) : (flat (bs.take i)).size ≤ (flat bs).size := by
  have : flat bs = flat (bs.take i) ++ flat (bs.drop i) := by rw [← flat_append, List.take_append_drop]
  rw [this, Array.size_append]; (first | lia | omega)
theorem flat_size_cons (x : Array UInt8) (r : List (Array UInt8)) : (flat (x :: r)).size = x.size + (flat r).size := by unfold flat; simp

theorem fold_size (bs : List (Array UInt8)) : ∀ k : Nat, bs.foldl (fun x y => x + y.size) k = k + (flat bs).size := by
  induction bs with
  | nil => intro k; rfl
  | cons x r ih => intro k; rw [List.foldl_cons, ih, flat_size_cons]; (first | lia | omega)
section
variable {prog : Program} {w : World} {A : Around} {E : Value → Shared → Prop} {s : Shared} {h₀ : Heap} {L : Addr} {m : PySem.Str → Option Value} {news : List (Addr × Obj)} {l : Addr} {vs : List Value} {n : Nat} {Q : Value → Shared → Prop} {bs : List (Array UInt8)} {t : Tok}
theorem join0 (hl : s.heap.get? l = some (listOf vs.toArray n)) (hv : BytesAre vs bs) (hz : (flat bs).size ≤ 16777216) (h : ∀ t' k, Q (.bytes (flat bs) t') { s with toks := k }) :
    wpAny (model prog w) A (call (.builtin "bytes.join") [.bytes #[] t, .ref l]) Q E s := by
  have e : PySem.Builtin.Bytes.joined #[] bs = flat bs := joined_nil bs
  refine join1 hl rfl rfl hv ?_ (by rw [e]; exact hz) (fun t' k => by rw [e]; exact h t' k)
  have := fold_size bs ((#[] : Array UInt8).size * (bs.length - 1))
  rw [this]
  simpa using hz
end
section
variable {prog : Program} {w : World} {A : Around} {E : Value → Shared → Prop} {s : Shared} {env : Env} {h₀ : Heap} {x : Str} {body : List Stmt} {Q : Flow → Shared → Prop}
/-- a for over a list of the base -/
theorem for_base {l : Addr} {vs : List Value} {n : Nat} {m₀ : Str → Option Value} {news : List (Addr × Obj)} (J : Nat → List (Str × Value) → List (Addr × Obj) → Prop) (ps₀ : List (Str × Value)) (led₀ : List (Addr × Obj))
    (hh : A.handled = none) (hol : h₀.get? l = some (listOf vs.toArray n)) (hlL : l ≠ env.locals)
    (F : Fr h₀ env.locals s.heap m₀) (N : News h₀ env.locals s.heap news) (hled : ∀ p ∈ led₀, p ∈ news) (hps : ∀ p ∈ ps₀, m₀ p.1 = some p.2) (hj : J 0 ps₀ led₀)
    (turn : ∀ i v ps led m I oI h tk, i < vs.length → vs[i]? = some v → J i ps led → (∀ p ∈ led, p.1 ≠ I) → Fr h₀ env.locals h (fun y => if y = x then some v else kstB m ps y) → News h₀ env.locals h (led ++ [(I, oI)]) →
      wpAny (model prog w) A (execs body env) (TurnPost h₀ env.locals I oI (J (i + 1)) { s with heap := h, toks := tk } Q) E { s with heap := h, toks := tk })
    (done : ∀ ps led m h tk, J vs.length ps led → Fr h₀ env.locals h (kstB m ps) → News h₀ env.locals h led → Q .next { s with heap := h, toks := tk }) :
    wpAny (model prog w) A (pyIter (.ref l)) (fun it s₂ => LoopAtV prog w A h₀ env x body Q E it s₂) E s :=
  for_list J ps₀ led₀ hh (F.keep _ _ hol) (isList_of (F.keep _ _ hol)) hlL (fun _ _ _ _ h0 => by rw [hol] at h0; cases h0) F N hled hps hj turn done
/-- a for over a list of the ledger, that stands through the turns -/
theorem for_ledger {l : Addr} {vs : List Value} {n : Nat} {m₀ : Str → Option Value} {news : List (Addr × Obj)} (J : Nat → List (Str × Value) → List (Addr × Obj) → Prop) (ps₀ : List (Str × Value)) (led₀ : List (Addr × Obj))
    (hh : A.handled = none) (hol : (l, listOf vs.toArray n) ∈ news) (hwh : ∀ i ps led, J i ps led → (l, listOf vs.toArray n) ∈ led)
    (F : Fr h₀ env.locals s.heap m₀) (N : News h₀ env.locals s.heap news) (hled : ∀ p ∈ led₀, p ∈ news) (hps : ∀ p ∈ ps₀, m₀ p.1 = some p.2) (hj : J 0 ps₀ led₀)
    (turn : ∀ i v ps led m I oI h tk, i < vs.length → vs[i]? = some v → J i ps led → (∀ p ∈ led, p.1 ≠ I) → Fr h₀ env.locals h (fun y => if y = x then some v else kstB m ps y) → News h₀ env.locals h (led ++ [(I, oI)]) →
      wpAny (model prog w) A (execs body env) (TurnPost h₀ env.locals I oI (J (i + 1)) { s with heap := h, toks := tk } Q) E { s with heap := h, toks := tk })
    (done : ∀ ps led m h tk, J vs.length ps led → Fr h₀ env.locals h (kstB m ps) → News h₀ env.locals h led → Q .next { s with heap := h, toks := tk }) :
    wpAny (model prog w) A (pyIter (.ref l)) (fun it s₂ => LoopAtV prog w A h₀ env x body Q E it s₂) E s :=
  for_list J ps₀ led₀ hh (N _ hol).1 (isList_of (N _ hol).1) (N _ hol).2.1 (fun i ps led hJ _ => hwh i ps led hJ) F N hled hps hj turn done

theorem rstrip2 {b c : Array UInt8} {t u : Tok} {s : Shared} {Q : Value → Shared → Prop} {E : Value → Shared → Prop} (hsz : b.size ≤ 16777216) (h : ∀ (r : Array UInt8) t' k, r.toList = rstripped b.toList c.toList → r.size ≤ b.size → Q (.bytes r t') { s with toks := k }) :
    wpAny (model prog w) A (call (.builtin "bytes.rstrip") [.bytes b t, .bytes c u]) Q E s :=
  rstrip1 hsz fun t' k => h _ t' k rfl (by
    rw [List.size_toArray]
    unfold rstripped
    rw [List.length_reverse]
    refine Nat.le_trans (List.dropWhile_suffix _).length_le ?_
    simp)

/-! a while -/
def WhPost (h₀ : Heap) (L : Addr) (J : Nat → List (Str × Value) → List (Addr × Obj) → Prop) (k : Nat) (s₁ : Shared) (Q : Flow → Shared → Prop) (f : Flow) (s₂ : Shared) : Prop :=
  match f with
  | .ret v => Q (.ret v) s₂
  | .brk => Q .next s₂
  | _ => ∃ h' tk m' news' ps led k', k' < k ∧ s₂ = { s₁ with heap := h', toks := tk } ∧ Fr h₀ L h' m' ∧ News h₀ L h' news' ∧ (∀ p ∈ led, p ∈ news') ∧ (∀ p ∈ ps, m' p.1 = some p.2) ∧ J k' ps led
theorem WhPost.intro {h₀ : Heap} {L : Addr} {J : Nat → List (Str × Value) → List (Addr × Obj) → Prop} {k : Nat} {s₁ : Shared} {Q : Flow → Shared → Prop} {h' : Heap} {tk : Nat} {m' : Str → Option Value} {news' : List (Addr × Obj)} (ps : List (Str × Value)) (led : List (Addr × Obj)) (k' : Nat)
    (F : Fr h₀ L h' m') (N : News h₀ L h' news') (hl : ∀ p ∈ led, p ∈ news') (hp : ∀ p ∈ ps, m' p.1 = some p.2) (hk : k' < k) (hj : J k' ps led) : WhPost h₀ L J k s₁ Q .next { s₁ with heap := h', toks := tk } :=
  ⟨h', tk, m', news', ps, led, k', hk, rfl, F, N, hl, hp, hj⟩
theorem while_J {test : Expr} {pos : Pos} {m₀ : Str → Option Value} {news : List (Addr × Obj)} (J : Nat → List (Str × Value) → List (Addr × Obj) → Prop) (k₀ : Nat) (ps₀ : List (Str × Value)) (led₀ : List (Addr × Obj))
    (F : Fr h₀ env.locals s.heap m₀) (N : News h₀ env.locals s.heap news) (hled : ∀ p ∈ led₀, p ∈ news) (hps : ∀ p ∈ ps₀, m₀ p.1 = some p.2) (hj : J k₀ ps₀ led₀) (hE : PassesOwn (model prog w) A env E)
    (turn : ∀ k ps led m h tk, J k ps led → Fr h₀ env.locals h (kstB m ps) → News h₀ env.locals h led →
      wpAny (model prog w) A (isTrue test env (eval test env)) (fun b s₂ => if b = true then wpAny (model prog w) A (execs body env) (WhPost h₀ env.locals J k { s with heap := h, toks := tk } Q) E s₂ else Q .next s₂) E { s with heap := h, toks := tk }) :
    wpAny (model prog w) A (exec (.While test body [] pos) env) Q E s := by
  refine wpAny_While (codeAny_whileLoop (fun k s' => ∃ h' tk m' ps led, s' = { s with heap := h', toks := tk } ∧ Fr h₀ env.locals h' m' ∧ News h₀ env.locals h' led ∧ (∀ p ∈ ps, m' p.1 = some p.2) ∧ J k ps led) ?_ k₀ ⟨s.heap, s.toks, m₀, ps₀, led₀, rfl, F, fun p hp => N p (hled p hp), hps, hj⟩)
  rintro k s' ⟨h', tk, m', ps, led, rfl, F', N', hps', hJ⟩
  refine wpAny_mono (wpAny_passesOwn hE (turn k ps led m' h' tk hJ (fr_ps hps' F') N')) (fun b s₂ q => ?_) fun _ _ x => x
  cases b with
  | false =>
    simp only [Bool.false_eq_true, if_false] at q ⊢
    exact wpAny_execs_nil q
  | true =>
    simp only [if_true] at q ⊢
    refine wpAny_mono (wpAny_passesOwn hE q) (fun f s₃ q' => ?_) fun _ _ x => x
    have go : ∀ f, (f = .next ∨ f = .cont) → WhPost h₀ env.locals J k { s with heap := h', toks := tk } Q f s₃ → ∃ m, m < k ∧ ∃ h' tk m' ps led, s₃ = { s with heap := h', toks := tk } ∧ Fr h₀ env.locals h' m' ∧ News h₀ env.locals h' led ∧ (∀ p ∈ ps, m' p.1 = some p.2) ∧ J m ps led := by
      intro f hf q'
      have q2 : ∃ h'' tk' m' news' ps led k', k' < k ∧ s₃ = { s with heap := h'', toks := tk' } ∧ Fr h₀ env.locals h'' m' ∧ News h₀ env.locals h'' news' ∧ (∀ p ∈ led, p ∈ news') ∧ (∀ p ∈ ps, m' p.1 = some p.2) ∧ J k' ps led := by
        rcases hf with rfl | rfl <;> exact q'
      obtain ⟨h'', tk', m'', news', ps', led', k', hk, e, F'', N'', hl, hp, hj'⟩ := q2
      exact ⟨k', hk, h'', tk', m'', ps', led', e, F'', fun p hp => N'' p (hl p hp), hp, hj'⟩
    cases f with
    | ret v => exact q'
    | brk => exact q'
    | next => exact go .next (.inl rfl) q'
    | cont => exact go .cont (.inr rfl) q'

/-! a for whose target is more than a name, over a list of the ledger -/
theorem for_ledgerT {l : Addr} {vs : List Value} {n : Nat} {target : Expr} {m₀ : Str → Option Value} {news : List (Addr × Obj)} (J : Nat → List (Str × Value) → List (Addr × Obj) → Prop) (ps₀ : List (Str × Value)) (led₀ : List (Addr × Obj))
    (hh : A.handled = none) (hol : (l, listOf vs.toArray n) ∈ news) (hwh : ∀ i ps led, J i ps led → (l, listOf vs.toArray n) ∈ led)
    (F : Fr h₀ env.locals s.heap m₀) (N : News h₀ env.locals s.heap news) (hled : ∀ p ∈ led₀, p ∈ news) (hps : ∀ p ∈ ps₀, m₀ p.1 = some p.2) (hj : J 0 ps₀ led₀)
    (turn : ∀ i v ps led m I oI h tk, i < vs.length → vs[i]? = some v → J i ps led → (∀ p ∈ led, p.1 ≠ I) → Fr h₀ env.locals h (kstB m ps) → News h₀ env.locals h (led ++ [(I, oI)]) →
      wpAny (model prog w) A (assign target env v) (fun _ s₃ => wpAny (model prog w) A (execs body env) (TurnPost h₀ env.locals I oI (J (i + 1)) { s with heap := h, toks := tk } Q) E s₃) E { s with heap := h, toks := tk })
    (done : ∀ ps led m h tk, J vs.length ps led → Fr h₀ env.locals h (kstB m ps) → News h₀ env.locals h led → Q .next { s with heap := h, toks := tk }) :
    wpAny (model prog w) A (pyIter (.ref l)) (fun it s₂ => TurnsAt prog w A h₀ env target body Q E it s₂) E s := by
  have hL := (N _ hol)
  have hls := isList_of hL.1
  have hne : l ≠ s.heap.objs.size := Nat.ne_of_lt (Heap.lt_size hL.1)
  have hnI : ∀ p ∈ led₀, p.1 ≠ s.heap.objs.size := fun p hp e => absurd (Heap.lt_size (N p (hled p hp)).1) (e ▸ Nat.lt_irrefl _)
  refine wpAny_pyIter_list hls ?_
  have W := KTurns.ofWalks (target := target) (Walks.list (prog := prog) (w := w) hh s.heap.objs.size l hne vs.toArray) fun i v s Q E st q => letGo_listiter st.1 q
  have hlen : vs.toArray.size = vs.length := by simp
  rw [hlen] at W
  refine ⟨_, _, _, vs.length, _, _, _, m₀, led₀, (fun i m led => ∃ ps, (∀ p ∈ ps, m p.1 = some p.2) ∧ (∀ p ∈ led, p.1 ≠ s.heap.objs.size) ∧ J i ps led), rfl, W, ?_, ?_, ?_, ⟨⟨_, Heap.get?_push_size _ rfl, rfl, rfl⟩, hls.at fun o e => Heap.get?_push_of_some _ e⟩, F.push _, (fun p hp => ⟨Heap.get?_push_of_some _ (N p (hled p hp)).1, (N p (hled p hp)).2⟩), ⟨ps₀, hps, hnI, hj⟩, ?_, ?_⟩
  · intro hm
    rcases List.mem_cons.mp hm with e | hm
    · exact absurd F.ns.lt (e ▸ Nat.lt_irrefl _)
    · exact hL.2.1 (List.mem_singleton.mp hm).symm
  · intro b hb
    rw [List.mem_singleton.mp hb]
    exact next_is_new F
  · intro p hp hI
    exact hnI p hp (List.mem_singleton.mp hI)
  · rintro i v m₁ led h₁ tk₁ own hin hP ⟨ps, hps', hlI, hJ⟩ hoff hown hget hfp hst F₁ N₁
    have hI0 : h₀.get? s.heap.objs.size = none := next_is_new F
    obtain ⟨⟨oI, hoI, _⟩, _⟩ := id hst
    have hIown : (s.heap.objs.size, oI) ∈ own := hfp _ (List.mem_cons_self ..) hI0 oI hoI
    have hv : vs[i]? = some v := by simpa using hP
    refine wpAny_mono (turn i v ps led m₁ s.heap.objs.size oI h₁ tk₁ hin hv hJ hlI (fr_ps hps' F₁) fun p hp => N₁ p ?_) (fun _ s₂ q0 => wpAny_mono q0 (fun f s₂ q => ?_) fun _ _ e => e) fun _ _ e => e
    · rcases List.mem_append.mp hp with hp | hp
      · exact List.mem_append_right _ hp
      · rw [List.mem_singleton.mp hp]; exact List.mem_append_left _ hIown
    · have fin : TurnEnd h₀ env.locals s.heap.objs.size oI (J (i + 1)) { s with heap := h₁, toks := tk₁ } s₂ → LoopStepU h₀ env.locals [s.heap.objs.size] own (fun m led => ∃ ps, (∀ p ∈ ps, m p.1 = some p.2) ∧ (∀ p ∈ led, p.1 ≠ s.heap.objs.size) ∧ J (i + 1) ps led) { s with heap := h₁, toks := tk₁ } .next s₂ := by
        rintro ⟨h', tk, m', news', ps', led', e, F', N', hl, hi, hI', hp', hj'⟩
        refine ⟨rfl, h', tk, m', led', e, F', fun p hp => ?_, fun p hp hq => hI' p hp (List.mem_singleton.mp hq), ps', hp', hI', hj'⟩
        rcases List.mem_append.mp hp with hp | hp
        · rcases List.mem_cons.mp (hown p hp) with h1 | h1
          · have h2 := hget p hp
            rw [h1] at h2
            have h4 : p = (s.heap.objs.size, oI) := Prod.ext h1 (Option.some.inj (h2.symm.trans hoI))
            rw [h4]; exact N' _ hi
          · have h1 := List.mem_singleton.mp h1
            have h2 := hget p hp
            have h5 : h₁.get? l = some (listOf vs.toArray n) := (N₁ _ (List.mem_append_right _ (hwh i ps led hJ))).1
            rw [h1] at h2
            have h4 : p = (l, listOf vs.toArray n) := Prod.ext h1 (Option.some.inj (h2.symm.trans h5))
            rw [h4]; exact N' _ (hl _ (hwh _ ps' led' hj'))
        · exact N' p (hl p hp)
      cases f with
      | ret v => exact .ret q
      | brk => exact .brk q
      | next => exact .next (fin q)
      | cont => exact .cont (fin q)
  · rintro h' tk m' led F' N' _ ⟨ps, hps', _, hJ⟩
    exact done ps led m' h' tk hJ (fr_ps hps' F') N'
end

end
section

section
variable {prog : Program} {w : World} {A : Around} {E : Value → Shared → Prop} {s : Shared} {h₀ : Heap} {L : Addr} {m : Str → Option Value} {env : Env}
theorem off1_mem {D : Addr} : ∀ {l : List (Addr × Obj)}, LCg.Off1 D l → ∀ p ∈ l, p.1 ≠ D
  | [], _, _, h => nomatch h
  | _ :: _, x, p, h => by
    rcases List.mem_cons.mp h with rfl | h
    · exact x.1
    · exact off1_mem x.2 p h
/-- the end of an element: J of the list with one more -/
def EltEnd (h₀ : Heap) (L : Addr) (m : Str → Option Value) (I : Addr) (oI : Obj) (C : Addr) (oC : Obj) (D : Addr) (ys : List Value) (J : List Value → List (Addr × Obj) → Prop) (s₁ : Shared) (y : Value) (s₂ : Shared) : Prop :=
  ∃ h' tk' all news', s₂ = { s₁ with heap := h', toks := tk' } ∧ Fr h₀ L h' m ∧ News h₀ L h' all ∧ (∀ p ∈ (I, oI) :: (C, oC) :: (D, LCg.lst ys) :: news', p ∈ all) ∧ (∀ p ∈ news', p.1 ≠ I ∧ p.1 ≠ C ∧ p.1 ≠ D) ∧ J (ys ++ [y]) news'
theorem EltEnd.intro {I C D : Addr} {oI oC : Obj} {ys : List Value} {J : List Value → List (Addr × Obj) → Prop} {s₁ : Shared} {y : Value} {h' : Heap} {tk' : Nat} {all : List (Addr × Obj)} (news' : List (Addr × Obj))
    (F : Fr h₀ L h' m) (N : News h₀ L h' all) (hs : ∀ p ∈ (I, oI) :: (C, oC) :: (D, LCg.lst ys) :: news', p ∈ all) (ho : ∀ p ∈ news', p.1 ≠ I ∧ p.1 ≠ C ∧ p.1 ≠ D) (hj : J (ys ++ [y]) news') :
    EltEnd h₀ L m I oI C oC D ys J s₁ y { s₁ with heap := h', toks := tk' } := ⟨h', tk', all, news', rfl, F, N, hs, ho, hj⟩

theorem rest_J {elt : Expr} {x : Str} {scope : Scope} {cl : List (Str × Addr)} {Fin : List Value → List (Addr × Obj) → Prop} {P : Nat → Value → Prop} {n : Nat} (J : Nat → List Value → List (Addr × Obj) → Prop)
    (turn : ∀ i v I oI C oC D m₂ ys news h tk (E' : Value → Shared → Prop), i < n → P i v → J i ys news → LCg.NsObj oC m₂ → m₂ x = some v → Fr h₀ L h m → News h₀ L h ((I, oI) :: (C, oC) :: (D, LCg.lst ys) :: news) → (∀ p ∈ news, p.1 ≠ I ∧ p.1 ≠ C ∧ p.1 ≠ D) → ((@Ne Nat I C) ∧ (@Ne Nat I D) ∧ (@Ne Nat C D)) →
      wpAny (model prog w) A (eval elt (compEnvC scope cl C env)) (EltEnd h₀ L m I oI C oC D ys (J (i + 1)) { s with heap := h, toks := tk }) E' { s with heap := h, toks := tk })
    (fin : ∀ ys news, J n ys news → Fin ys news) : ∀ (j i : Nat) (ys : List Value) (news : List (Addr × Obj)), i + j = n → J i ys news → LCg.CompRest prog w A h₀ L m env elt x scope cl s (fun _ => True) P Fin j i ys news := by
  intro j
  induction j with
  | zero => intro i ys news hi hJ; exact LCg.CompRest.zero (fin ys news (by rw [← hi]; exact hJ))
  | succ j ih =>
    intro i ys news hi hJ
    refine LCg.CompRest.succ ?_
    intro v I oI C oC D m₂ h tk E' hv hC hx F N off ne
    refine wpAny_mono (turn i v I oI C oC D m₂ ys news h tk E' (by (first | lia | omega)) hv hJ hC hx F N off.mem ne) (fun y s₂ hq => ?_) fun _ _ e => e
    obtain ⟨h', tk', all, nw, e, F', N', hs, ho, hj⟩ := hq
    exact ⟨h', tk', nw, e, F', fun p hp => N' p (hs p hp), LCg.Off3.of ho, trivial, ih (i + 1) _ nw (by (first | lia | omega)) hj⟩

/-- a list comprehension over a range of any step, its element by what holds between the turns -/
def RangeSrc (prog : Program) (w : World) (A : Around) (h₀ : Heap) (L : Addr) (m : Str → Option Value) (env : Env) (elt : Expr) (x : Str) (scope : Scope) (cl : List (Str × Addr)) (Q : Value → Shared → Prop) (xv : Value) (s₁ : Shared) : Prop :=
  ∃ r a b c t u v n news, xv = .ref r ∧ A.handled = none ∧ Fr h₀ L s₁.heap m ∧ News h₀ L s₁.heap news ∧ IsRange s₁.heap r a b c t u v ∧ Builtin.Range.small a b c = true ∧ Builtin.Range.rangeSize a b c = ((n : Nat) : Int) ∧ n ≤ sizeLine ∧
    ∀ g, LCg.CompRest prog w A h₀ L m env elt x scope cl { s₁ with heap := g } (fun _ => True) (fun i v => ∃ t, v = .int (a + (i : Int) * c) t) (LCg.FinE h₀ L m { s₁ with heap := g } Q) n 0 [] news
theorem range_stS {I : Addr} {a c : Int} {n : Nat} : ∀ i (h h' : Heap) (o : Obj) (nw : List (Addr × Obj)), IsRangeIter h I (a + (i : Nat) * c) ((n : Int) - (i : Nat)) c → h.get? I = some o → h'.get? I = some o → (∀ b o, h₀.get? b = some o → h'.get? b = some o) → News h₀ L h' nw → True → IsRangeIter h' I (a + (i : Nat) * c) ((n : Int) - (i : Nat)) c :=
  fun i h h' o nw st e e' _ _ _ => by
    have st' : h.get? I = some _ := st
    show h'.get? I = some _
    rw [e', ← e]; exact st'
theorem ListComp_RS {elt iter : Expr} {x : Str} {px : Pos} {scope : Scope} {cl : List (Str × Addr)} {pos : Pos} {Q : Value → Shared → Prop} (F₀ : Fr h₀ L s.heap m)
    (hclos : closureFor scope env = pure cl) (hcell : ∀ y ∈ scope.names, y.2 ≠ .cell) (hkind : scope.kind = .function)
    (hnames : ∀ y ∈ scope.names, y.2 = .local → scope.names.lookup y.1 = some .local) (hx : scope.names.lookup x = some .local)
    (h : wpAny (model prog w) A (eval iter env) (RangeSrc prog w A h₀ L m env elt x scope cl Q) E s)
    (hs : ∀ x, foldedSetIterable iter env x = pure x := by intro _; rfl) :
    wpAny (model prog w) A (eval (.ListComp elt [⟨.Name x px, iter, [], 0⟩] scope pos) env) Q E s := by
  have _ := F₀
  rw [eval_ListComp]
  refine wpAny_comprehension_free (use := none) rfl hs hclos hkind hnames (wpAny_mono h (fun xv s₁ h₁ => ?_) fun _ _ e => e)
  obtain ⟨r, a, b, c, t, u, v, n, news, rfl, hh, F, N, hr, hsm, hn, hsz, R⟩ := h₁
  refine wpAny_pyIter_range hr hsm ?_
  refine LCg.block_U (Walks.range hh s₁.heap.objs.size a c n) hsz (fun i h st => ⟨_, st⟩) range_stS hcell hkind hx (by show IsRangeIter _ _ _ _ _; rw [hn]; simpa using Heap.get?_push_size _ rfl) (fun b hb => ?_)
    (F.keeps fun _ _ e => Heap.get?_push_of_some _ e) (N.grown fun _ _ e => Heap.get?_push_of_some _ e) (Nat.ne_of_lt F.ns.lt) (next_is_new F) (fun p hp => Nat.ne_of_lt (Heap.lt_size (N p hp).1)) trivial (R _) ?_
  · rw [List.mem_singleton.mp hb]
    show s₁.heap.objs.size < (s₁.heap.push _).objs.size
    rw [Heap.size_push]; exact Nat.lt_succ_self _
  · intro D C h' tk m' ys news' F' N' o1 hn hC₀ hD₀ hCL hDL hCD offC fin
    refine ⟨m', hn, fun h'' hs'' => fin D h'' tk (F'.change hs'' hCL hC₀) (fun p hp => ?_) o1⟩
    refine ⟨hs''.extBut _ _ ?_ (N' p hp).1, (N' p hp).2⟩
    rcases List.mem_cons.mp hp with rfl | hp
    · exact Ne.symm hCD
    · exact offC p hp
theorem RangeSrc.mk' {elt : Expr} {x : Str} {scope : Scope} {cl : List (Str × Addr)} {Q : Value → Shared → Prop} {s₁ : Shared} {r : Addr} {a b c : Int} {t u v : Tok} {news : List (Addr × Obj)} (n : Nat) (J : Nat → List Value → List (Addr × Obj) → Prop)
    (hh : A.handled = none) (F : Fr h₀ L s₁.heap m) (N : News h₀ L s₁.heap news) (hr : IsRange s₁.heap r a b c t u v) (hsm : Builtin.Range.small a b c = true) (hn : Builtin.Range.rangeSize a b c = ((n : Nat) : Int)) (hsz : n ≤ 16777216) (hj : J 0 [] news)
    (turn : ∀ i k t I oI C oC D m₂ ys news g h tk (E' : Value → Shared → Prop), i < n → k = a + (i : Int) * c → J i ys news → LCg.NsObj oC m₂ → m₂ x = some (.int k t) → Fr h₀ L h m → News h₀ L h ((I, oI) :: (C, oC) :: (D, LCg.lst ys) :: news) → (∀ p ∈ news, p.1 ≠ I ∧ p.1 ≠ C ∧ p.1 ≠ D) → ((@Ne Nat I C) ∧ (@Ne Nat I D) ∧ (@Ne Nat C D)) →
      wpAny (model prog w) A (eval elt (compEnvC scope cl C env)) (EltEnd h₀ L m I oI C oC D ys (J (i + 1)) { s₁ with heap := h, toks := tk }) E' { { s₁ with heap := g } with heap := h, toks := tk })
    (done : ∀ D ys news h tk, J n ys news → Fr h₀ L h m → News h₀ L h ((D, LCg.lst ys) :: news) → (∀ p ∈ news, p.1 ≠ D) → Q (.ref D) { s₁ with heap := h, toks := tk }) :
    RangeSrc prog w A h₀ L m env elt x scope cl Q (.ref r) s₁ := by
  refine ⟨r, a, b, c, t, u, v, n, news, rfl, hh, F, N, hr, hsm, hn, by rw [sizeLine_eq]; exact hsz, fun g => rest_J (n := n) J ?_ ?_ n 0 [] news (by (first | lia | omega)) hj⟩
  · rintro i v I oI C oC D m₂ ys news h tk E' hi ⟨t, rfl⟩ hJ hC hx F' N' off ne
    exact turn i _ t I oI C oC D m₂ ys news g h tk E' hi rfl hJ hC hx F' N' off ne
  · intro ys news hJ D h tk F' N' o1
    exact done D ys news h tk hJ F' N' (off1_mem o1)
theorem and_63 {a : Int} {t u : Tok} {Q : Value → Shared → Prop} (h : ∀ t' k, 0 ≤ a % 64 → a % 64 < 64 → Q (.int (a % 64) t') { s with toks := k }) : wpAny (model prog w) A (binaryOp .BitAnd (.int a t) (.int 63 u)) Q E s :=
  and_int (by rw [bitAnd_m6]; exact h _ _ (by (first | lia | omega)) (by (first | lia | omega)))
theorem and_255 {a : Int} {t u : Tok} {Q : Value → Shared → Prop} (h : ∀ t' k, 0 ≤ a % 256 → a % 256 < 256 → Q (.int (a % 256) t') { s with toks := k }) : wpAny (model prog w) A (binaryOp .BitAnd (.int a t) (.int 255 u)) Q E s :=
  and_int (by rw [bitAnd_m8]; exact h _ _ (by (first | lia | omega)) (by (first | lia | omega)))
end

end
section

section
variable {prog : Program} {w : World} {A : Around} {E : Value → Shared → Prop} {s : Shared} {h₀ : Heap} {L : Addr} {m : Str → Option Value} {env : Env}
/-- the heap has what it had, but for the frame's own and the comprehension's names -/
def Same9 (h₀ : Heap) (L : Addr) (m : Str → Option Value) (led : List (Addr × Obj)) (s₁ s₂ : Shared) : Prop :=
  ∃ h' tk' all, s₂ = { s₁ with heap := h', toks := tk' } ∧ Fr h₀ L h' m ∧ News h₀ L h' all ∧ ∀ p ∈ led, p ∈ all
theorem Same9.intro {led all : List (Addr × Obj)} {s₁ : Shared} {h' : Heap} {tk' : Nat} (F : Fr h₀ L h' m) (N : News h₀ L h' all) (hs : ∀ p ∈ led, p ∈ all) : Same9 h₀ L m led s₁ { s₁ with heap := h', toks := tk' } := ⟨h', tk', all, rfl, F, N, hs⟩

/-- a list comprehension with one test, over an iterator that walks: J by what holds between the turns -/
theorem block_T {target elt iter c : PySem.Expr} {scope : Scope} {cl : List (Str × Addr)} {pos : Pos} {s₂ : Shared} {I : Addr} {fp : List Addr} {n : Nat} {P : Nat → Value → Prop} {St : Nat → Heap → Prop} {news : List (Addr × Obj)}
    {RR : Value → Addr → Result → Shared → Prop} (Pm : Nat → Value → (Str → Option Value) → Prop) (J : Nat → List Value → Prop)
    (W : Walks prog w A I fp [I] n P St) (hgo : ∀ i v (s : Shared) (Q : Unit → Shared → Prop) (E : Value → Shared → Prop), St i s.heap → Q () s → wpAny (model prog w) A (letOwnedTupleGo target (.ref I) v) Q E s)
    (hsz : n ≤ sizeLine) (hIo : ∀ i h, St i h → ∃ o, h.get? I = some o)
    (hSt : ∀ i h h' o, St i h → h.get? I = some o → h'.get? I = some o → (∀ b o, h₀.get? b = some o → h'.get? b = some o) → News h₀ L h' news → St i h')
    (hcell : ∀ y ∈ scope.names, y.2 ≠ .cell) (hkind : scope.kind = .function) (hst : St 0 s₂.heap) (hfp : ∀ b ∈ fp, b < s₂.heap.objs.size)
    (F : Fr h₀ L s₂.heap m) (N : News h₀ L s₂.heap news) (hIL : L ≠ I) (hI₀ : h₀.get? I = none) (off : ∀ p ∈ news, p.1 ≠ I)
    (asg : ∀ i v C (s : Shared) m₂ (Q : Unit → Shared → Prop) (E : Value → Shared → Prop), i < n → P i v → s.heap.Ns C m₂ → News h₀ L s.heap news → (∀ h' tk m', Pm i v m' → h'.Ns C m' → (∀ b o, b ≠ C → s.heap.get? b = some o → h'.get? b = some o) → Q () { s with heap := h', toks := tk }) →
      wpAny (model prog w) A (assign target (compEnvC scope cl C env) v) Q E s)
    (h0 : J 0 [])
    (turn : ∀ i v I oI C oC D m₂ ys h tk (E' : Value → Shared → Prop), i < n → P i v → J i ys → ys.length ≤ i → LCg.NsObj oC m₂ → Pm i v m₂ → Fr h₀ L h m → News h₀ L h ((I, oI) :: (C, oC) :: (D, LCg.lst ys) :: news) → (∀ p ∈ news, p.1 ≠ I ∧ p.1 ≠ C ∧ p.1 ≠ D) → ((@Ne Nat I C) ∧ (@Ne Nat I D) ∧ (@Ne Nat C D)) →
      wpAny (model prog w) A (isTrue c (compEnvC scope cl C env) (eval c (compEnvC scope cl C env))) (fun ok s₃ => if ok = true then
        wpAny (model prog w) A (eval elt (compEnvC scope cl C env)) (fun y s₄ => Same9 h₀ L m ((I, oI) :: (C, oC) :: (D, LCg.lst ys) :: news) { s₂ with heap := h, toks := tk } s₄ ∧ J (i + 1) (ys ++ [y])) E' s₃
        else Same9 h₀ L m ((I, oI) :: (C, oC) :: (D, LCg.lst ys) :: news) { s₂ with heap := h, toks := tk } s₃ ∧ J (i + 1) ys) E' { s₂ with heap := h, toks := tk })
    (hRR : ∀ D C h tk m' ys, Fr h₀ L h m → News h₀ L h ((D, LCg.lst ys) :: news) → (∀ p ∈ news, p.1 ≠ D) → h.Ns C m' → h₀.get? C = none → h₀.get? D = none → C ≠ L → D ≠ L → C ≠ D → (∀ p ∈ news, p.1 ≠ C) → J n ys → RR (.ref D) C (.ok .next) { s₂ with heap := h, toks := tk }) :
    wpAny (model prog w) A (newList []) (fun acc s₃ => wpAny (model prog w) A (newFunctionEnv scope env.globals cl [] env.qual none .none (some env)) (fun cenv s₄ =>
      codeAny (model prog w) A (.compStart (.ListComp elt [⟨target, iter, [c], 0⟩] scope pos) 0 (.ref I) acc { cenv with scope := relabel scope env }) (RR acc cenv.locals) s₄) E s₃) E s₂ := by
  refine wpAny_newObj_type (wpAny_newFunctionEnv hcell (by intro y hy; simp at hy) (fun h₁ hns₁ hsb₁ => ?_) hkind)
  dsimp only at hns₁ hsb₁ ⊢
  generalize hH2 : s₂.heap.push { cls := .type "list", dict := none, data := .seq ([] : List Value).toArray } = H2 at hns₁ hsb₁ ⊢
  have hC : H2.objs.size = s₂.heap.objs.size + 1 := by rw [← hH2, Heap.size_push]
  have hDC : s₂.heap.objs.size ≠ H2.objs.size := by rw [hC]; exact Nat.ne_of_lt (Nat.lt_succ_self _)
  have below : ∀ b, b < s₂.heap.objs.size → b ≠ H2.objs.size ∧ b ≠ s₂.heap.objs.size := fun b hb => ⟨by rw [hC]; exact Nat.ne_of_lt (Nat.lt_succ_of_lt hb), Nat.ne_of_lt hb⟩
  have hDf : s₂.heap.objs.size ∉ fp := fun hm => Nat.lt_irrefl _ (hfp _ hm)
  have hCf : H2.objs.size ∉ fp := fun hm => by have := hfp _ hm; rw [hC] at this; exact Nat.lt_irrefl _ (Nat.lt_of_succ_lt this)
  have hIf : I ∈ fp := W.sub I (List.mem_singleton.mpr rfl)
  have hIlt : I < s₂.heap.objs.size := hfp I hIf
  have old : ∀ b o, s₂.heap.get? b = some o → h₁.get? b = some o := fun b o e => hsb₁.extBut b o (below b (Heap.lt_size e)).1 (Heap.get?_push_of_some _ (hH2 ▸ Heap.get?_push_of_some _ e))
  have hacc : h₁.get? s₂.heap.objs.size = some (LCg.lst []) := hsb₁.extBut _ _ hDC (Heap.get?_push_of_some _ (hH2 ▸ Heap.get?_push_size _ rfl))
  have hst₁ : St 0 h₁ := W.frame _ _ _ hst fun b _ o e => old b o e
  have fresh : ∀ a, s₂.heap.objs.size ≤ a → s₂.heap.get? a = none := fun a ha => by
    cases e : s₂.heap.get? a with
    | none => rfl
    | some o' => exact absurd (Heap.lt_size e) (Nat.not_lt.mpr ha)
  have fresh₀ : ∀ a, s₂.heap.objs.size ≤ a → h₀.get? a = none := fun a ha => by
    cases e : h₀.get? a with
    | none => rfl
    | some o' => have := F.keep a o' e; rw [fresh a ha] at this; cases this
  have hD₀ : h₀.get? s₂.heap.objs.size = none := fresh₀ _ (Nat.le_refl _)
  have hC₀ : h₀.get? H2.objs.size = none := fresh₀ _ (by rw [hC]; exact Nat.le_succ _)
  have hLlt : L < s₂.heap.objs.size := F.ns.lt
  have hDL : s₂.heap.objs.size ≠ L := Ne.symm (below L hLlt).2
  have hCL : H2.objs.size ≠ L := Ne.symm (below L hLlt).1
  have hCI : I ≠ H2.objs.size := (below I hIlt).1
  have hDI : I ≠ s₂.heap.objs.size := (below I hIlt).2
  have off3 : ∀ p ∈ news, p.1 ≠ I ∧ p.1 ≠ H2.objs.size ∧ p.1 ≠ s₂.heap.objs.size := fun p hp => ⟨off p hp, (below _ (Heap.lt_size (N p hp).1)).1, (below _ (Heap.lt_size (N p hp).1)).2⟩
  have loop : ∀ s₃ : Shared, s₃ = { s₂ with heap := h₁, toks := s₂.toks + ([] : List (Str × Value)).length } →
      codeAny (model prog w) A (.compLoop (.ListComp elt [⟨target, iter, [c], 0⟩] scope pos) 0 (.ref I) (.ref s₂.heap.objs.size) (compEnvC scope cl H2.objs.size env))
        (RR (.ref s₂.heap.objs.size) H2.objs.size) s₃ := by
    rintro s₃ rfl
    refine kct_loop
      (fun k s' => ∃ h' tk i ys m', s' = { s₂ with heap := h', toks := tk } ∧ i ≤ n ∧ k = n + 1 - i ∧ ys.length ≤ i ∧ St i h' ∧ Fr h₀ L h' m ∧ h'.Ns H2.objs.size m' ∧ News h₀ L h' ((s₂.heap.objs.size, LCg.lst ys) :: news) ∧ J i ys) ?_ (n + 1)
      ⟨h₁, _, 0, [], _, rfl, Nat.zero_le _, rfl, Nat.le_refl _, hst₁, F.keeps old, hns₁, fun p hp => ?_, h0⟩
    · rintro k s' ⟨h', tk, i, ys, m', rfl, hi, rfl, hyl, hst', F', hn', N', hJ⟩
      by_cases hlt : i < n
      · refine W.item i _ _ _ hlt hst' fun v h₂ tk₂ hPv hst₂ hk₂ => ?_
        refine hgo _ v _ _ _ hst₂ ?_
        have N₂ : News h₀ L h₂ ((s₂.heap.objs.size, LCg.lst ys) :: news) := LCg.news_but N' hk₂ fun p hp => by
          rcases List.mem_cons.mp hp with rfl | hp
          · exact Ne.symm hDI
          · exact (off3 p hp).1
        refine asg i v H2.objs.size _ _ _ _ hlt hPv (hn'.at' fun o e => hk₂ _ o (by simpa using Ne.symm hCI) e) (fun p hp => N₂ p (.tail _ hp)) fun h₃ tk₃ m₃ hPm hn₃ hs₃ => ?_
        have hst₃ : St (i + 1) h₃ := W.frame _ _ _ hst₂ fun b hb o e => hs₃ b o (fun q => hCf (by rw [← q]; exact hb)) e
        obtain ⟨oI, heI⟩ := hIo _ _ hst₃
        obtain ⟨oC, heC, hoC⟩ := LCg.ns_obj hn₃
        have F₂ : Fr h₀ L h₂ m := LCg.fr_but F' hk₂ hIL hI₀
        have F₃ : Fr h₀ L h₃ m := ⟨F₂.ns.at' fun o e => hs₃ _ o (Ne.symm hCL) e, fun b o e => hs₃ b o (fun q => by rw [q, hC₀] at e; cases e) (F₂.keep b o e), F₂.above⟩
        have N₃ : News h₀ L h₃ ((I, oI) :: (H2.objs.size, oC) :: (s₂.heap.objs.size, LCg.lst ys) :: news) := fun p hp => by
          rcases List.mem_cons.mp hp with rfl | hp
          · exact ⟨heI, Ne.symm hIL, hI₀⟩
          · rcases List.mem_cons.mp hp with rfl | hp
            · exact ⟨heC, hCL, hC₀⟩
            · have z := N₂ p hp
              refine ⟨hs₃ _ _ ?_ z.1, z.2⟩
              rcases List.mem_cons.mp hp with rfl | hp
              · exact hDC
              · exact (off3 p hp).2.1
        have fin : ∀ (ys' : List Value) (h₅ : Heap) (tk₅ : Nat), ys'.length ≤ i + 1 → Fr h₀ L h₅ m → News h₀ L h₅ ((I, oI) :: (H2.objs.size, oC) :: (s₂.heap.objs.size, LCg.lst ys') :: news) → J (i + 1) ys' →
            ∃ q', q' < n + 1 - i ∧ (∃ h' tk i ys m', ({ s₂ with heap := h₅, toks := tk₅ } : Shared) = { s₂ with heap := h', toks := tk } ∧ i ≤ n ∧ q' = n + 1 - i ∧ ys.length ≤ i ∧ St i h' ∧ Fr h₀ L h' m ∧ h'.Ns H2.objs.size m' ∧ News h₀ L h' ((s₂.heap.objs.size, LCg.lst ys) :: news) ∧ J i ys) := by
          intro ys' h₅ tk₅ hl F₅ N₅ hJ₅
          have zI := (N₅ (I, oI) List.mem_cons_self).1
          have zC := (N₅ (H2.objs.size, oC) (List.mem_cons_of_mem _ List.mem_cons_self)).1
          have N₅' : News h₀ L h₅ ((s₂.heap.objs.size, LCg.lst ys') :: news) := fun q hq => N₅ q (List.mem_cons_of_mem _ (List.mem_cons_of_mem _ hq))
          exact ⟨n + 1 - (i + 1), by (first | lia | omega), h₅, tk₅, i + 1, ys', _, rfl, hlt, rfl, hl, hSt _ _ _ _ hst₃ heI zI F₅.keep (fun p hp => N₅' p (.tail _ hp)), F₅, hoC.ns zC, N₅', hJ₅⟩
        refine wpAny_mono (turn i v I oI H2.objs.size oC s₂.heap.objs.size m₃ ys h₃ _ _ hlt hPv hJ hyl hoC hPm F₃ N₃ off3 ⟨hCI, hDI, Ne.symm hDC⟩) (fun okb s₅ h₅ => ?_) fun _ _ e => e
        cases okb with
        | false =>
          simp only [Bool.false_eq_true, if_false] at h₅ ⊢
          obtain ⟨⟨h₅, tk₅, all, rfl, F₅, N₅, hs⟩, hJ₅⟩ := h₅
          exact fin ys h₅ tk₅ (Nat.le_succ_of_le hyl) F₅ (fun p hp => N₅ p (hs p hp)) hJ₅
        | true =>
          simp only [if_true] at h₅ ⊢
          refine wpAny_mono h₅ (fun y s₆ h₆ => ?_) fun _ _ e => e
          obtain ⟨⟨h₆, tk₆, all, rfl, F₆, N₆, hs⟩, hJ₆⟩ := h₆
          have N₇ : News h₀ L h₆ ((I, oI) :: (H2.objs.size, oC) :: (s₂.heap.objs.size, LCg.lst ys) :: news) := fun p hp => N₆ p (hs p hp)
          have zD := (N₇ (s₂.heap.objs.size, LCg.lst ys) (List.mem_cons_of_mem _ (List.mem_cons_of_mem _ List.mem_cons_self))).1
          refine append_at (hsz := by show ys.toArray.size ≤ sizeLine; rw [List.size_toArray]; exact Nat.le_trans (Nat.le_trans hyl hi) hsz) zD fun h₈ hs₈ hD₈ => ?_
          refine fin (ys ++ [y]) h₈ tk₆ (by rw [List.length_append, List.length_singleton]; exact Nat.succ_le_succ hyl) (F₆.change hs₈ hDL hD₀) (fun p hp => ?_) hJ₆
          rcases List.mem_cons.mp hp with rfl | hp
          · exact ⟨hs₈.extBut _ _ hDI (N₇ _ (.head _)).1, Ne.symm hIL, hI₀⟩
          · rcases List.mem_cons.mp hp with rfl | hp
            · exact ⟨hs₈.extBut _ _ (Ne.symm hDC) (N₇ _ (.tail _ (.head _))).1, hCL, hC₀⟩
            · rcases List.mem_cons.mp hp with rfl | hp
              · exact ⟨hD₈.trans (congrArg some (LCg.lst_snoc ys y)), hDL, hD₀⟩
              · have z := N₇ p (.tail _ (.tail _ (.tail _ hp)))
                exact ⟨hs₈.extBut _ _ (off3 p hp).2.2 z.1, z.2⟩
      · obtain rfl : i = n := Nat.le_antisymm hi (Nat.not_lt.mp hlt)
        refine W.done _ _ _ hst' fun h₂ tk₂ hk₂ => ?_
        exact hRR _ _ h₂ tk₂ _ ys (LCg.fr_but F' hk₂ hIL hI₀) (LCg.news_but N' hk₂ fun p hp => by
          rcases List.mem_cons.mp hp with rfl | hp
          · exact Ne.symm hDI
          · exact (off3 p hp).1) (fun p hp => (off3 p hp).2.2) (hn'.at' fun o e => hk₂ _ o (by simpa using Ne.symm hCI) e) hC₀ hD₀ hCL hDL (Ne.symm hDC) (fun p hp => (off3 p hp).2.1) hJ
    · rcases List.mem_cons.mp hp with rfl | hp
      · exact ⟨hacc, hDL, hD₀⟩
      · exact ⟨old _ _ (N p hp).1, (N p hp).2⟩
  exact codeAny_compStart_list (loop _ rfl) (W.self 0 _ _ _ hst₁ (loop _ rfl))
end

section
variable {prog : Program} {w : World} {A : Around} {E : Value → Shared → Prop} {s : Shared} {h₀ : Heap} {L : Addr} {m : Str → Option Value} {env : Env}
def SrcTT (prog : Program) (w : World) (A : Around) (h₀ : Heap) (L : Addr) (m : Str → Option Value) (env : Env) (elt c : PySem.Expr) (x y z : Str) (scope : Scope) (cl : List (Str × Addr)) (Q : Value → Shared → Prop) (xv : Value) (s₁ : Shared) : Prop :=
  ∃ (l : Addr) (vs : List Value) (n : Nat) (news : List (Addr × Obj)) (Row : Nat → Value → Value → Value → Prop) (J : Nat → List Value → Prop), xv = .ref l ∧ A.handled = none ∧ Fr h₀ L s₁.heap m ∧ News h₀ L s₁.heap news ∧ (l, listOf vs.toArray n) ∈ news ∧ vs.length ≤ sizeLine ∧
    (∀ i v, vs[i]? = some v → ∃ T a b d n0, v = .ref T ∧ (T, ({ cls := .type "tuple", data := .seq #[a, b, d] n0 } : Obj)) ∈ news ∧ Row i a b d) ∧ J 0 [] ∧
    (∀ g i a b d I oI C oC D m₂ ys h tk (E' : Value → Shared → Prop), i < vs.length → Row i a b d → J i ys → LCg.NsObj oC m₂ → m₂ x = some a → m₂ y = some b → m₂ z = some d → Fr h₀ L h m → News h₀ L h ((I, oI) :: (C, oC) :: (D, LCg.lst ys) :: news) → (∀ p ∈ news, p.1 ≠ I ∧ p.1 ≠ C ∧ p.1 ≠ D) → ((@Ne Nat I C) ∧ (@Ne Nat I D) ∧ (@Ne Nat C D)) →
      wpAny (model prog w) A (isTrue c (compEnvC scope cl C env) (eval c (compEnvC scope cl C env))) (fun ok s₃ => if ok = true then
        wpAny (model prog w) A (eval elt (compEnvC scope cl C env)) (fun y s₄ => Same9 h₀ L m ((I, oI) :: (C, oC) :: (D, LCg.lst ys) :: news) { { s₁ with heap := g } with heap := h, toks := tk } s₄ ∧ J (i + 1) (ys ++ [y])) E' s₃
        else Same9 h₀ L m ((I, oI) :: (C, oC) :: (D, LCg.lst ys) :: news) { { s₁ with heap := g } with heap := h, toks := tk } s₃ ∧ J (i + 1) ys) E' { { s₁ with heap := g } with heap := h, toks := tk }) ∧
    (∀ D ys h tk, J vs.length ys → Fr h₀ L h m → News h₀ L h ((D, LCg.lst ys) :: news) → (∀ p ∈ news, p.1 ≠ D) → Q (.ref D) { s₁ with heap := h, toks := tk })
theorem ListComp_TT {elt iter c : PySem.Expr} {x y z : Str} {px py pz tp : Pos} {kk : Nat} {scope : Scope} {cl : List (Str × Addr)} {pos : Pos} {Q : Value → Shared → Prop} (_F₀ : Fr h₀ L s.heap m)
    (hclos : closureFor scope env = pure cl) (hcell : ∀ y ∈ scope.names, y.2 ≠ .cell) (hkind : scope.kind = .function)
    (hnames : ∀ y ∈ scope.names, y.2 = .local → scope.names.lookup y.1 = some .local) (hx : scope.names.lookup x = some .local) (hy : scope.names.lookup y = some .local) (hz : scope.names.lookup z = some .local) (hd : x ≠ y ∧ x ≠ z ∧ y ≠ z)
    (h : wpAny (model prog w) A (eval iter env) (SrcTT prog w A h₀ L m env elt c x y z scope cl Q) E s)
    (hs : ∀ x, foldedSetIterable iter env x = pure x := by intro _; rfl) :
    wpAny (model prog w) A (eval (.ListComp elt [⟨.Tuple [.Name x px, .Name y py, .Name z pz] kk tp, iter, [c], 0⟩] scope pos) env) Q E s := by
  rw [eval_ListComp]
  refine wpAny_comprehension_free (use := none) rfl hs hclos hkind hnames (wpAny_mono h (fun xv s₁ h₁ => ?_) fun _ _ e => e)
  obtain ⟨l, vs, n, news, Row, J, rfl, hh, F, N, hm, hsz, hrow, h0, turn, done⟩ := h₁
  have hl : s₁.heap.IsList l vs.toArray := isList_of (N _ hm).1
  have hlt : l < s₁.heap.objs.size := Heap.lt_size (N _ hm).1
  refine wpAny_pyIter_list hl ?_
  have hne : l ≠ s₁.heap.objs.size := Nat.ne_of_lt hlt
  have up : ∀ b o, s₁.heap.get? b = some o → (s₁.heap.push { cls := .type "list_iterator", data := .fields #[.ref l, .int 0 0] }).get? b = some o := fun b o e => Heap.get?_push_of_some _ e
  refine block_T (news := news) (fun i v m₂ => ∃ T a b d n0, v = .ref T ∧ (T, ({ cls := .type "tuple", data := .seq #[a, b, d] n0 } : Obj)) ∈ news ∧ Row i a b d ∧ m₂ x = some a ∧ m₂ y = some b ∧ m₂ z = some d) J
    (Walks.list (prog := prog) (w := w) hh s₁.heap.objs.size l hne vs.toArray) (fun i v s Q E st q => letGo_listiter st.1 q) (by rw [List.size_toArray]; exact hsz) (fun i h st => by obtain ⟨o, e, _⟩ := st.1; exact ⟨o, e⟩)
    (fun i h h' o st e e' _ N' => ⟨by obtain ⟨o', q, r⟩ := st.1; rw [e] at q; cases q; exact ⟨o, e', r⟩, isList_of (N' _ hm).1⟩) hcell hkind ⟨⟨_, Heap.get?_push_size _ rfl, rfl, rfl⟩, hl.push _⟩ (fun b hb => ?_)
    (F.keeps up) (N.grown up) (Nat.ne_of_lt F.ns.lt) (next_is_new F) (fun p hp => Nat.ne_of_lt (Heap.lt_size (N p hp).1)) ?_ h0 ?_ ?_
  · show b < (s₁.heap.push _).objs.size
    rw [Heap.size_push]
    rcases List.mem_cons.mp hb with rfl | hb
    · exact Nat.lt_succ_self _
    · rw [List.mem_singleton.mp hb]; exact Nat.lt_succ_of_lt hlt
  · intro i v C s' m₂ Q E hi hv hn N' hQ
    obtain ⟨T, a, b, d, n0, rfl, hT, hR⟩ := hrow i v (by simpa using hv)
    have ht : IsTup s'.heap T #[a, b, d] := ⟨_, (N' _ hT).1, rfl, n0, rfl⟩
    refine assign_Tuple_tuple hh ht rfl rfl fun h₅ he => ?_
    have he' : ∀ b o, s'.heap.get? b = some o → h₅.get? b = some o := fun b o e => he b o (Nat.ne_of_lt (Heap.lt_size e)) e
    refine assignInOrder_cons (wpAny_assign_Name (wpAny_storeName_local (lookup_relabel_local hx) (hn.at' fun o e => he' _ o e) (fun h₆ hn₆ hs₆ => ?_) (by simp [compEnvC, relabel, hkind])))
    refine assignInOrder_cons (wpAny_assign_Name (wpAny_storeName_local (lookup_relabel_local hy) hn₆ (fun h₇ hn₇ hs₇ => ?_) (by simp [compEnvC, relabel, hkind])))
    refine assignInOrder_cons (wpAny_assign_Name (wpAny_storeName_local (lookup_relabel_local hz) hn₇ (fun h₈ hn₈ hs₈ => ?_) (by simp [compEnvC, relabel, hkind])))
    refine assignInOrder_nil ?_
    exact hQ h₈ _ _ ⟨T, a, b, d, n0, rfl, hT, hR, by simp [hd.1, hd.2.1], by simp [hd.2.2], by simp⟩ hn₈ fun b o hb e => hs₈.extBut b o hb (hs₇.extBut b o hb (hs₆.extBut b o hb (he' b o e)))
  · rintro i v I oI C oC D m₂ ys h tk E' hi hv hJ hyl hC ⟨T, a, b, d, n0, rfl, hT, hR, ha, hb, hd'⟩ F' N' off ne
    exact turn _ i a b d I oI C oC D m₂ ys h tk E' (by simpa using hi) hR hJ hC ha hb hd' F' N' off ne
  · intro D C h tk m' ys F' N' o1 hn hC₀ hD₀ hCL hDL hCD offC hJ
    refine ⟨m', hn, fun h'' hs'' => done D ys h'' tk (by simpa using hJ) (F'.change hs'' hCL hC₀) (fun p hp => ?_) o1⟩
    refine ⟨hs''.extBut _ _ ?_ (N' p hp).1, (N' p hp).2⟩
    rcases List.mem_cons.mp hp with rfl | hp
    · exact Ne.symm hCD
    · exact offC p hp
theorem SrcTT.mk' {elt c : PySem.Expr} {x y z : Str} {scope : Scope} {cl : List (Str × Addr)} {Q : Value → Shared → Prop} {l : Addr} {vs : List Value} {n : Nat} {news : List (Addr × Obj)} {s₁ : Shared} (Row : Nat → Value → Value → Value → Prop) (J : Nat → List Value → Prop)
    (hh : A.handled = none) (F : Fr h₀ L s₁.heap m) (N : News h₀ L s₁.heap news) (hm : (l, listOf vs.toArray n) ∈ news) (hsz : vs.length ≤ 16777216)
    (hrow : ∀ i v, vs[i]? = some v → ∃ T a b d n0, v = .ref T ∧ (T, ({ cls := .type "tuple", data := .seq #[a, b, d] n0 } : Obj)) ∈ news ∧ Row i a b d) (h0 : J 0 [])
    (turn : ∀ g i a b d I oI C oC D m₂ ys h tk (E' : Value → Shared → Prop), i < vs.length → Row i a b d → J i ys → LCg.NsObj oC m₂ → m₂ x = some a → m₂ y = some b → m₂ z = some d → Fr h₀ L h m → News h₀ L h ((I, oI) :: (C, oC) :: (D, LCg.lst ys) :: news) → (∀ p ∈ news, p.1 ≠ I ∧ p.1 ≠ C ∧ p.1 ≠ D) → ((@Ne Nat I C) ∧ (@Ne Nat I D) ∧ (@Ne Nat C D)) →
      wpAny (model prog w) A (isTrue c (compEnvC scope cl C env) (eval c (compEnvC scope cl C env))) (fun ok s₃ => if ok = true then
        wpAny (model prog w) A (eval elt (compEnvC scope cl C env)) (fun y s₄ => Same9 h₀ L m ((I, oI) :: (C, oC) :: (D, LCg.lst ys) :: news) { { s₁ with heap := g } with heap := h, toks := tk } s₄ ∧ J (i + 1) (ys ++ [y])) E' s₃
        else Same9 h₀ L m ((I, oI) :: (C, oC) :: (D, LCg.lst ys) :: news) { { s₁ with heap := g } with heap := h, toks := tk } s₃ ∧ J (i + 1) ys) E' { { s₁ with heap := g } with heap := h, toks := tk })
    (done : ∀ D ys h tk, J vs.length ys → Fr h₀ L h m → News h₀ L h ((D, LCg.lst ys) :: news) → (∀ p ∈ news, p.1 ≠ D) → Q (.ref D) { s₁ with heap := h, toks := tk }) : SrcTT prog w A h₀ L m env elt c x y z scope cl Q (.ref l) s₁ :=
  ⟨l, vs, n, news, Row, J, rfl, hh, F, N, hm, by rw [sizeLine_eq]; exact hsz, hrow, h0, turn, done⟩

def SrcBT (prog : Program) (w : World) (A : Around) (h₀ : Heap) (L : Addr) (m : Str → Option Value) (env : Env) (elt c : PySem.Expr) (x : Str) (scope : Scope) (cl : List (Str × Addr)) (Q : Value → Shared → Prop) (xv : Value) (s₁ : Shared) : Prop :=
  ∃ (b : Array UInt8) (t : Tok) (news : List (Addr × Obj)) (J : Nat → List Value → Prop), xv = .bytes b t ∧ A.handled = none ∧ Fr h₀ L s₁.heap m ∧ News h₀ L s₁.heap news ∧ b.size ≤ sizeLine ∧ J 0 [] ∧
    (∀ g i (cc : UInt8) u I oI C oC D m₂ ys h tk (E' : Value → Shared → Prop), b[i]? = some cc → J i ys → LCg.NsObj oC m₂ → m₂ x = some (.int (cc.toNat : Int) u) → Fr h₀ L h m → News h₀ L h ((I, oI) :: (C, oC) :: (D, LCg.lst ys) :: news) → (∀ p ∈ news, p.1 ≠ I ∧ p.1 ≠ C ∧ p.1 ≠ D) → ((@Ne Nat I C) ∧ (@Ne Nat I D) ∧ (@Ne Nat C D)) →
      wpAny (model prog w) A (isTrue c (compEnvC scope cl C env) (eval c (compEnvC scope cl C env))) (fun ok s₃ => if ok = true then
        wpAny (model prog w) A (eval elt (compEnvC scope cl C env)) (fun y s₄ => Same9 h₀ L m ((I, oI) :: (C, oC) :: (D, LCg.lst ys) :: news) { { s₁ with heap := g } with heap := h, toks := tk } s₄ ∧ J (i + 1) (ys ++ [y])) E' s₃
        else Same9 h₀ L m ((I, oI) :: (C, oC) :: (D, LCg.lst ys) :: news) { { s₁ with heap := g } with heap := h, toks := tk } s₃ ∧ J (i + 1) ys) E' { { s₁ with heap := g } with heap := h, toks := tk }) ∧
    (∀ D ys h tk, J b.size ys → Fr h₀ L h m → News h₀ L h ((D, LCg.lst ys) :: news) → (∀ p ∈ news, p.1 ≠ D) → Q (.ref D) { s₁ with heap := h, toks := tk })
theorem ListComp_BT {elt iter c : PySem.Expr} {x : Str} {px : Pos} {scope : Scope} {cl : List (Str × Addr)} {pos : Pos} {Q : Value → Shared → Prop} (_F₀ : Fr h₀ L s.heap m)
    (hclos : closureFor scope env = pure cl) (hcell : ∀ y ∈ scope.names, y.2 ≠ .cell) (hkind : scope.kind = .function)
    (hnames : ∀ y ∈ scope.names, y.2 = .local → scope.names.lookup y.1 = some .local) (hx : scope.names.lookup x = some .local)
    (h : wpAny (model prog w) A (eval iter env) (SrcBT prog w A h₀ L m env elt c x scope cl Q) E s)
    (hs : ∀ x, foldedSetIterable iter env x = pure x := by intro _; rfl) :
    wpAny (model prog w) A (eval (.ListComp elt [⟨.Name x px, iter, [c], 0⟩] scope pos) env) Q E s := by
  rw [eval_ListComp]
  refine wpAny_comprehension_free (use := none) rfl hs hclos hkind hnames (wpAny_mono h (fun xv s₁ h₁ => ?_) fun _ _ e => e)
  obtain ⟨b, t, news, J, rfl, hh, F, N, hsz, h0, turn, done⟩ := h₁
  refine KBw.pyIter_bytes ?_
  refine block_T (news := news) (fun i v m₂ => ∃ (cc : UInt8) (u : Tok), b[i]? = some cc ∧ m₂ x = some (.int (cc.toNat : Int) u)) J
    (KBw.walks hh s₁.heap.objs.size b t) (fun i v s Q E st q => wpAny_pure q) hsz (fun i h st => let ⟨o, ho, _⟩ := st; ⟨o, ho⟩)
    (fun i h h' o st e e' _ N' => by obtain ⟨o', q, r⟩ := st; rw [e] at q; cases q; exact ⟨o, e', r⟩) hcell hkind ⟨_, Heap.get?_push_size _ rfl, rfl, rfl⟩ (fun b hb => ?_)
    (F.push _) (fun p hp => ⟨Heap.get?_push_of_some _ (N p hp).1, (N p hp).2⟩) (Nat.ne_of_lt F.ns.lt) (next_is_new F) (fun p hp => Nat.ne_of_lt (Heap.lt_size (N p hp).1)) ?_ h0 ?_ ?_
  · show b < (s₁.heap.push _).objs.size
    rw [Heap.size_push]
    rw [List.mem_singleton.mp hb]; exact Nat.lt_succ_self _
  · rintro i v C s' m₂ Q E hi ⟨cc, u, hc, rfl⟩ hn N' hQ
    refine wpAny_assign_Name (wpAny_storeName_local (lookup_relabel_local hx) hn (fun h₆ hn₆ hs₆ => ?_) (by simp [compEnvC, relabel, hkind]))
    exact hQ h₆ _ _ ⟨cc, u, hc, by simp⟩ hn₆ fun b o hb e => hs₆.extBut b o hb e
  · rintro i v I oI C oC D m₂ ys h tk E' hi hv hJ hyl hC ⟨cc, u, hc, hx'⟩ F' N' off ne
    exact turn _ i cc u I oI C oC D m₂ ys h tk E' hc hJ hC hx' F' N' off ne
  · intro D C h tk m' ys F' N' o1 hn hC₀ hD₀ hCL hDL hCD offC hJ
    refine ⟨m', hn, fun h'' hs'' => done D ys h'' tk hJ (F'.change hs'' hCL hC₀) (fun p hp => ?_) o1⟩
    refine ⟨hs''.extBut _ _ ?_ (N' p hp).1, (N' p hp).2⟩
    rcases List.mem_cons.mp hp with rfl | hp
    · exact Ne.symm hCD
    · exact offC p hp
theorem SrcBT.mk' {elt c : PySem.Expr} {x : Str} {scope : Scope} {cl : List (Str × Addr)} {Q : Value → Shared → Prop} {b : Array UInt8} {t : Tok} {news : List (Addr × Obj)} {s₁ : Shared} (J : Nat → List Value → Prop)
    (hh : A.handled = none) (F : Fr h₀ L s₁.heap m) (N : News h₀ L s₁.heap news) (hsz : b.size ≤ 16777216) (h0 : J 0 [])
    (turn : ∀ g i (cc : UInt8) u I oI C oC D m₂ ys h tk (E' : Value → Shared → Prop), b[i]? = some cc → J i ys → LCg.NsObj oC m₂ → m₂ x = some (.int (cc.toNat : Int) u) → Fr h₀ L h m → News h₀ L h ((I, oI) :: (C, oC) :: (D, LCg.lst ys) :: news) → (∀ p ∈ news, p.1 ≠ I ∧ p.1 ≠ C ∧ p.1 ≠ D) → ((@Ne Nat I C) ∧ (@Ne Nat I D) ∧ (@Ne Nat C D)) →
      wpAny (model prog w) A (isTrue c (compEnvC scope cl C env) (eval c (compEnvC scope cl C env))) (fun ok s₃ => if ok = true then
        wpAny (model prog w) A (eval elt (compEnvC scope cl C env)) (fun y s₄ => Same9 h₀ L m ((I, oI) :: (C, oC) :: (D, LCg.lst ys) :: news) { { s₁ with heap := g } with heap := h, toks := tk } s₄ ∧ J (i + 1) (ys ++ [y])) E' s₃
        else Same9 h₀ L m ((I, oI) :: (C, oC) :: (D, LCg.lst ys) :: news) { { s₁ with heap := g } with heap := h, toks := tk } s₃ ∧ J (i + 1) ys) E' { { s₁ with heap := g } with heap := h, toks := tk })
    (done : ∀ D ys h tk, J b.size ys → Fr h₀ L h m → News h₀ L h ((D, LCg.lst ys) :: news) → (∀ p ∈ news, p.1 ≠ D) → Q (.ref D) { s₁ with heap := h, toks := tk }) : SrcBT prog w A h₀ L m env elt c x scope cl Q (.bytes b t) s₁ :=
  ⟨b, t, news, J, rfl, hh, F, N, by rw [sizeLine_eq]; exact hsz, h0, turn, done⟩
end

end
theorem fill : PySem.Challenge.rw_no0371_01.prog = PySem.Challenge.rw_no0371_01.prog ∧ hd.heap_1 = hd.heap_1 := by
  w_on
  k_fill
  exact ⟨rfl, rfl⟩
local macro_rules | `(tactic| k_all) => `(tactic| assumption)
local macro_rules | `(tactic| walk_at $s:str) => `(tactic| k_extra $s)
section
/-! expressions without a call: what they come to, said once -/
structure Cx where
  w : World
  A : Around
  env : Env
  h₀ : Heap
  L : Addr
  m : Str → Option Value
  news : List (Addr × Obj)
  hk : env.scope.kind = .function
  hL : env.locals = L
def IsI (i : Int) (v : Value) : Prop := ∃ t, v = .int i t
def IsY (b : Array UInt8) (v : Value) : Prop := ∃ t, v = .bytes b t
def IsV (x v : Value) : Prop := v = x
def Cx.Ev (C : Cx) (e : PySem.Expr) (P : Value → Prop) : Prop := ∀ (h : Heap) (g : Array GenState) (d : Drawn) (k : Nat) (o : OsState) (Q E : Value → Shared → Prop), Fr C.h₀ C.L h C.m → News C.h₀ C.L h C.news →
  (∀ v h' k', P v → Fr C.h₀ C.L h' C.m → News C.h₀ C.L h' C.news → Q v ⟨h', g, d, k', o⟩) → wpAny (model PG C.w) C.A (eval e C.env) Q E ⟨h, g, d, k, o⟩
def Cx.EvT (C : Cx) (e : PySem.Expr) (P : Prop) : Prop := ∀ (h : Heap) (g : Array GenState) (d : Drawn) (k : Nat) (o : OsState) (Q : Bool → Shared → Prop) (E : Value → Shared → Prop), Fr C.h₀ C.L h C.m → News C.h₀ C.L h C.news →
  (∀ b h' k', (b = true ↔ P) → Fr C.h₀ C.L h' C.m → News C.h₀ C.L h' C.news → Q b ⟨h', g, d, k', o⟩) → wpAny (model PG C.w) C.A (isTrue e C.env (eval e C.env)) Q E ⟨h, g, d, k, o⟩
section
variable {C : Cx} {x : Str} {pos : Pos} {v : Value} {P : Value → Prop} {e e1 e2 : PySem.Expr} {i j : Int} {b c : Array UInt8}
theorem ev_name (hx : C.env.kindOf x = some .local) (hv : C.m x = some v) (hp : P v) (hd : (x == ("__debug__" : Str)) = false) : C.Ev (.Name x pos) P := fun h g d k o Q E F N hq =>
  wpAny_Name (wpAny_loadName_local C.hk hx (by rw [C.hL]; exact F.ns) hv (hq v h k hp F N)) hd
theorem ev_int {n : Nat} : C.Ev (.Constant (.int i) n pos) (IsI i) := fun h _ _ k _ _ _ F N hq => wpAny_Constant_int (hq _ h (k + 1) ⟨_, rfl⟩ F N)
theorem ev_bytes {n : Nat} {l : List UInt8} : C.Ev (.Constant (.bytes l) n pos) (IsY l.toArray) := fun h _ _ k _ _ _ F N hq => by
  first
  | exact Constant_bytes (hq _ h (k + 1) ⟨_, rfl⟩ F N)
  | exact PySem.W.Constant_bytes (hq _ h (k + 1) ⟨_, rfl⟩ F N)
theorem ev_bin {op : Operator} {P1 P2 : Value → Prop} (a : C.Ev e1 P1) (c : C.Ev e2 P2)
    (hop : ∀ x y (s : Shared) (Q E : Value → Shared → Prop), P1 x → P2 y → (∀ v k, P v → Q v { s with toks := k }) → wpAny (model PG C.w) C.A (binaryOp op x y) Q E s) : C.Ev (.BinOp e1 op e2 pos) P := fun h g d k o Q E F N hq =>
  wpAny_BinOp (a h g d k o _ _ F N fun x h1 k1 px F1 N1 => c h1 g d k1 o _ _ F1 N1 fun y h2 k2 py F2 N2 => hop x y _ _ _ px py fun v k3 pv => hq v h2 k3 pv F2 N2)
theorem ev_add (a : C.Ev e1 (IsI i)) (c : C.Ev e2 (IsI j)) : C.Ev (.BinOp e1 .Add e2 pos) (IsI (i + j)) := ev_bin a c fun _ _ _ _ _ px py hq => by
  obtain ⟨t, rfl⟩ := px; obtain ⟨u, rfl⟩ := py
  exact add_int (hq _ _ ⟨_, rfl⟩)
theorem ev_sub (a : C.Ev e1 (IsI i)) (c : C.Ev e2 (IsI j)) : C.Ev (.BinOp e1 .Sub e2 pos) (IsI (i - j)) := ev_bin a c fun _ _ _ _ _ px py hq => by
  obtain ⟨t, rfl⟩ := px; obtain ⟨u, rfl⟩ := py
  exact sub_int (hq _ _ ⟨_, rfl⟩)
theorem ev_at (a : C.Ev e1 (IsY b)) (c : C.Ev e2 (IsI i)) (hz : b.size ≤ 16777216) (h0 : 0 ≤ i) (h1 : i < (b.size : Int))
    (hs : ∀ t ti, subscripted e2 false (.bytes b t) (.int i ti) = operate [.bytes b t, .int i ti] (getItem (.bytes b t) (.int i ti)))
    (ht : ∀ t r, letTemporaryGo e1 (.bytes b t) r = pure ()) : C.Ev (.Subscript e1 e2 pos) (IsI (at_ b i)) := fun h g d k o Q E F N hq =>
  Subscript_ (a h g d k o _ _ F N fun x h1' k1 px F1 N1 => c h1' g d k1 o _ _ F1 N1 fun y h2 k2 py F2 N2 => by
    obtain ⟨t, rfl⟩ := px; obtain ⟨u, rfl⟩ := py
    exact item_M hz h0 h1 (fun t' k' _ _ => hq _ h2 k' ⟨_, rfl⟩ F2 N2) (hs t u) (ht t))
/-! tests -/
theorem evt_bin {op : CmpOp} {P1 P2 : Value → Prop} {R : Prop} (a : C.Ev e1 P1) (c : C.Ev e2 P2)
    (hop : ∀ x y (s : Shared) (Q : Value → Shared → Prop) (E : Value → Shared → Prop), P1 x → P2 y → (∀ b, (b = true ↔ R) → Q (.bool b) s) → wpAny (model PG C.w) C.A (compareOp op x y) Q E s)
    (hm : behindInMarks op e2 = false) : C.EvT (.Compare e1 [op] [e2] pos) R := fun h g d k o Q E F N hq =>
  wpAny_isTrue_Compare1 (a h g d k o _ _ F N fun x h1 k1 px F1 N1 => c h1 g d k1 o _ _ F1 N1 fun y h2 k2 py F2 N2 => hop x y _ _ _ px py fun b hb => wpAny_truthy_bool (hq b h2 k2 hb F2 N2)) hm
theorem evt_eq (a : C.Ev e1 (IsI i)) (c : C.Ev e2 (IsI j)) (hm : behindInMarks .Eq e2 = false) : C.EvT (.Compare e1 [.Eq] [e2] pos) (i = j) := evt_bin a c (fun _ _ _ _ _ px py hq => by
  obtain ⟨t, rfl⟩ := px; obtain ⟨u, rfl⟩ := py
  exact eq_int (hq _ (by simp))) hm
theorem evt_ne (a : C.Ev e1 (IsI i)) (c : C.Ev e2 (IsI j)) (hm : behindInMarks .NotEq e2 = false) : C.EvT (.Compare e1 [.NotEq] [e2] pos) (i ≠ j) := evt_bin a c (fun _ _ _ _ _ px py hq => by
  obtain ⟨t, rfl⟩ := px; obtain ⟨u, rfl⟩ := py
  exact ne_int (hq _ (by simp))) hm
theorem evt_lt (a : C.Ev e1 (IsI i)) (c : C.Ev e2 (IsI j)) (hm : behindInMarks .Lt e2 = false) : C.EvT (.Compare e1 [.Lt] [e2] pos) (i < j) := evt_bin a c (fun _ _ _ _ _ px py hq => by
  obtain ⟨t, rfl⟩ := px; obtain ⟨u, rfl⟩ := py
  exact lt_int (hq _ (by simp))) hm
theorem evt_le (a : C.Ev e1 (IsI i)) (c : C.Ev e2 (IsI j)) (hm : behindInMarks .LtE e2 = false) : C.EvT (.Compare e1 [.LtE] [e2] pos) (i ≤ j) := evt_bin a c (fun _ _ _ _ _ px py hq => by
  obtain ⟨t, rfl⟩ := px; obtain ⟨u, rfl⟩ := py
  exact le_int (hq _ (by simp))) hm
theorem evt_gt (a : C.Ev e1 (IsI i)) (c : C.Ev e2 (IsI j)) (hm : behindInMarks .Gt e2 = false) : C.EvT (.Compare e1 [.Gt] [e2] pos) (i > j) := evt_bin a c (fun _ _ _ _ _ px py hq => by
  obtain ⟨t, rfl⟩ := px; obtain ⟨u, rfl⟩ := py
  exact gt_int (hq _ (by simp))) hm
theorem evt_ge (a : C.Ev e1 (IsI i)) (c : C.Ev e2 (IsI j)) (hm : behindInMarks .GtE e2 = false) : C.EvT (.Compare e1 [.GtE] [e2] pos) (i ≥ j) := evt_bin a c (fun _ _ _ _ _ px py hq => by
  obtain ⟨t, rfl⟩ := px; obtain ⟨u, rfl⟩ := py
  exact ge_int (hq _ (by simp))) hm
end

end
section
section
variable {C : Cx} {x : Str} {pos p2 : Pos} {v : Value} {P : Value → Prop} {e e1 e2 test : PySem.Expr} {es : List PySem.Expr} {i j : Int} {b c : Array UInt8} {R S : Prop}
theorem evt_and_nil : C.EvT (.BoolOp .And [] pos) True := fun h _ _ k _ _ _ F N hq => isTrue_and_nil (hq true h k (by simp) F N)
theorem evt_or_nil : C.EvT (.BoolOp .Or [] pos) False := fun h _ _ k _ _ _ F N hq => isTrue_or_nil (hq false h k (by simp) F N)
theorem evt_and (a : C.EvT e R) (r : R → C.EvT (.BoolOp .And es pos) S) : C.EvT (.BoolOp .And (e :: es) pos) (R ∧ S) := fun h g d k o Q E F N hq =>
  isTrue_and (a h g d k o _ _ F N fun q h1 k1 hb F1 N1 => by
    cases q with
    | true => exact r (hb.mp rfl) h1 g d k1 o _ _ F1 N1 fun q2 h2 k2 hb2 F2 N2 => hq q2 h2 k2 (by rw [hb2]; exact ⟨fun z => ⟨hb.mp rfl, z⟩, fun z => z.2⟩) F2 N2
    | false => exact hq false h1 k1 ⟨fun z => (nomatch z), fun z => (nomatch hb.mpr z.1)⟩ F1 N1)
theorem evt_or (a : C.EvT e R) (r : ¬ R → C.EvT (.BoolOp .Or es pos) S) : C.EvT (.BoolOp .Or (e :: es) pos) (R ∨ S) := fun h g d k o Q E F N hq =>
  isTrue_or (a h g d k o _ _ F N fun q h1 k1 hb F1 N1 => by
    cases q with
    | true => exact hq true h1 k1 ⟨fun _ => .inl (hb.mp rfl), fun _ => rfl⟩ F1 N1
    | false => exact r (fun z => nomatch hb.mpr z) h1 g d k1 o _ _ F1 N1 fun q2 h2 k2 hb2 F2 N2 => hq q2 h2 k2 (by rw [hb2]; exact ⟨.inr, fun z => z.elim (fun y => nomatch hb.mpr y) id⟩) F2 N2)
theorem evt_not (a : C.EvT e R) : C.EvT (.UnaryOp .Not e pos) (¬ R) := fun h g d k o Q E F N hq =>
  isTrue_not (a h g d k o _ _ F N fun q h1 k1 hb F1 N1 => hq (!q) h1 k1 (by rw [← hb]; simp) F1 N1)
theorem evt_imp {R' : Prop} (a : C.EvT e R) (h : R ↔ R') : C.EvT e R' := fun h1 g d k o Q E F N hq => a h1 g d k o Q E F N fun q h2 k2 hb F2 N2 => hq q h2 k2 (hb.trans h) F2 N2
def IsB (R : Prop) (v : Value) : Prop := ∃ q : Bool, v = .bool q ∧ (q = true ↔ R)
theorem evt_val (a : C.Ev e (IsB R)) (he : isTrue e C.env (eval e C.env) = (do let v ← eval e C.env; standAt e.pos; holding [v] (truthy v))) : C.EvT e R := fun h g d k o Q E F N hq =>
  isTrue_plain (a h g d k o _ _ F N fun x h1 k1 px F1 N1 => by
    obtain ⟨q, rfl, hb⟩ := px
    exact wpAny_truthy_bool (hq q h1 k1 hb F1 N1)) he
theorem ev_imp {P' : Value → Prop} (a : C.Ev e P) (h : ∀ v, P v → P' v) : C.Ev e P' := fun h1 g d k o Q E F N hq => a h1 g d k o Q E F N fun v h2 k2 pv F2 N2 => hq v h2 k2 (h v pv) F2 N2
/-! calls -/
def Cx.EvA (C : Cx) (es : List PySem.Expr) (P : List Value → Prop) : Prop := ∀ (pos : Pos) (h : Heap) (g : Array GenState) (d : Drawn) (k : Nat) (o : OsState) (Q : List Value → Shared → Prop) (E : Value → Shared → Prop), Fr C.h₀ C.L h C.m → News C.h₀ C.L h C.news →
  (∀ vs h' k', P vs → Fr C.h₀ C.L h' C.m → News C.h₀ C.L h' C.news → Q vs ⟨h', g, d, k', o⟩) → wpAny (model PG C.w) C.A (spliced (backTo pos (starEach es C.env))) Q E ⟨h, g, d, k, o⟩
def ArgNil (vs : List Value) : Prop := vs = []
def ArgCons (P : Value → Prop) (R : List Value → Prop) (vs : List Value) : Prop := ∃ v r, vs = v :: r ∧ P v ∧ R r
theorem eva_nil : C.EvA [] ArgNil := fun _ h _ _ k _ _ _ F N hq => spliced_none (hq [] h k rfl F N)
theorem eva_cons {P2 : List Value → Prop} (a : C.Ev e P) (r : C.EvA es P2) (he : starEach (e :: es) C.env = (false, eval e C.env) :: starEach es C.env) : C.EvA (e :: es) (ArgCons P P2) := fun pos h g d k o Q E F N hq =>
  spliced_more (a h g d k o _ _ F N fun v h1 k1 pv F1 N1 => r pos h1 g d k1 o _ _ F1 N1 fun vs h2 k2 pvs F2 N2 => hq (v :: vs) h2 k2 ⟨v, vs, rfl, pv, pvs⟩ F2 N2) he
theorem ev_builtin {id : String} {P2 : List Value → Prop} (f : C.Ev e (IsV (.builtin id))) (a : C.EvA (e1 :: es) P2)
    (hc : ∀ vs (s : Shared) (Q E : Value → Shared → Prop), P2 vs → (∀ v k, P v → Q v { s with toks := k }) → wpAny (model PG C.w) C.A (call (.builtin id) vs) Q E s)
    (he : eval (.Call e (e1 :: es) [] pos) C.env = (do callWith pos (← eval e C.env) [] (backTo pos (starEach (e1 :: es) C.env)) (backToKw pos (keywordEach [] C.env))))
    (h1 : starEach (e1 :: es) C.env = (false, eval e1 C.env) :: starEach es C.env) (h2 : (backTo pos (starEach es C.env)).any (·.1) = false) : C.Ev (.Call e (e1 :: es) [] pos) P := fun h g d k o Q E F N hq =>
  Call_ (f h g d k o _ _ F N fun v h3 k3 pv F3 N3 => by
    obtain rfl : v = .builtin id := pv
    exact callWith_builtin1 (a pos h3 g d k3 o _ _ F3 N3 fun vs h4 k4 pvs F4 N4 => hc vs _ _ _ pvs fun v k5 pv => hq v h4 k5 pv F4 N4) h1 h2) he
theorem ev_len (f : C.Ev e (IsV (.builtin "len"))) (a : C.EvA [e1] (ArgCons (IsY b) ArgNil)) (hz : b.size ≤ 16777216)
    (he : eval (.Call e [e1] [] pos) C.env = (do callWith pos (← eval e C.env) [] (backTo pos (starEach [e1] C.env)) (backToKw pos (keywordEach [] C.env))))
    (h1 : starEach [e1] C.env = (false, eval e1 C.env) :: starEach [] C.env) (h2 : (backTo pos (starEach [] C.env)).any (·.1) = false) : C.Ev (.Call e [e1] [] pos) (IsI b.size) :=
  ev_builtin f a (fun vs s Q E pv hq => by
    obtain ⟨v, r, rfl, ⟨t, rfl⟩, rfl⟩ := pv
    exact len_bytes (by (first | lia | omega)) (hq _ _ ⟨_, rfl⟩)) he h1 h2
/-- a function by its contract -/
theorem ev_fn {f : Addr} {lv dp un : Nat} {gd : Option (List Code)} {fr : List Env} {mean : ExcName → Option Value} {mg mb : Str → Option Value} {Post : Value → List (Addr × Obj) → Prop} {P2 : List Value → Prop} (hf : C.Ev e (IsV (.ref f))) (a : C.EvA (e1 :: es) P2)
    (hA : C.A = mkA dp un gd fr) (X : (hd.heap_1 C.w.params).In C.h₀) (T : Top PP LO mean mg mb C.h₀) (hd9 : dp + lv < recursionLimit) (hu : un + 8 * lv < cLine) (hkp : keepIn (hd.heap_1 C.w.params) (.ref f) = true)
    (hc : ∀ vs, P2 vs → Ctr C.w lv f vs Post) (hp : ∀ v ad, Post v ad → P v)
    (he : eval (.Call e (e1 :: es) [] pos) C.env = (do callWith pos (← eval e C.env) [] (backTo pos (starEach (e1 :: es) C.env)) (backToKw pos (keywordEach [] C.env))))
    (h1 : starEach (e1 :: es) C.env = (false, eval e1 C.env) :: starEach es C.env) (h2 : (backTo pos (starEach es C.env)).any (·.1) = false) : C.Ev (.Call e (e1 :: es) [] pos) P := fun h g d k o Q E F N hq =>
  Call_ (hf h g d k o _ _ F N fun v h3 k3 pv F3 N3 => by
    obtain rfl : v = .ref f := pv
    refine callWith_K X hkp (a pos h3 g d k3 o _ _ F3 N3 fun vs h4 k4 pvs F4 N4 => ⟨X.keeps F4.keep, ?_⟩) h1 h2
    rw [hA]
    exact ctr_use (s := ⟨h4, g, d, k4, o⟩) (hc vs pvs) X T F4 N4 hd9 hu fun r ad h' tk' hpo F' N' _ => hq r h' tk' (hp r ad hpo) F' (drop_ad N')) he
end

end
section
section
variable {C : Cx} {x : Str} {pos p2 : Pos} {v : Value} {P : Value → Prop} {e e1 e2 test : PySem.Expr} {es : List PySem.Expr} {i j : Int} {b c : Array UInt8} {R S : Prop}
theorem ev_if (t : C.EvT test R) (a : R → C.Ev e1 P) (c : ¬ R → C.Ev e2 P) : C.Ev (.IfExp test e1 e2 pos) P := fun h g d k o Q E F N hq =>
  wpAny_IfExp (t h g d k o _ _ F N fun q h1 k1 hb F1 N1 => by
    cases q with
    | true => exact a (hb.mp rfl) h1 g d k1 o _ _ F1 N1 hq
    | false => exact c (fun z => nomatch hb.mpr z) h1 g d k1 o _ _ F1 N1 hq)
theorem ev_cmp {op : CmpOp} {P1 P2 : Value → Prop} (a : C.Ev e1 P1) (c : C.Ev e2 P2)
    (hop : ∀ x y (s : Shared) (Q E : Value → Shared → Prop), P1 x → P2 y → (∀ q, (q = true ↔ R) → Q (.bool q) s) → wpAny (model PG C.w) C.A (compareOp op x y) Q E s)
    (hm : behindInMarks op e2 = false) : C.Ev (.Compare e1 [op] [e2] pos) (IsB R) := fun h g d k o Q E F N hq =>
  wpAny_Compare1 (a h g d k o _ _ F N fun x h1 k1 px F1 N1 => c h1 g d k1 o _ _ F1 N1 fun y h2 k2 py F2 N2 => hop x y _ _ _ px py fun q hb => hq _ h2 k2 ⟨q, rfl, hb⟩ F2 N2) hm
theorem ev_eq (a : C.Ev e1 (IsI i)) (c : C.Ev e2 (IsI j)) (hm : behindInMarks .Eq e2 = false) : C.Ev (.Compare e1 [.Eq] [e2] pos) (IsB (i = j)) := ev_cmp a c (fun _ _ _ _ _ px py hq => by
  obtain ⟨t, rfl⟩ := px; obtain ⟨u, rfl⟩ := py
  exact eq_int (hq _ (by simp))) hm
theorem ev_orB {e3 : PySem.Expr} (a : C.Ev e1 (IsB R)) (r : ¬ R → C.Ev e2 (IsB S)) : C.Ev (.BoolOp .Or [e1, e2] pos) (IsB (R ∨ S)) := fun h g d k o Q E F N hq =>
  let _ := e3; BoolOp_or (a h g d k o _ _ F N fun x h1 k1 px F1 N1 => by
    obtain ⟨q, rfl, hb⟩ := px
    refine wpAny_truthy_bool ?_
    cases q with
    | true => exact hq _ h1 k1 ⟨true, rfl, fun _ => .inl (hb.mp rfl), fun _ => rfl⟩ F1 N1
    | false => exact BoolOp_one (r (fun z => nomatch hb.mpr z) h1 g d k1 o _ _ F1 N1 fun y h2 k2 py F2 N2 => by
        obtain ⟨q2, rfl, hb2⟩ := py
        exact hq _ h2 k2 ⟨q2, rfl, hb2.trans ⟨.inr, fun z => z.elim (fun y => nomatch hb.mpr y) id⟩⟩ F2 N2))
theorem ev_slice (a : C.Ev e (IsY b)) (l : C.Ev e1 (IsI i)) (u : C.Ev e2 (IsI j)) (hi : 0 ≤ i) (hj : 0 ≤ j) (hz : b.size ≤ 16777216)
    (hs : ∀ t q, subscripted (.Slice (some e1) (some e2) none p2) false (.bytes b t) (.ref q) = operate [.ref q, .bytes b t] (getItem (.bytes b t) (.ref q)))
    (ht : ∀ t r, letTemporaryGo e (.bytes b t) r = pure ()) : C.Ev (.Subscript e (.Slice (some e1) (some e2) none p2) pos) (IsY (cut b i j)) := fun h g d k o Q E F N hq =>
  Subscript_ (a h g d k o _ _ F N fun x h1 k1 px F1 N1 => wpAny_Slice (evalPart_some_step (l h1 g d k1 o _ _ F1 N1 fun y h2 k2 py F2 N2 => evalPart_some_step (u h2 g d k2 o _ _ F2 N2 fun z h3 k3 pz F3 N3 => evalPart_none_step (by
    obtain ⟨t, rfl⟩ := px; obtain ⟨t1, rfl⟩ := py; obtain ⟨t2, rfl⟩ := pz
    exact slice_ss (s := ⟨h3, g, d, k3, o⟩) F3 N3 hi hj hz (fun h' t' k' _ F' N' => hq _ h' k' ⟨t', rfl⟩ F' N') (hs t _) (ht t))))))
end
section
variable {w : World} {A : Around} {env : Env} {h₀ : Heap} {L : Addr} {m : Str → Option Value} {news : List (Addr × Obj)} (hk : env.scope.kind = .function) (hL : env.locals = L) {h : Heap} {g : Array GenState} {d : Drawn} {k : Nat} {o : OsState}
variable {Q : Flow → Shared → Prop} {E : Value → Shared → Prop} {x : Str} {pos p2 : Pos} {P : Value → Prop} {e test : PySem.Expr} {body orelse : List Stmt} {i : Int} {b : Array UInt8} {R : Prop}
theorem st_if (F : Fr h₀ L h m) (N : News h₀ L h news) (t : (Cx.mk w A env h₀ L m news hk hL).EvT test R)
    (yes : R → ∀ h' k', Fr h₀ L h' m → News h₀ L h' news → wpAny (model PG w) A (execs body env) Q E ⟨h', g, d, k', o⟩)
    (no : ¬ R → ∀ h' k', Fr h₀ L h' m → News h₀ L h' news → wpAny (model PG w) A (execs orelse env) Q E ⟨h', g, d, k', o⟩) : wpAny (model PG w) A (exec (.If test body orelse pos) env) Q E ⟨h, g, d, k, o⟩ :=
  wpAny_If (t h g d k o _ _ F N fun q h1 k1 hb F1 N1 => by
    cases q with
    | true => exact yes (hb.mp rfl) h1 k1 F1 N1
    | false => exact no (fun z => nomatch hb.mpr z) h1 k1 F1 N1)
theorem st_ret (F : Fr h₀ L h m) (N : News h₀ L h news) (t : (Cx.mk w A env h₀ L m news hk hL).Ev e P)
    (fin : ∀ v h' k', P v → Fr h₀ L h' m → News h₀ L h' news → Q (.ret v) ⟨h', g, d, k', o⟩) : wpAny (model PG w) A (exec (.Return (some e) pos) env) Q E ⟨h, g, d, k, o⟩ :=
  wpAny_Return_some (t h g d k o _ _ F N fin)
theorem st_set (F : Fr h₀ L h m) (N : News h₀ L h news) (t : (Cx.mk w A env h₀ L m news hk hL).Ev e P) (hx : env.kindOf x = some .local) (hsw : swapsWith e (some (.Name x p2)) pos.line env = pure false)
    (fin : ∀ v h' k', P v → Fr h₀ L h' (fun y => if y = x then some v else m y) → News h₀ L h' news → Q .next ⟨h', g, d, k', o⟩) : wpAny (model PG w) A (exec (.Assign [.Name x p2] e pos) env) Q E ⟨h, g, d, k, o⟩ := by
  refine wpAny_Assign_Name (t h g d k o _ _ F N fun v h1 k1 pv F1 N1 => ?_) hsw
  subst hL
  refine wpAny_storeName_local hx F1.ns (fun h' hn hs => fin v h' _ pv (F1.set hn hs) (N1.set hs)) ?_
  rw [hk]; rfl
theorem st_setI (F : Fr h₀ L h m) (N : News h₀ L h news) (t : (Cx.mk w A env h₀ L m news hk hL).Ev e (IsI i)) (hx : env.kindOf x = some .local) (hsw : swapsWith e (some (.Name x p2)) pos.line env = pure false)
    (fin : ∀ t h' k', Fr h₀ L h' (fun y => if y = x then some (.int i t) else m y) → News h₀ L h' news → Q .next ⟨h', g, d, k', o⟩) : wpAny (model PG w) A (exec (.Assign [.Name x p2] e pos) env) Q E ⟨h, g, d, k, o⟩ :=
  st_set hk hL F N t hx hsw fun v h' k' pv F' N' => by obtain ⟨t, rfl⟩ := pv; exact fin t h' k' F' N'
theorem st_setB (F : Fr h₀ L h m) (N : News h₀ L h news) (t : (Cx.mk w A env h₀ L m news hk hL).Ev e (IsB R)) (hx : env.kindOf x = some .local) (hsw : swapsWith e (some (.Name x p2)) pos.line env = pure false)
    (fin : ∀ q h' k', (q = true ↔ R) → Fr h₀ L h' (fun y => if y = x then some (.bool q) else m y) → News h₀ L h' news → Q .next ⟨h', g, d, k', o⟩) : wpAny (model PG w) A (exec (.Assign [.Name x p2] e pos) env) Q E ⟨h, g, d, k, o⟩ :=
  st_set hk hL F N t hx hsw fun v h' k' pv F' N' => by obtain ⟨q, rfl, hb⟩ := pv; exact fin q h' k' hb F' N'
/-- l.append(e), l on the ledger -/
theorem st_app {D : Addr} {vs : List Value} {n : Nat} {ex : PySem.Expr} {apos ep : Pos} {news' : Value → List (Addr × Obj)} {pl : Sem Bool} (F : Fr h₀ L h m) (N : News h₀ L h news)
    (f : (Cx.mk w A env h₀ L m news hk hL).Ev ex (IsV (.ref D))) (t : (Cx.mk w A env h₀ L m news hk hL).Ev e P) (hm : (D, listOf vs.toArray n) ∈ news)
    (U : ∀ v, Upd D (listOf vs.toArray n) (listOf (vs ++ [v]).toArray (n + 1)) news (news' v)) (hz : vs.length ≤ 16777216)
    (he : eval (.Call (.Attribute ex (Str.ofString "append") apos) [e] [] ep) env = (do
      let ov ← eval ex env
      standAt apos.atName
      let (f, first) ← holding [ov] (getMethod ov (Str.ofString "append") pl)
      callWith ep f first (backTo ep (starEach [e] env)) []))
    (h1 : starEach [e] env = (false, eval e env) :: starEach [] env) (h2 : (backTo ep (starEach [] env)).any (·.1) = false) (hi : interactive env = false) (hs : swapsWith (.Call (.Attribute ex (Str.ofString "append") apos) [e] [] ep) none pos.line env = pure false)
    (fin : ∀ v h' k', P v → Fr h₀ L h' m → News h₀ L h' (news' v) → Q .next ⟨h', g, d, k', o⟩) :
    wpAny (model PG w) A (exec (.Expr (.Call (.Attribute ex (Str.ofString "append") apos) [e] [] ep) pos) env) Q E ⟨h, g, d, k, o⟩ := by
  refine wpAny_Expr_any ?_ hi hs
  refine MethodCall_ (pl := pl) (f h g d k o _ _ F N fun ov h3 k3 pv F3 N3 => ?_) he
  obtain rfl : ov = .ref D := pv
  refine listMethod_K N3 hm PySem.F.slot_list_append PySem.F.type_list_append ?_
  refine callWith_method1 (spliced_more (t h3 g d k3 o _ _ F3 N3 fun v h4 k4 pv F4 N4 => spliced_none ?_) h1) h1 h2
  refine append_K (its := vs.toArray) (n := n) F4 N4 (by have := U v; simpa using this) (fun h' F' N' => fin v h' k4 pv F' N') (by rw [List.size_toArray, sizeLine_eq]; exact hz)
end
section
variable {C : Cx} {x : Str} {pos : Pos} {v : Value} {cn : Str} {cs : Scope} {a : Addr} {ccd : Value} {cl : List (Str × Addr)} {mean : ExcName → Option Value} {mg mb : Str → Option Value}
theorem ev_glob (X : (hd.heap_1 C.w.params).In C.h₀) (T : Top PP LO mean mg mb C.h₀) (he : C.env = envX cn cs C.L a ccd cl) (e : nsIn (hd.heap_1 C.w.params) mainGlobals x = some (some v)) (hk : cs.kind = .function) (hx : (envX cn cs C.L a ccd cl).kindOf x = some .globalImplicit) (hd9 : (x == ("__debug__" : Str)) = false) : C.Ev (.Name x pos) (IsV v) := fun h g d k o Q E F N hq => by
  rw [he]
  exact nameX_K F X (topRead_of T) e (hq v h k rfl F N) hk hx hd9
theorem ev_blt (X : (hd.heap_1 C.w.params).In C.h₀) (T : Top PP LO mean mg mb C.h₀) (he : C.env = envX cn cs C.L a ccd cl) (e : nsIn (hd.heap_1 C.w.params) mainGlobals x = some none) (hv : bootBuiltins x = some v) (hn : x ≠ "__name__") (hk : cs.kind = .function) (hx : (envX cn cs C.L a ccd cl).kindOf x = some .globalImplicit) (hd9 : (x == ("__debug__" : Str)) = false) : C.Ev (.Name x pos) (IsV v) := fun h g d k o Q E F N hq => by
  rw [he]
  exact nameX_B F X (topRead_of T) e hv hn (hq v h k rfl F N) hk hx hd9
theorem ev_globP {P : Value → Prop} (he : C.env = envX cn cs C.L a ccd cl) (hx : (envX cn cs C.L a ccd cl).kindOf x = some .globalImplicit) (X : (hd.heap_1 C.w.params).In C.h₀) (T : Top PP LO mean mg mb C.h₀) (e : nsIn (hd.heap_1 C.w.params) mainGlobals x = some (some v)) (hk : cs.kind = .function) (hd9 : (x == ("__debug__" : Str)) = false) (hp : P v) : C.Ev (.Name x pos) P := ev_imp (ev_glob X T he e hk hx hd9) fun _ h => h ▸ hp
end
section
variable {w : World} {lv : Nat} {f : Addr} {Post : Value → List (Addr × Obj) → Prop} {i j : Int} {b : Array UInt8} {R : Prop}
theorem arg_I (h : ∀ t, Ctr w lv f [.int i t] Post) : ∀ vs, ArgCons (IsI i) ArgNil vs → Ctr w lv f vs Post := fun _ hv => by
  obtain ⟨v, r, rfl, ⟨t, rfl⟩, rfl⟩ := hv
  exact h t
theorem arg_Y (h : ∀ t, Ctr w lv f [.bytes b t] Post) : ∀ vs, ArgCons (IsY b) ArgNil vs → Ctr w lv f vs Post := fun _ hv => by
  obtain ⟨v, r, rfl, ⟨t, rfl⟩, rfl⟩ := hv
  exact h t
theorem arg_YI (h : ∀ t u, Ctr w lv f [.bytes b t, .int i u] Post) : ∀ vs, ArgCons (IsY b) (ArgCons (IsI i) ArgNil) vs → Ctr w lv f vs Post := fun _ hv => by
  obtain ⟨v, r, rfl, ⟨t, rfl⟩, v2, r2, rfl, ⟨u, rfl⟩, rfl⟩ := hv
  exact h t u
theorem post_B {x : Bool} : ∀ v ad, PBool x v ad → IsB (x = true) v := fun _ _ h => ⟨x, h, Iff.rfl⟩
theorem post_I : ∀ v ad, PInt i v ad → IsI i v := fun _ _ h => h
theorem post_Y : ∀ v ad, PBytes b v ad → IsY b v := fun _ _ h => h
end

end
section
theorem zk_1 : True := by
  k_with_none
  k_with "side" => (first | with_reducible assumption | (first | lia | omega) | assumption | decide | ((simp (decide := true) only [Int.fdiv_eq_ediv_of_nonneg, Int.fmod_eq_emod_of_nonneg, List.size_toArray, List.length_cons, List.length_nil] at *); (first | lia | omega)))
  k_with "c enter" => (((case ho => k_is); (case hcd => k_is); (case hlv => decide); (case hb => first | exact (fun s X => BindsTo.of_eq rfl) | exact (fun s X => binds_K X rfl (by k_is) rfl rfl rfl)); (case hl => exact locs rfl); (case hc => decide); (case h1 => exact rfl); (case h2 => exact rfl); (case h3 => exact rfl); intro mean mg mb dp un gd fr s g L h₁ tk X T hd hu F N; (try dsimp only); (try k_fold)))
  k_with "c enterI" => (((case ho => k_is); (case hcd => k_is); (case hlv => decide); (case hb => first | exact (fun s X => BindsTo.of_eq rfl) | exact (fun s X => binds_K X rfl (by k_is) rfl rfl rfl)); (case hl => exact locs rfl); (case hc => decide); (case h1 => exact rfl); (case h2 => exact rfl); (case h3 => exact rfl); intro mean mg mb dp un gd fr s g L h₁ tk hI hIL X T hd hu F N; (replace hI := hI _ (List.Mem.head _)); (replace hIL := hIL _ (List.Mem.head _)); (try dsimp only at hI hIL); (try dsimp only); (try k_fold)))
  k_with "c enterC" => (((case ho => k_is); (case hcd => k_is); (case hlv => decide); (case hb => first | exact (fun s X => BindsTo.of_eq rfl) | exact (fun s X => binds_K X rfl (by k_is) rfl rfl rfl)); (case hl => exact rfl); (case hc => decide +kernel); (case h1 => exact rfl); (case h2 => exact rfl); (case h3 => exact rfl); intro mean mg mb dp un gd fr s g L h₁ tk cells X T hd hu F N Y; k_cells Y; (try simp only [List.cons_append, List.nil_append] at N); (try dsimp only); (try k_fold)))
  k_with "c enterIC" => (((case ho => k_is); (case hcd => k_is); (case hlv => decide); (case hb => first | exact (fun s X => BindsTo.of_eq rfl) | exact (fun s X => binds_K X rfl (by k_is) rfl rfl rfl)); (case hl => exact rfl); (case hc => decide +kernel); (case h1 => exact rfl); (case h2 => exact rfl); (case h3 => exact rfl); intro mean mg mb dp un gd fr s g L h₁ tk cells hI hIL X T hd hu F N Y; (replace hI := hI _ (List.Mem.head _)); (replace hIL := hIL _ (List.Mem.head _)); (try dsimp only at hI hIL); k_cells Y; (try simp only [List.cons_append, List.nil_append] at N); (try dsimp only); (try k_fold)))
  k_with "subscriptTail" => ((k_here; (with_reducible show wpAny _ _ (subscriptTail _ (Expr.Slice _ _ none _) (Value.bytes _ _) (Value.ref _)) _ _ _); (with_reducible rename Fr _ _ _ _ => F'); (with_reducible rename News _ _ _ _ => N'); k_dflt (first
      | ((with_reducible show wpAny _ _ (subscriptTail _ (Expr.Slice (some (Expr.UnaryOp _ _ _)) none none _) _ _) _ _ _); refine' slice_last (s := ⟨_, _, _, _, _⟩) F' N' ?qzz ?qze ?_; (case qze => first | rfl | decide); (case qzz => walk_at "side"); k_whole)
      | ((with_reducible show wpAny _ _ (subscriptTail _ (Expr.Slice (some _) (some _) none _) _ _) _ _ _); refine' slice_ss (s := ⟨_, _, _, _, _⟩) F' N' ?qza ?qzb ?qzz ?_; (case qza => walk_at "side"); (case qzb => walk_at "side"); (case qzz => walk_at "side"))
      | ((with_reducible show wpAny _ _ (subscriptTail _ (Expr.Slice (some _) none none _) _ _) _ _ _); refine' slice_sn (s := ⟨_, _, _, _, _⟩) F' N' ?qza ?qzz ?_; (case qza => walk_at "side"); (case qzz => walk_at "side"))
      | ((with_reducible show wpAny _ _ (subscriptTail _ (Expr.Slice none (some _) none _) _ _) _ _ _); refine' slice_ns (s := ⟨_, _, _, _, _⟩) F' N' ?qza ?qzz ?_; (case qza => walk_at "side"); (case qzz => walk_at "side"))); intro _ _ _ hcut F' N'))
  k_with "subscriptTail" => ((k_here; (with_reducible show wpAny _ _ (subscriptTail _ _ (Value.bytes _ _) (Value.int _ _)) _ _ _); k_dflt (refine' item_M ?qzz ?qza ?qzb ?_; (case qzz => walk_at "side"); (case qza => walk_at "side"); (case qzb => walk_at "side")); intro _ _ hlo hhi))
  k_with "getMethod bytes" => ((k_here; first | (with_reducible refine meth_join ?_) | (with_reducible refine meth_find ?_) | (with_reducible refine meth_split ?_) | (with_reducible refine meth_rstrip ?_)))
  k_with "call builtin:bytes.find" => ((k_here; k_dflt first | (refine' find4 ?qza ?qzb ?_; (case qza => walk_at "side"); (case qzb => walk_at "side"); intro _ _) | (refine' find3 ?qza ?_; (case qza => walk_at "side"); intro _ _)))
  k_with "call builtin:bytes.rstrip" => ((k_here; (try dsimp only [List.cons_append, List.nil_append]); k_dflt (refine' rstrip2 ?qza ?_; (case qza => walk_at "side")); intro r' t' k' hr' hrs'))
  k_with "exec For Name Name cons nil" => ((k_here; (rename Fr _ _ _ _ => lF'); (with_unfolding_all refine' For_invVF lF' ?qzk1 ?qzk2 ?_; (case qzk1 => exact rfl); (case qzk2 => exact rfl); k_whole)))
  k_with "exec For Name Call cons nil" => ((k_here; (rename Fr _ _ _ _ => lF'); (with_unfolding_all refine' For_invVF lF' ?qzk1 ?qzk2 ?_; (case qzk1 => exact rfl); (case qzk2 => exact rfl); k_whole)))
  k_with "pyIter bytes" => (((with_reducible show wpAny _ _ (pyIter (Value.bytes _ _)) (fun it s₂ => LoopAtV _ _ _ _ _ _ _ _ _ it s₂) _ _); refine park ?_))
  k_with "pyIter ref" => (((with_reducible show wpAny _ _ (pyIter (Value.ref _)) (fun it s₂ => LoopAtV _ _ _ _ _ _ _ _ _ it s₂) _ _); refine park ?_))
  k_with "exec While Compare cons nil" => ((k_here; refine park ?_))
  k_with "exec While Constant cons nil" => ((k_here; refine park ?_))
  k_with "ints" => (first | assumption | (repeat' (first | exact IntsAre.nil | refine IntsAre.cons _ _ ?_)))
  k_with "in256" => (first | assumption | exact in_nil | (refine in_cons ?qzia ?qzib ?qzic; (case qzia => walk_at "side"); (case qzib => walk_at "side"); (case qzic => walk_at "in256")))
  k_with "call type:bytes" => ((k_here; (with_reducible show wpAny _ _ (call (Value.type "bytes") [Value.ref _]) _ _ _); k_dflt (refine' KBa.make_K ?qzkbaF ?qzkbaN ?qzkbah ?qzkbal ?qzkbai ?qzkbar ?qzkban ?_; (case qzkbaF => k_asm); (case qzkbaN => k_asm); (case qzkbah => rfl); (case qzkbal => kba_isList); (case qzkbai => walk_at "ints"); (case qzkbar => walk_at "in256"); (case qzkban => walk_at "side")); intro _ _ _ F' N' kbaIn; (try k_sweep)))
  k_with "ps" => ((repeat' (first | exact List.forall_mem_nil _ | (refine List.forall_mem_cons.mpr ⟨by with_unfolding_all rfl, ?_⟩))))
  k_with "led" => ((repeat' (first | exact List.forall_mem_nil _ | (refine List.forall_mem_cons.mpr ⟨by k_mem, ?_⟩) | (intro p9 hp9; (repeat' (first | exact hp9 | refine List.Mem.tail _ ?_))))))
  k_with "lsize" => (first | size_fits | ((try rw [PySem.sizeLine_eq]); (simp only [List.size_toArray, Array.size_push]); (first | lia | omega)))
  k_with "call builtin:list.append" => ((k_here; (try dsimp only [List.cons_append, List.nil_append]); (with_reducible show wpAny _ _ (call (Value.builtin _) [Value.ref _, _]) _ _ _); k_dflt (refine' append_K ?qzk1 ?qzk2 ?qzk3 ?_ ?qzz; (case qzk1 => k_asm); (case qzk2 => k_asm); (case qzk3 => k_upd); (case qzz => walk_at "lsize"); k_whole); intro h' F' N'; (try k_sweep)))
  k_with "offI" => ((repeat' (first | exact List.forall_mem_nil _ | assumption | (refine List.forall_mem_cons.mpr ⟨by (refine neN ?_; (try dsimp only); (first | lia | omega)), ?_⟩))))
  k_with "bl get" => (first | (apply Fr.keep (by k_asm); assumption) | exact News.get (by k_asm) (by k_mem))
  k_with "subscriptTail" => ((k_here; (with_reducible show wpAny _ _ (subscriptTail _ _ (Value.ref _) (Value.int _ _)) _ _ _); k_dflt (refine' item_bl ?qzhl ?qzhv ?qza ?qzb ?qzz ?_; (case qzhv => with_reducible assumption); (case qzhl => walk_at "bl get"); (case qza => walk_at "side"); (case qzb => walk_at "side"); (case qzz => walk_at "side")); intro _ _))
  k_with "call builtin:len" => ((k_here; (with_reducible show wpAny _ _ (call (Value.builtin "len") [Value.ref _]) _ _ _); k_dflt (first | (refine' len_base ?qzhl ?qzF ?qzz ?_; (case qzhl => assumption); (case qzF => k_asm); (case qzz => walk_at "side")) | (refine' len_led ?qzN ?qzhm ?qzz ?_; (case qzN => k_asm); (case qzhm => k_mem); (case qzz => walk_at "side"))); intro _ _))
  k_with "binaryOp Add bytes bytes" => ((k_here; (with_reducible show wpAny _ _ (binaryOp Operator.Add (Value.bytes _ _) (Value.bytes _ _)) _ _ _); k_dflt (refine' KBy.add_bytes ?qzz ?_; (case qzz => walk_at "side")); intro _ _))
  k_with "call builtin:bytes.join" => ((k_here; (try dsimp only [List.cons_append, List.nil_append]); k_dflt (refine' join0 ?qzhl ?qzhv ?qzz ?_; (case qzhl => walk_at "bl get"); (case qzhv => walk_at "bytes are"); (case qzz => walk_at "side")); intro _ _))
  k_with "bytes are" => (first | with_reducible assumption | assumption | (repeat' (first | exact BytesAre.nil | refine BytesAre.cons ?_)))
  k_with "call builtin:bytes.split" => ((k_here; (try dsimp only [List.cons_append, List.nil_append]); k_dflt (refine' split1 ?qzF ?qzN ?qzc ?qza ?qzb ?_; (case qzF => k_asm); (case qzN => k_asm); (case qzc => rfl); (case qza => walk_at "side"); (case qzb => walk_at "side")); intro l' vs' h' k' hvs' F' N' hne'; (replace hne' := allNe_of9 hne'); (simp only [NeAll, and_true] at hne'); (try k_sweep)))
  k_with "call builtin:list.extend" => ((k_here; (with_reducible show wpAny _ _ (call (Value.builtin _) [Value.ref _, Value.ref _]) _ _ _); k_dflt (refine' ext_M ?qzF ?qzN ?qza ?qzb ?qzne ?qzU ?qzz ?_; (case qzF => k_asm); (case qzN => k_asm); (case qzb => k_mem); (case qzU => k_upd); (case qzne => walk_at "side"); (case qzz => walk_at "side"); (case qza => trivial)); intro h' F' N'; (try k_sweep)))
  k_with "subscriptTail Name Slice ref ref" => ((k_here; (with_reducible show wpAny _ _ (subscriptTail _ (PySem.Expr.Slice _ _ none _) (Value.ref _) (Value.ref _)) _ _ _); k_dflt (first
      | (refine' lslice_run (s := ⟨_, _, _, _, _⟩) ?qzF ?qzN ?qzhm ?qzhx ?qzhy ?qzhz ?_ ?qzhs ?qzht; (case qzF => k_asm); (case qzN => k_asm); (case qzhm => k_mem); (case qzhx => walk_at "side"); (case qzhy => walk_at "side"); (case qzhz => walk_at "side"); (case qzhs => with_unfolding_all rfl); (case qzht => kmk_pure))
      | (refine' lslice_to (s := ⟨_, _, _, _, _⟩) ?qzF ?qzN ?qzhm ?qzhy ?qzhz ?_ ?qzhs ?qzht; (case qzF => k_asm); (case qzN => k_asm); (case qzhm => k_mem); (case qzhy => walk_at "side"); (case qzhz => walk_at "side"); (case qzhs => with_unfolding_all rfl); (case qzht => kmk_pure))); intro D' h' F' N' l1; (try k_lt l1); (try k_sweep)))
  k_with "binaryOp LShift int int" => ((k_here; (with_reducible show wpAny _ _ (binaryOp Operator.LShift (Value.int _ _) (Value.int _ _)) _ _ _); k_dflt (refine' lshift_int_small ?qza ?qzb ?qzc ?_; (case qza => walk_at "side"); (case qzb => walk_at "side"); (case qzc => walk_at "side"))))
  k_with "binaryOp RShift int int" => ((k_here; (with_reducible show wpAny _ _ (binaryOp Operator.RShift (Value.int _ _) (Value.int _ _)) _ _ _); k_dflt (refine' rshift_int ?qza ?_; (case qza => walk_at "side"))))
  k_with "binaryOp BitAnd int int" => ((k_here; (with_reducible show wpAny _ _ (binaryOp Operator.BitAnd (Value.int _ _) (Value.int _ _)) _ _ _); k_dflt (first | (with_reducible refine and_63 ?_; intro _ _ hlo hhi) | (with_reducible refine and_255 ?_; intro _ _ hlo hhi) | (refine and_gen ?_; intro _ _ _))))
  k_with "comp range" => ((k_here; (with_reducible show wpAny _ _ (eval (PySem.Expr.ListComp _ [⟨PySem.Expr.Name _ _, _, [], _⟩] _ _) _) _ _ _); k_dflt (refine ListComp_RS (by k_asm) (by with_unfolding_all rfl) (by decide) (by rfl) (by decide) (by rfl) ?_)))
  k_with "eval ListComp" => (walk_at "comp range")
  k_with "RangeSrc" => ((refine park ?_))
  trivial

def hexW (c : Int) : Int := if 48 ≤ c ∧ c ≤ 57 then c - 48 else if 65 ≤ c ∧ c ≤ 70 then c - 55 else if 97 ≤ c ∧ c ≤ 102 then c - 87 else -1
set_option maxHeartbeats 4000000 in
theorem c_hex (w : World) (c : Int) (t : Tok) (h0 : 0 ≤ c) (h1 : c < 256) : Ctr w 1 125 [.int c t] (PInt (hexW c)) := by
  refine' ctr_enter (binds := [(Str.ofString "code", .int c t)]) ?ho ?hcd ?hlv ?hb ?hl ?hc ?h1 ?h2 ?h3 ?_
  walk_at "c enter"
  k_steps
  all_goals (refine CEnd.flat (by assumption) (pint ?_); unfold hexW; (repeat' split) <;> (first | lia | omega))
theorem zk_2 : True := by
  k_with "call ref" => ((k_here; (with_reducible show wpAny _ _ (call (Value.ref 125) _) _ _ _); k_dflt (refine' use_int (c_hex _ _ _ ?qza ?qzb) ?qzX ?qzT ?qzF ?qzN ?qzd ?qzu ?_; (case qza => walk_at "side"); (case qzb => walk_at "side"); (case qzX => k_asm); (case qzT => k_asm); (case qzF => k_asm); (case qzN => k_asm); (case qzd => (first | lia | omega)); (case qzu => (first | lia | omega)); intro t' h' tk' F' N'; (try k_sweep))))
  trivial
def isPlain (c : Int) : Bool := decide (c = 32 ∨ c = 9 ∨ (33 ≤ c ∧ c ≤ 126 ∧ c ≠ 61))
set_option maxHeartbeats 4000000 in
theorem c_plain (w : World) (c : Int) (t : Tok) (h0 : 0 ≤ c) (h1 : c < 256) : Ctr w 1 139 [.int c t] (PBool (isPlain c)) := by
  refine' ctr_enter (binds := [(Str.ofString "code", .int c t)]) ?ho ?hcd ?hlv ?hb ?hl ?hc ?h1 ?h2 ?h3 ?_
  walk_at "c enter"
  k_steps
  all_goals (refine CEnd.flat (by assumption) (pbool ?_); unfold isPlain; rw [Bool.eq_iff_iff]; simp only [beq_iff_eq, bne_iff_ne, ne_eq, decide_eq_true_eq]; (first | lia | omega))
theorem zk_3 : True := by
  k_with "call ref" => ((k_here; (with_reducible show wpAny _ _ (call (Value.ref 139) _) _ _ _); k_dflt (refine' use_bool (c_plain _ _ _ ?qza ?qzb) ?qzX ?qzT ?qzF ?qzN ?qzd ?qzu ?_; (case qza => walk_at "side"); (case qzb => walk_at "side"); (case qzX => k_asm); (case qzT => k_asm); (case qzF => k_asm); (case qzN => k_asm); (case qzd => (first | lia | omega)); (case qzu => (first | lia | omega)); intro h' tk' F' N'; (try k_sweep))))
  trivial
def hexDigits : Array UInt8 := #[48, 49, 50, 51, 52, 53, 54, 55, 56, 57, 65, 66, 67, 68, 69, 70]
def hexD (n : Int) : UInt8 := hexDigits.toList.getD n.toNat 0
def qcode (c : Int) : Array UInt8 := #[61, hexD (c / 16), hexD (c % 16)]
set_option maxHeartbeats 4000000 in
theorem c_code (w : World) (c : Int) (t : Tok) (h0 : 0 ≤ c) (h1 : c < 256) : Ctr w 1 118 [.int c t] (PBytes (qcode c)) := by
  refine' ctr_enter (binds := [(Str.ofString "code", .int c t)]) ?ho ?hcd ?hlv ?hb ?hl ?hc ?h1 ?h2 ?h3 ?_
  walk_at "c enter"
  k_steps
  refine CEnd.flat (by assumption) (pbytes ?_)
  rw [at_u8, at_u8, Int.fdiv_eq_ediv_of_nonneg _ (by decide), Int.fmod_eq_emod_of_nonneg _ (by decide)]
  rfl
theorem zk_4 : True := by
  k_with "call ref" => ((k_here; (with_reducible show wpAny _ _ (call (Value.ref 118) _) _ _ _); k_dflt (refine' use_bytes (c_code _ _ _ ?qza ?qzb) ?qzX ?qzT ?qzF ?qzN ?qzd ?qzu ?_; (case qza => walk_at "side"); (case qzb => walk_at "side"); (case qzX => k_asm); (case qzT => k_asm); (case qzF => k_asm); (case qzN => k_asm); (case qzd => (first | lia | omega)); (case qzu => (first | lia | omega)); intro t' h' tk' F' N'; (try k_sweep))))
  trivial
def quotedAt (b : Array UInt8) (c : Int) : Int := if c + 2 ≥ b.size then -1 else if 0 ≤ hexW (at_ b (c + 1)) ∧ 0 ≤ hexW (at_ b (c + 2)) then 16 * hexW (at_ b (c + 1)) + hexW (at_ b (c + 2)) else -1
set_option maxHeartbeats 4000000 in
theorem c_at (w : World) (b : Array UInt8) (c : Int) (t tb : Tok) (hb : b.size ≤ 2000) (h0 : 0 ≤ c) (h1 : c < b.size) : Ctr w 2 132 [.bytes b tb, .int c t] (PInt (quotedAt b c)) := by
  refine' ctr_enter (binds := [(Str.ofString "data", .bytes b tb), (Str.ofString "at", .int c t)]) ?ho ?hcd ?hlv ?hb ?hl ?hc ?h1 ?h2 ?h3 ?_
  walk_at "c enter"
  k_steps
  all_goals (refine CEnd.flat (by assumption) (pint ?_); unfold quotedAt; (repeat' split) <;> (first | lia | omega))

end
section
theorem zk_5 : True := by
  k_with_none
  k_with "side" => (first | with_reducible assumption | (first | lia | omega) | assumption | decide | ((simp (decide := true) only [Int.fdiv_eq_ediv_of_nonneg, Int.fmod_eq_emod_of_nonneg, List.size_toArray, List.length_cons, List.length_nil] at *); (first | lia | omega)))
  k_with "c enter" => (((case ho => k_is); (case hcd => k_is); (case hlv => decide); (case hb => first | exact (fun s X => BindsTo.of_eq rfl) | exact (fun s X => binds_K X rfl (by k_is) rfl rfl rfl)); (case hl => exact locs rfl); (case hc => decide); (case h1 => exact rfl); (case h2 => exact rfl); (case h3 => exact rfl); intro mean mg mb dp un gd fr s g L h₁ tk X T hd hu F N; (try dsimp only); (try k_fold)))
  k_with "c enterI" => (((case ho => k_is); (case hcd => k_is); (case hlv => decide); (case hb => first | exact (fun s X => BindsTo.of_eq rfl) | exact (fun s X => binds_K X rfl (by k_is) rfl rfl rfl)); (case hl => exact locs rfl); (case hc => decide); (case h1 => exact rfl); (case h2 => exact rfl); (case h3 => exact rfl); intro mean mg mb dp un gd fr s g L h₁ tk hI hIL X T hd hu F N; (replace hI := hI _ (List.Mem.head _)); (replace hIL := hIL _ (List.Mem.head _)); (try dsimp only at hI hIL); (try dsimp only); (try k_fold)))
  k_with "c enterC" => (((case ho => k_is); (case hcd => k_is); (case hlv => decide); (case hb => first | exact (fun s X => BindsTo.of_eq rfl) | exact (fun s X => binds_K X rfl (by k_is) rfl rfl rfl)); (case hl => exact rfl); (case hc => decide +kernel); (case h1 => exact rfl); (case h2 => exact rfl); (case h3 => exact rfl); intro mean mg mb dp un gd fr s g L h₁ tk cells X T hd hu F N Y; k_cells Y; (try simp only [List.cons_append, List.nil_append] at N); (try dsimp only); (try k_fold)))
  k_with "c enterIC" => (((case ho => k_is); (case hcd => k_is); (case hlv => decide); (case hb => first | exact (fun s X => BindsTo.of_eq rfl) | exact (fun s X => binds_K X rfl (by k_is) rfl rfl rfl)); (case hl => exact rfl); (case hc => decide +kernel); (case h1 => exact rfl); (case h2 => exact rfl); (case h3 => exact rfl); intro mean mg mb dp un gd fr s g L h₁ tk cells hI hIL X T hd hu F N Y; (replace hI := hI _ (List.Mem.head _)); (replace hIL := hIL _ (List.Mem.head _)); (try dsimp only at hI hIL); k_cells Y; (try simp only [List.cons_append, List.nil_append] at N); (try dsimp only); (try k_fold)))
  k_with "subscriptTail" => ((k_here; (with_reducible show wpAny _ _ (subscriptTail _ (Expr.Slice _ _ none _) (Value.bytes _ _) (Value.ref _)) _ _ _); (with_reducible rename Fr _ _ _ _ => F'); (with_reducible rename News _ _ _ _ => N'); k_dflt (first
      | ((with_reducible show wpAny _ _ (subscriptTail _ (Expr.Slice (some (Expr.UnaryOp _ _ _)) none none _) _ _) _ _ _); refine' slice_last (s := ⟨_, _, _, _, _⟩) F' N' ?qzz ?qze ?_; (case qze => first | rfl | decide); (case qzz => walk_at "side"); k_whole)
      | ((with_reducible show wpAny _ _ (subscriptTail _ (Expr.Slice (some _) (some _) none _) _ _) _ _ _); refine' slice_ss (s := ⟨_, _, _, _, _⟩) F' N' ?qza ?qzb ?qzz ?_; (case qza => walk_at "side"); (case qzb => walk_at "side"); (case qzz => walk_at "side"))
      | ((with_reducible show wpAny _ _ (subscriptTail _ (Expr.Slice (some _) none none _) _ _) _ _ _); refine' slice_sn (s := ⟨_, _, _, _, _⟩) F' N' ?qza ?qzz ?_; (case qza => walk_at "side"); (case qzz => walk_at "side"))
      | ((with_reducible show wpAny _ _ (subscriptTail _ (Expr.Slice none (some _) none _) _ _) _ _ _); refine' slice_ns (s := ⟨_, _, _, _, _⟩) F' N' ?qza ?qzz ?_; (case qza => walk_at "side"); (case qzz => walk_at "side"))); intro _ _ _ hcut F' N'))
  k_with "subscriptTail" => ((k_here; (with_reducible show wpAny _ _ (subscriptTail _ _ (Value.bytes _ _) (Value.int _ _)) _ _ _); k_dflt (refine' item_M ?qzz ?qza ?qzb ?_; (case qzz => walk_at "side"); (case qza => walk_at "side"); (case qzb => walk_at "side")); intro _ _ hlo hhi))
  k_with "getMethod bytes" => ((k_here; first | (with_reducible refine meth_join ?_) | (with_reducible refine meth_find ?_) | (with_reducible refine meth_split ?_) | (with_reducible refine meth_rstrip ?_)))
  k_with "call builtin:bytes.find" => ((k_here; k_dflt first | (refine' find4 ?qza ?qzb ?_; (case qza => walk_at "side"); (case qzb => walk_at "side"); intro _ _) | (refine' find3 ?qza ?_; (case qza => walk_at "side"); intro _ _)))
  k_with "call builtin:bytes.rstrip" => ((k_here; (try dsimp only [List.cons_append, List.nil_append]); k_dflt (refine' rstrip2 ?qza ?_; (case qza => walk_at "side")); intro r' t' k' hr' hrs'))
  k_with "exec For Name Name cons nil" => ((k_here; (rename Fr _ _ _ _ => lF'); (with_unfolding_all refine' For_invVF lF' ?qzk1 ?qzk2 ?_; (case qzk1 => exact rfl); (case qzk2 => exact rfl); k_whole)))
  k_with "exec For Name Call cons nil" => ((k_here; (rename Fr _ _ _ _ => lF'); (with_unfolding_all refine' For_invVF lF' ?qzk1 ?qzk2 ?_; (case qzk1 => exact rfl); (case qzk2 => exact rfl); k_whole)))
  k_with "pyIter bytes" => (((with_reducible show wpAny _ _ (pyIter (Value.bytes _ _)) (fun it s₂ => LoopAtV _ _ _ _ _ _ _ _ _ it s₂) _ _); refine park ?_))
  k_with "pyIter ref" => (((with_reducible show wpAny _ _ (pyIter (Value.ref _)) (fun it s₂ => LoopAtV _ _ _ _ _ _ _ _ _ it s₂) _ _); refine park ?_))
  k_with "exec While Compare cons nil" => ((k_here; refine park ?_))
  k_with "exec While Constant cons nil" => ((k_here; refine park ?_))
  k_with "ints" => (first | assumption | (repeat' (first | exact IntsAre.nil | refine IntsAre.cons _ _ ?_)))
  k_with "in256" => (first | assumption | exact in_nil | (refine in_cons ?qzia ?qzib ?qzic; (case qzia => walk_at "side"); (case qzib => walk_at "side"); (case qzic => walk_at "in256")))
  k_with "call type:bytes" => ((k_here; (with_reducible show wpAny _ _ (call (Value.type "bytes") [Value.ref _]) _ _ _); k_dflt (refine' KBa.make_K ?qzkbaF ?qzkbaN ?qzkbah ?qzkbal ?qzkbai ?qzkbar ?qzkban ?_; (case qzkbaF => k_asm); (case qzkbaN => k_asm); (case qzkbah => rfl); (case qzkbal => kba_isList); (case qzkbai => walk_at "ints"); (case qzkbar => walk_at "in256"); (case qzkban => walk_at "side")); intro _ _ _ F' N' kbaIn; (try k_sweep)))
  k_with "ps" => ((repeat' (first | exact List.forall_mem_nil _ | (refine List.forall_mem_cons.mpr ⟨by with_unfolding_all rfl, ?_⟩))))
  k_with "led" => ((repeat' (first | exact List.forall_mem_nil _ | (refine List.forall_mem_cons.mpr ⟨by k_mem, ?_⟩) | (intro p9 hp9; (repeat' (first | exact hp9 | refine List.Mem.tail _ ?_))))))
  k_with "lsize" => (first | size_fits | ((try rw [PySem.sizeLine_eq]); (simp only [List.size_toArray, Array.size_push]); (first | lia | omega)))
  k_with "call builtin:list.append" => ((k_here; (try dsimp only [List.cons_append, List.nil_append]); (with_reducible show wpAny _ _ (call (Value.builtin _) [Value.ref _, _]) _ _ _); k_dflt (refine' append_K ?qzk1 ?qzk2 ?qzk3 ?_ ?qzz; (case qzk1 => k_asm); (case qzk2 => k_asm); (case qzk3 => k_upd); (case qzz => walk_at "lsize"); k_whole); intro h' F' N'; (try k_sweep)))
  k_with "offI" => ((repeat' (first | exact List.forall_mem_nil _ | assumption | (refine List.forall_mem_cons.mpr ⟨by (refine neN ?_; (try dsimp only); (first | lia | omega)), ?_⟩))))
  k_with "bl get" => (first | (apply Fr.keep (by k_asm); assumption) | exact News.get (by k_asm) (by k_mem))
  k_with "subscriptTail" => ((k_here; (with_reducible show wpAny _ _ (subscriptTail _ _ (Value.ref _) (Value.int _ _)) _ _ _); k_dflt (refine' item_bl ?qzhl ?qzhv ?qza ?qzb ?qzz ?_; (case qzhv => with_reducible assumption); (case qzhl => walk_at "bl get"); (case qza => walk_at "side"); (case qzb => walk_at "side"); (case qzz => walk_at "side")); intro _ _))
  k_with "call builtin:len" => ((k_here; (with_reducible show wpAny _ _ (call (Value.builtin "len") [Value.ref _]) _ _ _); k_dflt (first | (refine' len_base ?qzhl ?qzF ?qzz ?_; (case qzhl => assumption); (case qzF => k_asm); (case qzz => walk_at "side")) | (refine' len_led ?qzN ?qzhm ?qzz ?_; (case qzN => k_asm); (case qzhm => k_mem); (case qzz => walk_at "side"))); intro _ _))
  k_with "binaryOp Add bytes bytes" => ((k_here; (with_reducible show wpAny _ _ (binaryOp Operator.Add (Value.bytes _ _) (Value.bytes _ _)) _ _ _); k_dflt (refine' KBy.add_bytes ?qzz ?_; (case qzz => walk_at "side")); intro _ _))
  k_with "call builtin:bytes.join" => ((k_here; (try dsimp only [List.cons_append, List.nil_append]); k_dflt (refine' join0 ?qzhl ?qzhv ?qzz ?_; (case qzhl => walk_at "bl get"); (case qzhv => walk_at "bytes are"); (case qzz => walk_at "side")); intro _ _))
  k_with "bytes are" => (first | with_reducible assumption | assumption | (repeat' (first | exact BytesAre.nil | refine BytesAre.cons ?_)))
  k_with "call builtin:bytes.split" => ((k_here; (try dsimp only [List.cons_append, List.nil_append]); k_dflt (refine' split1 ?qzF ?qzN ?qzc ?qza ?qzb ?_; (case qzF => k_asm); (case qzN => k_asm); (case qzc => rfl); (case qza => walk_at "side"); (case qzb => walk_at "side")); intro l' vs' h' k' hvs' F' N' hne'; (replace hne' := allNe_of9 hne'); (simp only [NeAll, and_true] at hne'); (try k_sweep)))
  k_with "call builtin:list.extend" => ((k_here; (with_reducible show wpAny _ _ (call (Value.builtin _) [Value.ref _, Value.ref _]) _ _ _); k_dflt (refine' ext_M ?qzF ?qzN ?qza ?qzb ?qzne ?qzU ?qzz ?_; (case qzF => k_asm); (case qzN => k_asm); (case qzb => k_mem); (case qzU => k_upd); (case qzne => walk_at "side"); (case qzz => walk_at "side"); (case qza => trivial)); intro h' F' N'; (try k_sweep)))
  k_with "subscriptTail Name Slice ref ref" => ((k_here; (with_reducible show wpAny _ _ (subscriptTail _ (PySem.Expr.Slice _ _ none _) (Value.ref _) (Value.ref _)) _ _ _); k_dflt (first
      | (refine' lslice_run (s := ⟨_, _, _, _, _⟩) ?qzF ?qzN ?qzhm ?qzhx ?qzhy ?qzhz ?_ ?qzhs ?qzht; (case qzF => k_asm); (case qzN => k_asm); (case qzhm => k_mem); (case qzhx => walk_at "side"); (case qzhy => walk_at "side"); (case qzhz => walk_at "side"); (case qzhs => with_unfolding_all rfl); (case qzht => kmk_pure))
      | (refine' lslice_to (s := ⟨_, _, _, _, _⟩) ?qzF ?qzN ?qzhm ?qzhy ?qzhz ?_ ?qzhs ?qzht; (case qzF => k_asm); (case qzN => k_asm); (case qzhm => k_mem); (case qzhy => walk_at "side"); (case qzhz => walk_at "side"); (case qzhs => with_unfolding_all rfl); (case qzht => kmk_pure))); intro D' h' F' N' l1; (try k_lt l1); (try k_sweep)))
  k_with "binaryOp LShift int int" => ((k_here; (with_reducible show wpAny _ _ (binaryOp Operator.LShift (Value.int _ _) (Value.int _ _)) _ _ _); k_dflt (refine' lshift_int_small ?qza ?qzb ?qzc ?_; (case qza => walk_at "side"); (case qzb => walk_at "side"); (case qzc => walk_at "side"))))
  k_with "binaryOp RShift int int" => ((k_here; (with_reducible show wpAny _ _ (binaryOp Operator.RShift (Value.int _ _) (Value.int _ _)) _ _ _); k_dflt (refine' rshift_int ?qza ?_; (case qza => walk_at "side"))))
  k_with "binaryOp BitAnd int int" => ((k_here; (with_reducible show wpAny _ _ (binaryOp Operator.BitAnd (Value.int _ _) (Value.int _ _)) _ _ _); k_dflt (first | (with_reducible refine and_63 ?_; intro _ _ hlo hhi) | (with_reducible refine and_255 ?_; intro _ _ hlo hhi) | (refine and_gen ?_; intro _ _ _))))
  k_with "comp range" => ((k_here; (with_reducible show wpAny _ _ (eval (PySem.Expr.ListComp _ [⟨PySem.Expr.Name _ _, _, [], _⟩] _ _) _) _ _ _); k_dflt (refine ListComp_RS (by k_asm) (by with_unfolding_all rfl) (by decide) (by rfl) (by decide) (by rfl) ?_)))
  k_with "eval ListComp" => (walk_at "comp range")
  k_with "RangeSrc" => ((refine park ?_))
  k_with "ev" => (first
      | ((with_reducible show Cx.Ev _ (PySem.Expr.Constant _ _ _) _); first | exact ev_int | exact ev_bytes)
      | ((with_reducible show Cx.Ev _ (PySem.Expr.Name _ _) _); first
          | exact ev_name (by exact rfl) (by exact rfl) (by first | exact ⟨_, rfl⟩ | exact rfl | exact ⟨_, rfl, Iff.rfl⟩) (by decide)
          | exact ev_globP rfl (by exact rfl) (by k_asm) (by k_asm) (by k_is) rfl (by decide) (by first | exact ⟨_, rfl⟩ | exact rfl))
      | ((with_reducible show Cx.Ev _ (PySem.Expr.BinOp _ Operator.Add _ _) _); exact ev_add (by walk_at "ev") (by walk_at "ev"))
      | ((with_reducible show Cx.Ev _ (PySem.Expr.BinOp _ Operator.Sub _ _) _); exact ev_sub (by walk_at "ev") (by walk_at "ev"))
      | ((with_reducible show Cx.Ev _ (PySem.Expr.Subscript _ (PySem.Expr.Slice (some _) (some _) none _) _) _); exact ev_slice (by walk_at "ev") (by walk_at "ev") (by walk_at "ev") (by walk_at "side") (by walk_at "side") (by walk_at "side") (by intro _ _; with_unfolding_all rfl) (by intro _ _; with_unfolding_all rfl))
      | ((with_reducible show Cx.Ev _ (PySem.Expr.Subscript _ _ _) _); exact ev_at (by walk_at "ev") (by walk_at "ev") (by walk_at "side") (by walk_at "side") (by walk_at "side") (by intro _ _; with_unfolding_all rfl) (by intro _ _; with_unfolding_all rfl))
      | ((with_reducible show Cx.Ev _ (PySem.Expr.Call (PySem.Expr.Name (Str.ofString "len") _) [_] [] _) _); exact ev_len (by walk_at "ev blt") (eva_cons (by walk_at "ev") eva_nil (by exact rfl)) (by walk_at "side") (by exact rfl) (by exact rfl) (by exact rfl))
      | ((with_reducible show Cx.Ev _ (PySem.Expr.Compare _ [CmpOp.Eq] [_] _) _); exact ev_eq (by walk_at "ev") (by walk_at "ev") (by with_unfolding_all rfl))
      | ((with_reducible show Cx.Ev _ (PySem.Expr.BoolOp BoolOp.Or [_, _] _) _); exact ev_orB (e3 := PySem.Expr.Name (Str.ofString "x") default) (by walk_at "ev") (fun hno => by walk_at "ev"))
      | ((with_reducible show Cx.Ev _ (PySem.Expr.IfExp _ _ _ _) _); exact ev_if (by walk_at "evt") (fun hye => by walk_at "ev") (fun hno => by walk_at "ev"))
      | ((with_reducible show Cx.Ev _ (PySem.Expr.Call _ _ _ _) _); walk_at "ev fn"))
  k_with "ev blt" => (exact ev_blt (by k_asm) (by k_asm) rfl (by k_is) (by boot_by_name) (by decide) rfl (by exact rfl) (by decide))
  k_with "ev glob" => (exact ev_glob (by k_asm) (by k_asm) rfl (by k_is) rfl (by exact rfl) (by decide))
  k_with "evt" => (first
      | ((with_reducible show Cx.EvT _ (PySem.Expr.Compare _ [CmpOp.Eq] [_] _) _); exact evt_eq (by walk_at "ev") (by walk_at "ev") (by with_unfolding_all rfl))
      | ((with_reducible show Cx.EvT _ (PySem.Expr.Compare _ [CmpOp.NotEq] [_] _) _); exact evt_ne (by walk_at "ev") (by walk_at "ev") (by with_unfolding_all rfl))
      | ((with_reducible show Cx.EvT _ (PySem.Expr.Compare _ [CmpOp.Lt] [_] _) _); exact evt_lt (by walk_at "ev") (by walk_at "ev") (by with_unfolding_all rfl))
      | ((with_reducible show Cx.EvT _ (PySem.Expr.Compare _ [CmpOp.LtE] [_] _) _); exact evt_le (by walk_at "ev") (by walk_at "ev") (by with_unfolding_all rfl))
      | ((with_reducible show Cx.EvT _ (PySem.Expr.Compare _ [CmpOp.Gt] [_] _) _); exact evt_gt (by walk_at "ev") (by walk_at "ev") (by with_unfolding_all rfl))
      | ((with_reducible show Cx.EvT _ (PySem.Expr.Compare _ [CmpOp.GtE] [_] _) _); exact evt_ge (by walk_at "ev") (by walk_at "ev") (by with_unfolding_all rfl))
      | ((with_reducible show Cx.EvT _ (PySem.Expr.BoolOp BoolOp.And [] _) _); exact evt_and_nil)
      | ((with_reducible show Cx.EvT _ (PySem.Expr.BoolOp BoolOp.Or [] _) _); exact evt_or_nil)
      | ((with_reducible show Cx.EvT _ (PySem.Expr.BoolOp BoolOp.And (_ :: _) _) _); exact evt_and (by walk_at "evt") (fun hye => by walk_at "evt"))
      | ((with_reducible show Cx.EvT _ (PySem.Expr.BoolOp BoolOp.Or (_ :: _) _) _); exact evt_or (by walk_at "evt") (fun hno => by walk_at "evt"))
      | ((with_reducible show Cx.EvT _ (PySem.Expr.UnaryOp UnaryOp.Not _ _) _); exact evt_not (by walk_at "evt"))
      | exact evt_val (by walk_at "ev") (by exact rfl))
  k_with "exec If" => ((k_here; k_dflt (refine' st_if rfl rfl ?qzF ?qzN ?qzt ?_ ?_; (case qzF => k_asm); (case qzN => k_asm); (case qzt => walk_at "evt"); all_goals (intro hc' h' k' F' N'; (try simp only [and_true, or_false] at hc'); (try k_sweep)))))
  k_with "exec Assign" => ((k_here; k_dflt (first
      | (refine' st_setI rfl rfl ?qzF ?qzN ?qzt ?qzx ?qzs ?_; (case qzF => k_asm); (case qzN => k_asm); (case qzt => walk_at "ev"); (case qzx => exact rfl); (case qzs => exact rfl); intro t' h' k' F' N'; (try k_sweep))
      | (refine' st_setB rfl rfl ?qzF ?qzN ?qzt ?qzx ?qzs ?_; (case qzF => k_asm); (case qzN => k_asm); (case qzt => walk_at "ev"); (case qzx => exact rfl); (case qzs => exact rfl); intro q' h' k' hq' F' N'; (try k_sweep)))))
  k_with "exec Return some" => ((k_here; k_dflt (refine' st_ret rfl rfl ?qzF ?qzN ?qzt ?_; (case qzF => k_asm); (case qzN => k_asm); (case qzt => walk_at "ev"); intro v' h' k' hv' F' N'; obtain ⟨t', rfl⟩ := hv'; (try k_sweep))))
  k_with "exec Expr" => ((k_here; k_dflt (refine' st_app rfl rfl ?qzF ?qzN ?qzf ?qzt ?qzm ?qzU ?qzz ?qzhe ?qzh1 ?qzh2 ?qzi ?qzs ?_; (case qzF => k_asm); (case qzN => k_asm); (case qzf => walk_at "ev"); (case qzt => walk_at "ev"); (case qzm => k_mem); (case qzU => (intro _; k_upd)); (case qzz => walk_at "side"); (case qzhe => exact rfl); (case qzh1 => exact rfl); (case qzh2 => exact rfl); (case qzi => exact rfl); (case qzs => exact rfl); intro v' h' k' hv' F' N'; obtain ⟨t', rfl⟩ := hv'; (try k_sweep))))
  k_with "side9" => (first | exact at_lo _ _ | exact at_hi _ _ | walk_at "side")
  k_with "call ref" => ((k_here; (with_reducible show wpAny _ _ (call (Value.ref 125) _) _ _ _); k_dflt (refine' use_int (c_hex _ _ _ ?qza ?qzb) ?qzX ?qzT ?qzF ?qzN ?qzd ?qzu ?_; (case qza => walk_at "side"); (case qzb => walk_at "side"); (case qzX => k_asm); (case qzT => k_asm); (case qzF => k_asm); (case qzN => k_asm); (case qzd => (first | lia | omega)); (case qzu => (first | lia | omega)); intro t' h' tk' F' N'; (try k_sweep))))
  k_with "call ref" => ((k_here; (with_reducible show wpAny _ _ (call (Value.ref 139) _) _ _ _); k_dflt (refine' use_bool (c_plain _ _ _ ?qza ?qzb) ?qzX ?qzT ?qzF ?qzN ?qzd ?qzu ?_; (case qza => walk_at "side"); (case qzb => walk_at "side"); (case qzX => k_asm); (case qzT => k_asm); (case qzF => k_asm); (case qzN => k_asm); (case qzd => (first | lia | omega)); (case qzu => (first | lia | omega)); intro h' tk' F' N'; (try k_sweep))))
  k_with "call ref" => ((k_here; (with_reducible show wpAny _ _ (call (Value.ref 118) _) _ _ _); k_dflt (refine' use_bytes (c_code _ _ _ ?qza ?qzb) ?qzX ?qzT ?qzF ?qzN ?qzd ?qzu ?_; (case qza => walk_at "side"); (case qzb => walk_at "side"); (case qzX => k_asm); (case qzT => k_asm); (case qzF => k_asm); (case qzN => k_asm); (case qzd => (first | lia | omega)); (case qzu => (first | lia | omega)); intro t' h' tk' F' N'; (try k_sweep))))
  k_with "call ref" => ((k_here; (with_reducible show wpAny _ _ (call (Value.ref 132) _) _ _ _); k_dflt (refine' use_int (c_at _ _ _ _ _ ?qza ?qzb ?qzc) ?qzX ?qzT ?qzF ?qzN ?qzd ?qzu ?_; (case qza => walk_at "side"); (case qzb => walk_at "side"); (case qzc => walk_at "side"); (case qzX => k_asm); (case qzT => k_asm); (case qzF => k_asm); (case qzN => k_asm); (case qzd => (first | lia | omega)); (case qzu => (first | lia | omega)); intro t' h' tk' F' N'; (try k_sweep))))
  trivial

def pieceAt (l : Array UInt8) (k : Nat) : Array UInt8 := if isPlain (at_ l k) = true ∧ ¬ ((at_ l k = 32 ∨ at_ l k = 9) ∧ k + 1 = l.size) then cut l k (k + 1) else qcode (at_ l k)
def linePieces (l : Array UInt8) : List (Array UInt8) := (List.range l.size).map (pieceAt l)
theorem zk_6 : True := by
  k_with "ev fn" => (exact ev_fn (f := 139) (by walk_at "ev glob") (eva_cons (by walk_at "ev") eva_nil (by exact rfl)) rfl (by k_asm) (by k_asm) (by (first | lia | omega)) (by (first | lia | omega)) (by k_is) (arg_I fun t0 => c_plain _ _ t0 (by walk_at "side9") (by walk_at "side9")) post_B rfl rfl rfl)
  k_with "ev fn" => (exact ev_fn (f := 118) (by walk_at "ev glob") (eva_cons (by walk_at "ev") eva_nil (by exact rfl)) rfl (by k_asm) (by k_asm) (by (first | lia | omega)) (by (first | lia | omega)) (by k_is) (arg_I fun t0 => c_code _ _ t0 (by walk_at "side9") (by walk_at "side9")) post_Y rfl rfl rfl)
  trivial
set_option maxHeartbeats 4000000 in
theorem c_pieces (w : World) (b : Array UInt8) (tb : Tok) (hb : b.size ≤ 2000) : Ctr w 2 146 [.bytes b tb] (PBL (linePieces b)) := by
  refine' ctr_enter (binds := [(Str.ofString "line", .bytes b tb)]) ?ho ?hcd ?hlv ?hb ?hl ?hc ?h1 ?h2 ?h3 ?_
  walk_at "c enter"
  k_steps
  unfold Park
  refine' for_range (n := b.size) (fun i ps led => ∃ o vs n, BytesAre vs ((List.range i).map (pieceAt b)) ∧ ps = [(Str.ofString "line", .bytes b tb), (Str.ofString "pieces", .ref o)] ∧ led = [(o, listOf vs.toArray n)]) [(Str.ofString "line", .bytes b tb), (Str.ofString "pieces", .ref _)] [(_, _)] rfl (by assumption) ?small ?size (by k_asm) (by k_asm) ?led ?ps ?j ?turn ?done
  case ps => walk_at "ps"
  case led => walk_at "led"
  case small => exact small_one (by (first | lia | omega)) (by (first | lia | omega)) (by (first | lia | omega)) (by (first | lia | omega))
  case size => exact rangeSize_nat _ _
  case j => exact ⟨_, _, _, .nil, rfl, rfl⟩
  case turn =>
    intro i k u ps led m I oI h tk hi hk hJ hI F N
    obtain ⟨o, vs, n, hv, rfl, rfl⟩ := hJ
    replace hI := ne_all (l := I) (fun q hq => Ne.symm (hI q hq))
    simp only [NeAll, and_true] at hI
    simp only [List.cons_append, List.nil_append] at N
    have hvl := hv.length
    simp only [List.length_map, List.length_range] at hvl
    obtain rfl : k = (i : Int) := by (first | lia | omega)
    k_steps
    · ((rename News _ _ _ _ => N9); (try simp only [List.push_toArray] at N9); refine TurnEnd.intro [(Str.ofString "line", .bytes b tb), (Str.ofString "pieces", .ref o)] [(o, _)] (by k_asm) N9 (by walk_at "led") (by k_mem) (by walk_at "offI") (by walk_at "ps") ?_)
      refine ⟨o, _, _, snoc_range hv ?_, rfl, rfl⟩
      unfold pieceAt
      rw [if_pos ⟨hc'.1, fun h => hc'.2 ⟨hq'.mpr h.1, by (first | lia | omega)⟩⟩]
    · ((rename News _ _ _ _ => N9); (try simp only [List.push_toArray] at N9); refine TurnEnd.intro [(Str.ofString "line", .bytes b tb), (Str.ofString "pieces", .ref o)] [(o, _)] (by k_asm) N9 (by walk_at "led") (by k_mem) (by walk_at "offI") (by walk_at "ps") ?_)
      refine ⟨o, _, _, snoc_range hv ?_, rfl, rfl⟩
      unfold pieceAt
      rw [if_neg fun h => hc' ⟨h.1, fun z => h.2 ⟨hq'.mp z.1, by (first | lia | omega)⟩⟩]
  case done =>
    intro ps led m h tk hJ F N
    obtain ⟨o, vs, n, hv, rfl, rfl⟩ := hJ
    k_steps
    exact CEnd.bl (by k_asm) (by k_asm) (by k_mem) hv

end
section
theorem zk_7 : True := by
  k_with_none
  k_with "side" => (first | with_reducible assumption | (first | lia | omega) | assumption | decide | ((simp (decide := true) only [Int.fdiv_eq_ediv_of_nonneg, Int.fmod_eq_emod_of_nonneg, List.size_toArray, List.length_cons, List.length_nil] at *); (first | lia | omega)))
  k_with "c enter" => (((case ho => k_is); (case hcd => k_is); (case hlv => decide); (case hb => first | exact (fun s X => BindsTo.of_eq rfl) | exact (fun s X => binds_K X rfl (by k_is) rfl rfl rfl)); (case hl => exact locs rfl); (case hc => decide); (case h1 => exact rfl); (case h2 => exact rfl); (case h3 => exact rfl); intro mean mg mb dp un gd fr s g L h₁ tk X T hd hu F N; (try dsimp only); (try k_fold)))
  k_with "c enterI" => (((case ho => k_is); (case hcd => k_is); (case hlv => decide); (case hb => first | exact (fun s X => BindsTo.of_eq rfl) | exact (fun s X => binds_K X rfl (by k_is) rfl rfl rfl)); (case hl => exact locs rfl); (case hc => decide); (case h1 => exact rfl); (case h2 => exact rfl); (case h3 => exact rfl); intro mean mg mb dp un gd fr s g L h₁ tk hI hIL X T hd hu F N; (replace hI := hI _ (List.Mem.head _)); (replace hIL := hIL _ (List.Mem.head _)); (try dsimp only at hI hIL); (try dsimp only); (try k_fold)))
  k_with "c enterC" => (((case ho => k_is); (case hcd => k_is); (case hlv => decide); (case hb => first | exact (fun s X => BindsTo.of_eq rfl) | exact (fun s X => binds_K X rfl (by k_is) rfl rfl rfl)); (case hl => exact rfl); (case hc => decide +kernel); (case h1 => exact rfl); (case h2 => exact rfl); (case h3 => exact rfl); intro mean mg mb dp un gd fr s g L h₁ tk cells X T hd hu F N Y; k_cells Y; (try simp only [List.cons_append, List.nil_append] at N); (try dsimp only); (try k_fold)))
  k_with "c enterIC" => (((case ho => k_is); (case hcd => k_is); (case hlv => decide); (case hb => first | exact (fun s X => BindsTo.of_eq rfl) | exact (fun s X => binds_K X rfl (by k_is) rfl rfl rfl)); (case hl => exact rfl); (case hc => decide +kernel); (case h1 => exact rfl); (case h2 => exact rfl); (case h3 => exact rfl); intro mean mg mb dp un gd fr s g L h₁ tk cells hI hIL X T hd hu F N Y; (replace hI := hI _ (List.Mem.head _)); (replace hIL := hIL _ (List.Mem.head _)); (try dsimp only at hI hIL); k_cells Y; (try simp only [List.cons_append, List.nil_append] at N); (try dsimp only); (try k_fold)))
  k_with "subscriptTail" => ((k_here; (with_reducible show wpAny _ _ (subscriptTail _ (Expr.Slice _ _ none _) (Value.bytes _ _) (Value.ref _)) _ _ _); (with_reducible rename Fr _ _ _ _ => F'); (with_reducible rename News _ _ _ _ => N'); k_dflt (first
      | ((with_reducible show wpAny _ _ (subscriptTail _ (Expr.Slice (some (Expr.UnaryOp _ _ _)) none none _) _ _) _ _ _); refine' slice_last (s := ⟨_, _, _, _, _⟩) F' N' ?qzz ?qze ?_; (case qze => first | rfl | decide); (case qzz => walk_at "side"); k_whole)
      | ((with_reducible show wpAny _ _ (subscriptTail _ (Expr.Slice (some _) (some _) none _) _ _) _ _ _); refine' slice_ss (s := ⟨_, _, _, _, _⟩) F' N' ?qza ?qzb ?qzz ?_; (case qza => walk_at "side"); (case qzb => walk_at "side"); (case qzz => walk_at "side"))
      | ((with_reducible show wpAny _ _ (subscriptTail _ (Expr.Slice (some _) none none _) _ _) _ _ _); refine' slice_sn (s := ⟨_, _, _, _, _⟩) F' N' ?qza ?qzz ?_; (case qza => walk_at "side"); (case qzz => walk_at "side"))
      | ((with_reducible show wpAny _ _ (subscriptTail _ (Expr.Slice none (some _) none _) _ _) _ _ _); refine' slice_ns (s := ⟨_, _, _, _, _⟩) F' N' ?qza ?qzz ?_; (case qza => walk_at "side"); (case qzz => walk_at "side"))); intro _ _ _ hcut F' N'))
  k_with "subscriptTail" => ((k_here; (with_reducible show wpAny _ _ (subscriptTail _ _ (Value.bytes _ _) (Value.int _ _)) _ _ _); k_dflt (refine' item_M ?qzz ?qza ?qzb ?_; (case qzz => walk_at "side"); (case qza => walk_at "side"); (case qzb => walk_at "side")); intro _ _ hlo hhi))
  k_with "getMethod bytes" => ((k_here; first | (with_reducible refine meth_join ?_) | (with_reducible refine meth_find ?_) | (with_reducible refine meth_split ?_) | (with_reducible refine meth_rstrip ?_)))
  k_with "call builtin:bytes.find" => ((k_here; k_dflt first | (refine' find4 ?qza ?qzb ?_; (case qza => walk_at "side"); (case qzb => walk_at "side"); intro _ _) | (refine' find3 ?qza ?_; (case qza => walk_at "side"); intro _ _)))
  k_with "call builtin:bytes.rstrip" => ((k_here; (try dsimp only [List.cons_append, List.nil_append]); k_dflt (refine' rstrip2 ?qza ?_; (case qza => walk_at "side")); intro r' t' k' hr' hrs'))
  k_with "exec For Name Name cons nil" => ((k_here; (rename Fr _ _ _ _ => lF'); (with_unfolding_all refine' For_invVF lF' ?qzk1 ?qzk2 ?_; (case qzk1 => exact rfl); (case qzk2 => exact rfl); k_whole)))
  k_with "exec For Name Call cons nil" => ((k_here; (rename Fr _ _ _ _ => lF'); (with_unfolding_all refine' For_invVF lF' ?qzk1 ?qzk2 ?_; (case qzk1 => exact rfl); (case qzk2 => exact rfl); k_whole)))
  k_with "pyIter bytes" => (((with_reducible show wpAny _ _ (pyIter (Value.bytes _ _)) (fun it s₂ => LoopAtV _ _ _ _ _ _ _ _ _ it s₂) _ _); refine park ?_))
  k_with "pyIter ref" => (((with_reducible show wpAny _ _ (pyIter (Value.ref _)) (fun it s₂ => LoopAtV _ _ _ _ _ _ _ _ _ it s₂) _ _); refine park ?_))
  k_with "exec While Compare cons nil" => ((k_here; refine park ?_))
  k_with "exec While Constant cons nil" => ((k_here; refine park ?_))
  k_with "ints" => (first | assumption | (repeat' (first | exact IntsAre.nil | refine IntsAre.cons _ _ ?_)))
  k_with "in256" => (first | assumption | exact in_nil | (refine in_cons ?qzia ?qzib ?qzic; (case qzia => walk_at "side"); (case qzib => walk_at "side"); (case qzic => walk_at "in256")))
  k_with "call type:bytes" => ((k_here; (with_reducible show wpAny _ _ (call (Value.type "bytes") [Value.ref _]) _ _ _); k_dflt (refine' KBa.make_K ?qzkbaF ?qzkbaN ?qzkbah ?qzkbal ?qzkbai ?qzkbar ?qzkban ?_; (case qzkbaF => k_asm); (case qzkbaN => k_asm); (case qzkbah => rfl); (case qzkbal => kba_isList); (case qzkbai => walk_at "ints"); (case qzkbar => walk_at "in256"); (case qzkban => walk_at "side")); intro _ _ _ F' N' kbaIn; (try k_sweep)))
  k_with "ps" => ((repeat' (first | exact List.forall_mem_nil _ | (refine List.forall_mem_cons.mpr ⟨by with_unfolding_all rfl, ?_⟩))))
  k_with "led" => ((repeat' (first | exact List.forall_mem_nil _ | (refine List.forall_mem_cons.mpr ⟨by k_mem, ?_⟩) | (intro p9 hp9; (repeat' (first | exact hp9 | refine List.Mem.tail _ ?_))))))
  k_with "lsize" => (first | size_fits | ((try rw [PySem.sizeLine_eq]); (simp only [List.size_toArray, Array.size_push]); (first | lia | omega)))
  k_with "call builtin:list.append" => ((k_here; (try dsimp only [List.cons_append, List.nil_append]); (with_reducible show wpAny _ _ (call (Value.builtin _) [Value.ref _, _]) _ _ _); k_dflt (refine' append_K ?qzk1 ?qzk2 ?qzk3 ?_ ?qzz; (case qzk1 => k_asm); (case qzk2 => k_asm); (case qzk3 => k_upd); (case qzz => walk_at "lsize"); k_whole); intro h' F' N'; (try k_sweep)))
  k_with "offI" => ((repeat' (first | exact List.forall_mem_nil _ | assumption | (refine List.forall_mem_cons.mpr ⟨by (refine neN ?_; (try dsimp only); (first | lia | omega)), ?_⟩))))
  k_with "bl get" => (first | (apply Fr.keep (by k_asm); assumption) | exact News.get (by k_asm) (by k_mem))
  k_with "subscriptTail" => ((k_here; (with_reducible show wpAny _ _ (subscriptTail _ _ (Value.ref _) (Value.int _ _)) _ _ _); k_dflt (refine' item_bl ?qzhl ?qzhv ?qza ?qzb ?qzz ?_; (case qzhv => with_reducible assumption); (case qzhl => walk_at "bl get"); (case qza => walk_at "side"); (case qzb => walk_at "side"); (case qzz => walk_at "side")); intro _ _))
  k_with "call builtin:len" => ((k_here; (with_reducible show wpAny _ _ (call (Value.builtin "len") [Value.ref _]) _ _ _); k_dflt (first | (refine' len_base ?qzhl ?qzF ?qzz ?_; (case qzhl => assumption); (case qzF => k_asm); (case qzz => walk_at "side")) | (refine' len_led ?qzN ?qzhm ?qzz ?_; (case qzN => k_asm); (case qzhm => k_mem); (case qzz => walk_at "side"))); intro _ _))
  k_with "binaryOp Add bytes bytes" => ((k_here; (with_reducible show wpAny _ _ (binaryOp Operator.Add (Value.bytes _ _) (Value.bytes _ _)) _ _ _); k_dflt (refine' KBy.add_bytes ?qzz ?_; (case qzz => walk_at "side")); intro _ _))
  k_with "call builtin:bytes.join" => ((k_here; (try dsimp only [List.cons_append, List.nil_append]); k_dflt (refine' join0 ?qzhl ?qzhv ?qzz ?_; (case qzhl => walk_at "bl get"); (case qzhv => walk_at "bytes are"); (case qzz => walk_at "side")); intro _ _))
  k_with "bytes are" => (first | with_reducible assumption | assumption | (repeat' (first | exact BytesAre.nil | refine BytesAre.cons ?_)))
  k_with "call builtin:bytes.split" => ((k_here; (try dsimp only [List.cons_append, List.nil_append]); k_dflt (refine' split1 ?qzF ?qzN ?qzc ?qza ?qzb ?_; (case qzF => k_asm); (case qzN => k_asm); (case qzc => rfl); (case qza => walk_at "side"); (case qzb => walk_at "side")); intro l' vs' h' k' hvs' F' N' hne'; (replace hne' := allNe_of9 hne'); (simp only [NeAll, and_true] at hne'); (try k_sweep)))
  k_with "call builtin:list.extend" => ((k_here; (with_reducible show wpAny _ _ (call (Value.builtin _) [Value.ref _, Value.ref _]) _ _ _); k_dflt (refine' ext_M ?qzF ?qzN ?qza ?qzb ?qzne ?qzU ?qzz ?_; (case qzF => k_asm); (case qzN => k_asm); (case qzb => k_mem); (case qzU => k_upd); (case qzne => walk_at "side"); (case qzz => walk_at "side"); (case qza => trivial)); intro h' F' N'; (try k_sweep)))
  k_with "subscriptTail Name Slice ref ref" => ((k_here; (with_reducible show wpAny _ _ (subscriptTail _ (PySem.Expr.Slice _ _ none _) (Value.ref _) (Value.ref _)) _ _ _); k_dflt (first
      | (refine' lslice_run (s := ⟨_, _, _, _, _⟩) ?qzF ?qzN ?qzhm ?qzhx ?qzhy ?qzhz ?_ ?qzhs ?qzht; (case qzF => k_asm); (case qzN => k_asm); (case qzhm => k_mem); (case qzhx => walk_at "side"); (case qzhy => walk_at "side"); (case qzhz => walk_at "side"); (case qzhs => with_unfolding_all rfl); (case qzht => kmk_pure))
      | (refine' lslice_to (s := ⟨_, _, _, _, _⟩) ?qzF ?qzN ?qzhm ?qzhy ?qzhz ?_ ?qzhs ?qzht; (case qzF => k_asm); (case qzN => k_asm); (case qzhm => k_mem); (case qzhy => walk_at "side"); (case qzhz => walk_at "side"); (case qzhs => with_unfolding_all rfl); (case qzht => kmk_pure))); intro D' h' F' N' l1; (try k_lt l1); (try k_sweep)))
  k_with "binaryOp LShift int int" => ((k_here; (with_reducible show wpAny _ _ (binaryOp Operator.LShift (Value.int _ _) (Value.int _ _)) _ _ _); k_dflt (refine' lshift_int_small ?qza ?qzb ?qzc ?_; (case qza => walk_at "side"); (case qzb => walk_at "side"); (case qzc => walk_at "side"))))
  k_with "binaryOp RShift int int" => ((k_here; (with_reducible show wpAny _ _ (binaryOp Operator.RShift (Value.int _ _) (Value.int _ _)) _ _ _); k_dflt (refine' rshift_int ?qza ?_; (case qza => walk_at "side"))))
  k_with "binaryOp BitAnd int int" => ((k_here; (with_reducible show wpAny _ _ (binaryOp Operator.BitAnd (Value.int _ _) (Value.int _ _)) _ _ _); k_dflt (first | (with_reducible refine and_63 ?_; intro _ _ hlo hhi) | (with_reducible refine and_255 ?_; intro _ _ hlo hhi) | (refine and_gen ?_; intro _ _ _))))
  k_with "comp range" => ((k_here; (with_reducible show wpAny _ _ (eval (PySem.Expr.ListComp _ [⟨PySem.Expr.Name _ _, _, [], _⟩] _ _) _) _ _ _); k_dflt (refine ListComp_RS (by k_asm) (by with_unfolding_all rfl) (by decide) (by rfl) (by decide) (by rfl) ?_)))
  k_with "eval ListComp" => (walk_at "comp range")
  k_with "RangeSrc" => ((refine park ?_))
  trivial
set_option maxHeartbeats 4000000 in
theorem c_soft (w : World) (a : Addr) (t : Tok) (vs : List Value) (n : Nat) (bs : List (Array UInt8)) (hv : BytesAre vs bs) (hn : bs.length ≤ 2000) (hz : (flat bs).size ≤ 75) : CtrI w 1 153 [.ref a, .int 76 t] [(a, listOf vs.toArray n)] (PBL [flat bs]) := by
  have hvl := hv.length
  refine' ctri_enter (binds := [(Str.ofString "pieces", .ref a), (Str.ofString "width", .int 76 t)]) ?ho ?hcd ?hlv ?hb ?hl ?hc ?h1 ?h2 ?h3 ?_
  walk_at "c enterI"
  k_steps
  unfold Park
  refine' for_range (n := vs.length) (fun i ps led => ∃ o t1, ps = [(Str.ofString "pieces", .ref a), (Str.ofString "width", .int 76 t), (Str.ofString "lines", .ref o), (Str.ofString "line", .bytes (flat (bs.take i)) t1)] ∧ led = [(o, listOf #[] 0)]) [(Str.ofString "pieces", .ref a), (Str.ofString "width", .int 76 t), (Str.ofString "lines", .ref _), (Str.ofString "line", .bytes #[] _)] [(_, _)] rfl (by assumption) ?small ?size (by k_asm) (by k_asm) ?led ?ps ?j ?turn ?done
  case ps => walk_at "ps"
  case led => walk_at "led"
  case small => exact small_one (by (first | lia | omega)) (by (first | lia | omega)) (by (first | lia | omega)) (by (first | lia | omega))
  case size => exact rangeSize_nat _ _
  case j => exact ⟨_, _, rfl, rfl⟩
  case turn =>
    intro i k u ps led m I oI h tk hi hk hJ hII F N
    obtain ⟨o, t1, rfl, rfl⟩ := hJ
    replace hII := ne_all (l := I) (fun q hq => Ne.symm (hII q hq))
    simp only [NeAll, and_true] at hII
    simp only [List.cons_append, List.nil_append] at N
    have hk0 : 0 ≤ k := by (first | lia | omega)
    obtain rfl : i = k.toNat := by (first | lia | omega)
    have hle := flat_take_le bs k.toNat
    have hi' : k.toNat < bs.length := by (first | lia | omega)
    have hle2 := flat_take_le bs (k.toNat + 1)
    rw [flat_take_succ hi', Array.size_append] at hle2
    k_steps
    all_goals ((rename News _ _ _ _ => N9); (try simp only [List.push_toArray] at N9); refine TurnEnd.intro [(Str.ofString "pieces", .ref a), (Str.ofString "width", .int 76 t), (Str.ofString "lines", .ref o), (Str.ofString "line", .bytes _ _)] [(o, _)] (by k_asm) N9 (by walk_at "led") (by k_mem) (by walk_at "offI") (by walk_at "ps") ?_)
    all_goals exact ⟨_, _, by rw [flat_take_succ hi'], rfl⟩
  case done =>
    intro ps led m h tk hJ F N
    obtain ⟨o, t1, rfl, rfl⟩ := hJ
    rw [hvl, List.take_length] at F
    k_steps
    exact CEnd.bl (vs := [_]) (by k_asm) (by k_asm) (List.Mem.head _) .one

theorem zk_8 : True := by
  k_with "call ref" => ((k_here; (with_reducible show wpAny _ _ (call (Value.ref 153) _) _ _ _); k_dflt (refine' usei_bl (c_soft _ _ _ _ _ _ ?qzhv ?qzhn ?qzhz) ?qzX ?qzT ?qzF ?qzN ?qzhin ?qzd ?qzu ?_; (case qzF => k_asm); (case qzN => k_asm); (case qzhin => walk_at "led"); (case qzhv => walk_at "side"); (case qzhn => walk_at "side"); (case qzhz => walk_at "side"); (case qzX => k_asm); (case qzT => k_asm); (case qzd => (first | lia | omega)); (case qzu => (first | lia | omega)); intro l' vs' n' h' tk' hvs' F' N' hne'; (have hlen' := BytesAre.length hvs'); (try simp only [List.length_cons, List.length_nil] at hlen'); (replace hne' := ne_all hne'); (simp only [NeAll, and_true] at hne'); (try k_sweep))))
  trivial
set_option maxHeartbeats 4000000 in
theorem c_joined (w : World) (a : Addr) (vs : List Value) (n : Nat) (bs : List (Array UInt8)) (hv : BytesAre vs bs) (hn : bs.length ≤ 2000) (hz : (flat bs).size ≤ 4000) (hsz : ∀ x ∈ bs, x.size ≤ 4000) (hno : ∀ x ∈ bs, last1 x ≠ #[61]) : CtrI w 1 175 [.ref a] [(a, listOf vs.toArray n)] (PBytes (flat bs)) := by
  have hvl := hv.length
  refine' ctri_enter (binds := [(Str.ofString "lines", .ref a)]) ?ho ?hcd ?hlv ?hb ?hl ?hc ?h1 ?h2 ?h3 ?_
  walk_at "c enterI"
  k_steps
  unfold Park
  refine' for_base (fun i ps led => ∃ o ws k, BytesAre ws (bs.take i) ∧ ps = [(Str.ofString "lines", .ref a), (Str.ofString "parts", .ref o)] ∧ led = [(o, listOf ws.toArray k)]) [(Str.ofString "lines", .ref a), (Str.ofString "parts", .ref _)] [(_, _)] rfl (by assumption) (by assumption) (by k_asm) (by k_asm) ?led ?ps ?j ?turn ?done
  case ps => walk_at "ps"
  case led => walk_at "led"
  case j => exact ⟨_, _, _, .nil, rfl, rfl⟩
  case turn =>
    intro i v ps led m I oI h tk hi hv' hJ hI F N
    obtain ⟨o, ws, k, hw, rfl, rfl⟩ := hJ
    replace hI := ne_all (l := I) (fun q hq => Ne.symm (hI q hq))
    simp only [NeAll, and_true] at hI
    simp only [List.cons_append, List.nil_append] at N
    obtain ⟨x, t, hx, rfl⟩ := hv.get hv'
    have hwl := hw.length
    rw [List.length_take] at hwl
    have hmem := List.mem_of_getElem? hx
    have h1 := hsz _ hmem
    have h2 := hno _ hmem
    k_steps
    · rename (_ == _) = true => h3
      exact absurd (Array.ext' (by simpa using h3)) h2
    · ((rename News _ _ _ _ => N9); (try simp only [List.push_toArray] at N9); refine TurnEnd.intro [(Str.ofString "lines", .ref a), (Str.ofString "parts", .ref o)] [(o, _)] (by k_asm) N9 (by walk_at "led") (by k_mem) (by walk_at "offI") (by walk_at "ps") ?_)
      exact ⟨o, _, _, snoc_take hw hx, rfl, rfl⟩
  case done =>
    intro ps led m h tk hJ F N
    obtain ⟨o, ws, k, hw, rfl, rfl⟩ := hJ
    rw [hvl, List.take_length] at hw
    k_steps
    exact CEnd.flat (by k_asm) (pbytes rfl)
set_option maxHeartbeats 4000000 in
theorem c_text (w : World) (b : Array UInt8) (tb : Tok) (x : Bool) (hb : b.size ≤ 2000) (hs1 : (splitAt b #[13, 10]).length ≤ 16777216) (hs2 : ∀ x ∈ splitAt b #[13, 10], x.size ≤ 16777216) : Ctr w 1 160 [.bytes b tb, .bool x] (PBL (if x = true then splitAt b #[13, 10] else [b])) := by
  refine' ctr_enter (binds := [(Str.ofString "octets", .bytes b tb), (Str.ofString "is_text", .bool x)]) ?ho ?hcd ?hlv ?hb ?hl ?hc ?h1 ?h2 ?h3 ?_
  walk_at "c enter"
  k_steps
  · subst x
    exact CEnd.bl (by k_asm) (by k_asm) (by k_mem) (by assumption)
  · subst x
    exact CEnd.bl (vs := [_]) (by k_asm) (by k_asm) (List.Mem.head _) .one

end
section
theorem zk_9 : True := by
  k_with_none
  k_with "side" => (first | with_reducible assumption | (first | lia | omega) | assumption | decide | ((simp (decide := true) only [Int.fdiv_eq_ediv_of_nonneg, Int.fmod_eq_emod_of_nonneg, List.size_toArray, List.length_cons, List.length_nil] at *); (first | lia | omega)))
  k_with "c enter" => (((case ho => k_is); (case hcd => k_is); (case hlv => decide); (case hb => first | exact (fun s X => BindsTo.of_eq rfl) | exact (fun s X => binds_K X rfl (by k_is) rfl rfl rfl)); (case hl => exact locs rfl); (case hc => decide); (case h1 => exact rfl); (case h2 => exact rfl); (case h3 => exact rfl); intro mean mg mb dp un gd fr s g L h₁ tk X T hd hu F N; (try dsimp only); (try k_fold)))
  k_with "c enterI" => (((case ho => k_is); (case hcd => k_is); (case hlv => decide); (case hb => first | exact (fun s X => BindsTo.of_eq rfl) | exact (fun s X => binds_K X rfl (by k_is) rfl rfl rfl)); (case hl => exact locs rfl); (case hc => decide); (case h1 => exact rfl); (case h2 => exact rfl); (case h3 => exact rfl); intro mean mg mb dp un gd fr s g L h₁ tk hI hIL X T hd hu F N; (replace hI := hI _ (List.Mem.head _)); (replace hIL := hIL _ (List.Mem.head _)); (try dsimp only at hI hIL); (try dsimp only); (try k_fold)))
  k_with "c enterC" => (((case ho => k_is); (case hcd => k_is); (case hlv => decide); (case hb => first | exact (fun s X => BindsTo.of_eq rfl) | exact (fun s X => binds_K X rfl (by k_is) rfl rfl rfl)); (case hl => exact rfl); (case hc => decide +kernel); (case h1 => exact rfl); (case h2 => exact rfl); (case h3 => exact rfl); intro mean mg mb dp un gd fr s g L h₁ tk cells X T hd hu F N Y; k_cells Y; (try simp only [List.cons_append, List.nil_append] at N); (try dsimp only); (try k_fold)))
  k_with "c enterIC" => (((case ho => k_is); (case hcd => k_is); (case hlv => decide); (case hb => first | exact (fun s X => BindsTo.of_eq rfl) | exact (fun s X => binds_K X rfl (by k_is) rfl rfl rfl)); (case hl => exact rfl); (case hc => decide +kernel); (case h1 => exact rfl); (case h2 => exact rfl); (case h3 => exact rfl); intro mean mg mb dp un gd fr s g L h₁ tk cells hI hIL X T hd hu F N Y; (replace hI := hI _ (List.Mem.head _)); (replace hIL := hIL _ (List.Mem.head _)); (try dsimp only at hI hIL); k_cells Y; (try simp only [List.cons_append, List.nil_append] at N); (try dsimp only); (try k_fold)))
  k_with "subscriptTail" => ((k_here; (with_reducible show wpAny _ _ (subscriptTail _ (Expr.Slice _ _ none _) (Value.bytes _ _) (Value.ref _)) _ _ _); (with_reducible rename Fr _ _ _ _ => F'); (with_reducible rename News _ _ _ _ => N'); k_dflt (first
      | ((with_reducible show wpAny _ _ (subscriptTail _ (Expr.Slice (some (Expr.UnaryOp _ _ _)) none none _) _ _) _ _ _); refine' slice_last (s := ⟨_, _, _, _, _⟩) F' N' ?qzz ?qze ?_; (case qze => first | rfl | decide); (case qzz => walk_at "side"); k_whole)
      | ((with_reducible show wpAny _ _ (subscriptTail _ (Expr.Slice (some _) (some _) none _) _ _) _ _ _); refine' slice_ss (s := ⟨_, _, _, _, _⟩) F' N' ?qza ?qzb ?qzz ?_; (case qza => walk_at "side"); (case qzb => walk_at "side"); (case qzz => walk_at "side"))
      | ((with_reducible show wpAny _ _ (subscriptTail _ (Expr.Slice (some _) none none _) _ _) _ _ _); refine' slice_sn (s := ⟨_, _, _, _, _⟩) F' N' ?qza ?qzz ?_; (case qza => walk_at "side"); (case qzz => walk_at "side"))
      | ((with_reducible show wpAny _ _ (subscriptTail _ (Expr.Slice none (some _) none _) _ _) _ _ _); refine' slice_ns (s := ⟨_, _, _, _, _⟩) F' N' ?qza ?qzz ?_; (case qza => walk_at "side"); (case qzz => walk_at "side"))); intro _ _ _ hcut F' N'))
  k_with "subscriptTail" => ((k_here; (with_reducible show wpAny _ _ (subscriptTail _ _ (Value.bytes _ _) (Value.int _ _)) _ _ _); k_dflt (refine' item_M ?qzz ?qza ?qzb ?_; (case qzz => walk_at "side"); (case qza => walk_at "side"); (case qzb => walk_at "side")); intro _ _ hlo hhi))
  k_with "getMethod bytes" => ((k_here; first | (with_reducible refine meth_join ?_) | (with_reducible refine meth_find ?_) | (with_reducible refine meth_split ?_) | (with_reducible refine meth_rstrip ?_)))
  k_with "call builtin:bytes.find" => ((k_here; k_dflt first | (refine' find4 ?qza ?qzb ?_; (case qza => walk_at "side"); (case qzb => walk_at "side"); intro _ _) | (refine' find3 ?qza ?_; (case qza => walk_at "side"); intro _ _)))
  k_with "call builtin:bytes.rstrip" => ((k_here; (try dsimp only [List.cons_append, List.nil_append]); k_dflt (refine' rstrip2 ?qza ?_; (case qza => walk_at "side")); intro r' t' k' hr' hrs'))
  k_with "exec For Name Name cons nil" => ((k_here; (rename Fr _ _ _ _ => lF'); (with_unfolding_all refine' For_invVF lF' ?qzk1 ?qzk2 ?_; (case qzk1 => exact rfl); (case qzk2 => exact rfl); k_whole)))
  k_with "exec For Name Call cons nil" => ((k_here; (rename Fr _ _ _ _ => lF'); (with_unfolding_all refine' For_invVF lF' ?qzk1 ?qzk2 ?_; (case qzk1 => exact rfl); (case qzk2 => exact rfl); k_whole)))
  k_with "pyIter bytes" => (((with_reducible show wpAny _ _ (pyIter (Value.bytes _ _)) (fun it s₂ => LoopAtV _ _ _ _ _ _ _ _ _ it s₂) _ _); refine park ?_))
  k_with "pyIter ref" => (((with_reducible show wpAny _ _ (pyIter (Value.ref _)) (fun it s₂ => LoopAtV _ _ _ _ _ _ _ _ _ it s₂) _ _); refine park ?_))
  k_with "exec While Compare cons nil" => ((k_here; refine park ?_))
  k_with "exec While Constant cons nil" => ((k_here; refine park ?_))
  k_with "ints" => (first | assumption | (repeat' (first | exact IntsAre.nil | refine IntsAre.cons _ _ ?_)))
  k_with "in256" => (first | assumption | exact in_nil | (refine in_cons ?qzia ?qzib ?qzic; (case qzia => walk_at "side"); (case qzib => walk_at "side"); (case qzic => walk_at "in256")))
  k_with "call type:bytes" => ((k_here; (with_reducible show wpAny _ _ (call (Value.type "bytes") [Value.ref _]) _ _ _); k_dflt (refine' KBa.make_K ?qzkbaF ?qzkbaN ?qzkbah ?qzkbal ?qzkbai ?qzkbar ?qzkban ?_; (case qzkbaF => k_asm); (case qzkbaN => k_asm); (case qzkbah => rfl); (case qzkbal => kba_isList); (case qzkbai => walk_at "ints"); (case qzkbar => walk_at "in256"); (case qzkban => walk_at "side")); intro _ _ _ F' N' kbaIn; (try k_sweep)))
  k_with "ps" => ((repeat' (first | exact List.forall_mem_nil _ | (refine List.forall_mem_cons.mpr ⟨by with_unfolding_all rfl, ?_⟩))))
  k_with "led" => ((repeat' (first | exact List.forall_mem_nil _ | (refine List.forall_mem_cons.mpr ⟨by k_mem, ?_⟩) | (intro p9 hp9; (repeat' (first | exact hp9 | refine List.Mem.tail _ ?_))))))
  k_with "lsize" => (first | size_fits | ((try rw [PySem.sizeLine_eq]); (simp only [List.size_toArray, Array.size_push]); (first | lia | omega)))
  k_with "call builtin:list.append" => ((k_here; (try dsimp only [List.cons_append, List.nil_append]); (with_reducible show wpAny _ _ (call (Value.builtin _) [Value.ref _, _]) _ _ _); k_dflt (refine' append_K ?qzk1 ?qzk2 ?qzk3 ?_ ?qzz; (case qzk1 => k_asm); (case qzk2 => k_asm); (case qzk3 => k_upd); (case qzz => walk_at "lsize"); k_whole); intro h' F' N'; (try k_sweep)))
  k_with "offI" => ((repeat' (first | exact List.forall_mem_nil _ | assumption | (refine List.forall_mem_cons.mpr ⟨by (refine neN ?_; (try dsimp only); (first | lia | omega)), ?_⟩))))
  k_with "bl get" => (first | (apply Fr.keep (by k_asm); assumption) | exact News.get (by k_asm) (by k_mem))
  k_with "subscriptTail" => ((k_here; (with_reducible show wpAny _ _ (subscriptTail _ _ (Value.ref _) (Value.int _ _)) _ _ _); k_dflt (refine' item_bl ?qzhl ?qzhv ?qza ?qzb ?qzz ?_; (case qzhv => with_reducible assumption); (case qzhl => walk_at "bl get"); (case qza => walk_at "side"); (case qzb => walk_at "side"); (case qzz => walk_at "side")); intro _ _))
  k_with "call builtin:len" => ((k_here; (with_reducible show wpAny _ _ (call (Value.builtin "len") [Value.ref _]) _ _ _); k_dflt (first | (refine' len_base ?qzhl ?qzF ?qzz ?_; (case qzhl => assumption); (case qzF => k_asm); (case qzz => walk_at "side")) | (refine' len_led ?qzN ?qzhm ?qzz ?_; (case qzN => k_asm); (case qzhm => k_mem); (case qzz => walk_at "side"))); intro _ _))
  k_with "binaryOp Add bytes bytes" => ((k_here; (with_reducible show wpAny _ _ (binaryOp Operator.Add (Value.bytes _ _) (Value.bytes _ _)) _ _ _); k_dflt (refine' KBy.add_bytes ?qzz ?_; (case qzz => walk_at "side")); intro _ _))
  k_with "call builtin:bytes.join" => ((k_here; (try dsimp only [List.cons_append, List.nil_append]); k_dflt (refine' join0 ?qzhl ?qzhv ?qzz ?_; (case qzhl => walk_at "bl get"); (case qzhv => walk_at "bytes are"); (case qzz => walk_at "side")); intro _ _))
  k_with "bytes are" => (first | with_reducible assumption | assumption | (repeat' (first | exact BytesAre.nil | refine BytesAre.cons ?_)))
  k_with "call builtin:bytes.split" => ((k_here; (try dsimp only [List.cons_append, List.nil_append]); k_dflt (refine' split1 ?qzF ?qzN ?qzc ?qza ?qzb ?_; (case qzF => k_asm); (case qzN => k_asm); (case qzc => rfl); (case qza => walk_at "side"); (case qzb => walk_at "side")); intro l' vs' h' k' hvs' F' N' hne'; (replace hne' := allNe_of9 hne'); (simp only [NeAll, and_true] at hne'); (try k_sweep)))
  k_with "call builtin:list.extend" => ((k_here; (with_reducible show wpAny _ _ (call (Value.builtin _) [Value.ref _, Value.ref _]) _ _ _); k_dflt (refine' ext_M ?qzF ?qzN ?qza ?qzb ?qzne ?qzU ?qzz ?_; (case qzF => k_asm); (case qzN => k_asm); (case qzb => k_mem); (case qzU => k_upd); (case qzne => walk_at "side"); (case qzz => walk_at "side"); (case qza => trivial)); intro h' F' N'; (try k_sweep)))
  k_with "subscriptTail Name Slice ref ref" => ((k_here; (with_reducible show wpAny _ _ (subscriptTail _ (PySem.Expr.Slice _ _ none _) (Value.ref _) (Value.ref _)) _ _ _); k_dflt (first
      | (refine' lslice_run (s := ⟨_, _, _, _, _⟩) ?qzF ?qzN ?qzhm ?qzhx ?qzhy ?qzhz ?_ ?qzhs ?qzht; (case qzF => k_asm); (case qzN => k_asm); (case qzhm => k_mem); (case qzhx => walk_at "side"); (case qzhy => walk_at "side"); (case qzhz => walk_at "side"); (case qzhs => with_unfolding_all rfl); (case qzht => kmk_pure))
      | (refine' lslice_to (s := ⟨_, _, _, _, _⟩) ?qzF ?qzN ?qzhm ?qzhy ?qzhz ?_ ?qzhs ?qzht; (case qzF => k_asm); (case qzN => k_asm); (case qzhm => k_mem); (case qzhy => walk_at "side"); (case qzhz => walk_at "side"); (case qzhs => with_unfolding_all rfl); (case qzht => kmk_pure))); intro D' h' F' N' l1; (try k_lt l1); (try k_sweep)))
  k_with "binaryOp LShift int int" => ((k_here; (with_reducible show wpAny _ _ (binaryOp Operator.LShift (Value.int _ _) (Value.int _ _)) _ _ _); k_dflt (refine' lshift_int_small ?qza ?qzb ?qzc ?_; (case qza => walk_at "side"); (case qzb => walk_at "side"); (case qzc => walk_at "side"))))
  k_with "binaryOp RShift int int" => ((k_here; (with_reducible show wpAny _ _ (binaryOp Operator.RShift (Value.int _ _) (Value.int _ _)) _ _ _); k_dflt (refine' rshift_int ?qza ?_; (case qza => walk_at "side"))))
  k_with "binaryOp BitAnd int int" => ((k_here; (with_reducible show wpAny _ _ (binaryOp Operator.BitAnd (Value.int _ _) (Value.int _ _)) _ _ _); k_dflt (first | (with_reducible refine and_63 ?_; intro _ _ hlo hhi) | (with_reducible refine and_255 ?_; intro _ _ hlo hhi) | (refine and_gen ?_; intro _ _ _))))
  k_with "comp range" => ((k_here; (with_reducible show wpAny _ _ (eval (PySem.Expr.ListComp _ [⟨PySem.Expr.Name _ _, _, [], _⟩] _ _) _) _ _ _); k_dflt (refine ListComp_RS (by k_asm) (by with_unfolding_all rfl) (by decide) (by rfl) (by decide) (by rfl) ?_)))
  k_with "eval ListComp" => (walk_at "comp range")
  k_with "RangeSrc" => ((refine park ?_))
  k_with "call ref" => ((k_here; (with_reducible show wpAny _ _ (call (Value.ref 125) _) _ _ _); k_dflt (refine' use_int (c_hex _ _ _ ?qza ?qzb) ?qzX ?qzT ?qzF ?qzN ?qzd ?qzu ?_; (case qza => walk_at "side"); (case qzb => walk_at "side"); (case qzX => k_asm); (case qzT => k_asm); (case qzF => k_asm); (case qzN => k_asm); (case qzd => (first | lia | omega)); (case qzu => (first | lia | omega)); intro t' h' tk' F' N'; (try k_sweep))))
  k_with "call ref" => ((k_here; (with_reducible show wpAny _ _ (call (Value.ref 139) _) _ _ _); k_dflt (refine' use_bool (c_plain _ _ _ ?qza ?qzb) ?qzX ?qzT ?qzF ?qzN ?qzd ?qzu ?_; (case qza => walk_at "side"); (case qzb => walk_at "side"); (case qzX => k_asm); (case qzT => k_asm); (case qzF => k_asm); (case qzN => k_asm); (case qzd => (first | lia | omega)); (case qzu => (first | lia | omega)); intro h' tk' F' N'; (try k_sweep))))
  k_with "call ref" => ((k_here; (with_reducible show wpAny _ _ (call (Value.ref 118) _) _ _ _); k_dflt (refine' use_bytes (c_code _ _ _ ?qza ?qzb) ?qzX ?qzT ?qzF ?qzN ?qzd ?qzu ?_; (case qza => walk_at "side"); (case qzb => walk_at "side"); (case qzX => k_asm); (case qzT => k_asm); (case qzF => k_asm); (case qzN => k_asm); (case qzd => (first | lia | omega)); (case qzu => (first | lia | omega)); intro t' h' tk' F' N'; (try k_sweep))))
  k_with "call ref" => ((k_here; (with_reducible show wpAny _ _ (call (Value.ref 132) _) _ _ _); k_dflt (refine' use_int (c_at _ _ _ _ _ ?qza ?qzb ?qzc) ?qzX ?qzT ?qzF ?qzN ?qzd ?qzu ?_; (case qza => walk_at "side"); (case qzb => walk_at "side"); (case qzc => walk_at "side"); (case qzX => k_asm); (case qzT => k_asm); (case qzF => k_asm); (case qzN => k_asm); (case qzd => (first | lia | omega)); (case qzu => (first | lia | omega)); intro t' h' tk' F' N'; (try k_sweep))))
  k_with "call ref" => ((k_here; (with_reducible show wpAny _ _ (call (Value.ref 146) _) _ _ _); k_dflt (refine' use_bl (c_pieces _ _ _ ?qza) ?qzX ?qzT ?qzF ?qzN ?qzd ?qzu ?_; (case qza => walk_at "side"); (case qzX => k_asm); (case qzT => k_asm); (case qzF => k_asm); (case qzN => k_asm); (case qzd => (first | lia | omega)); (case qzu => (first | lia | omega)); intro l' vs' n' h' tk' hvs' F' N' hne'; (have hlen' := BytesAre.length hvs'); (try simp only [List.length_cons, List.length_nil] at hlen'); (replace hne' := ne_all hne'); (simp only [NeAll, and_true] at hne'); (try k_sweep))))
  k_with "call ref" => ((k_here; (with_reducible show wpAny _ _ (call (Value.ref 153) _) _ _ _); k_dflt (refine' usei_bl (c_soft _ _ _ _ _ _ ?qzhv ?qzhn ?qzhz) ?qzX ?qzT ?qzF ?qzN ?qzhin ?qzd ?qzu ?_; (case qzF => k_asm); (case qzN => k_asm); (case qzhin => walk_at "led"); (case qzhv => walk_at "side"); (case qzhn => walk_at "side"); (case qzhz => walk_at "side"); (case qzX => k_asm); (case qzT => k_asm); (case qzd => (first | lia | omega)); (case qzu => (first | lia | omega)); intro l' vs' n' h' tk' hvs' F' N' hne'; (have hlen' := BytesAre.length hvs'); (try simp only [List.length_cons, List.length_nil] at hlen'); (replace hne' := ne_all hne'); (simp only [NeAll, and_true] at hne'); (try k_sweep))))
  k_with "call ref" => ((k_here; (with_reducible show wpAny _ _ (call (Value.ref 160) _) _ _ _); k_dflt (refine' use_bl (c_text _ _ _ _ ?qza ?qzb ?qzc) ?qzX ?qzT ?qzF ?qzN ?qzd ?qzu ?_; (case qza => walk_at "side"); (case qzb => walk_at "side"); (case qzc => walk_at "side"); (case qzX => k_asm); (case qzT => k_asm); (case qzF => k_asm); (case qzN => k_asm); (case qzd => (first | lia | omega)); (case qzu => (first | lia | omega)); intro l' vs' n' h' tk' hvs' F' N' hne'; (have hlen' := BytesAre.length hvs'); (try simp only [List.length_cons, List.length_nil] at hlen'); (replace hne' := ne_all hne'); (simp only [NeAll, and_true] at hne'); (try k_sweep))))
  k_with "call ref" => ((k_here; (with_reducible show wpAny _ _ (call (Value.ref 175) _) _ _ _); k_dflt (refine' usei_bytes (c_joined _ _ _ _ _ ?qzhv ?qzhn ?qzhz ?qzhsz ?qzhno) ?qzX ?qzT ?qzF ?qzN ?qzhin ?qzd ?qzu ?_; (case qzF => k_asm); (case qzN => k_asm); (case qzhin => walk_at "led"); (case qzhv => walk_at "side"); (case qzhn => walk_at "side"); (case qzhz => walk_at "side"); (case qzhsz => walk_at "side"); (case qzhno => walk_at "side"); (case qzX => k_asm); (case qzT => k_asm); (case qzd => (first | lia | omega)); (case qzu => (first | lia | omega)); intro t' h' tk' F' N'; (try k_sweep))))
  trivial

def qline (x : Array UInt8) : Array UInt8 := flat (linePieces x)
def qlines (ls : List (Array UInt8)) : List (Array UInt8) := ls.flatMap fun x => [qline x, #[13, 10]]
def textLines (b : Array UInt8) (x : Bool) : List (Array UInt8) := if x = true then splitAt b #[13, 10] else [b]
def quotedEnc (b : Array UInt8) (x : Bool) : Array UInt8 := flat ((qlines (textLines b x)).take ((qlines (textLines b x)).length - 1))
theorem qlines_len (ls : List (Array UInt8)) : (qlines ls).length = 2 * ls.length := by
  unfold qlines
  induction ls with
  | nil => rfl
  | cons x r ih => rw [List.flatMap_cons, List.length_append, ih]; simp; (first | lia | omega)
theorem qlines_snoc {ls : List (Array UInt8)} {i : Nat} {x : Array UInt8} (h : ls[i]? = some x) : qlines (ls.take (i + 1)) = qlines (ls.take i) ++ [qline x] ++ [#[13, 10]] := by
  rw [List.take_add_one, h]
  unfold qlines
  simp
theorem splitAt_pos (b c : Array UInt8) : 0 < (splitAt b c).length := by
  unfold splitAt
  dsimp only
  split
  · simp
  · unfold PySem.Builtin.Bytes.between
    simp
theorem textLines_pos (b : Array UInt8) (x : Bool) : 0 < (textLines b x).length := by
  unfold textLines
  split
  · exact splitAt_pos _ _
  · simp
theorem qlines_all {ls : List (Array UInt8)} (h : ∀ y ∈ ls, (qline y).size ≤ 4000 ∧ last1 (qline y) ≠ #[61]) (n : Nat) : ∀ y ∈ (qlines ls).take n, y.size ≤ 4000 ∧ last1 y ≠ #[61] := by
  intro y hy
  have hy := List.mem_of_mem_take hy
  unfold qlines at hy
  obtain ⟨z, hz, hy⟩ := List.mem_flatMap.mp hy
  rcases List.mem_cons.mp hy with rfl | hy
  · exact h z hz
  · rw [List.mem_singleton.mp hy]; exact ⟨by decide, by decide⟩
set_option maxHeartbeats 4000000 in
theorem c_quoted (w : World) (b : Array UInt8) (tb : Tok) (x : Bool) (hb : b.size ≤ 2000) (hs : ∀ y ∈ textLines b x, y.size ≤ 2000 ∧ (qline y).size ≤ 75) (hl : (textLines b x).length ≤ 900)
    (hs1 : (splitAt b #[13, 10]).length ≤ 16777216) (hs2 : ∀ x ∈ splitAt b #[13, 10], x.size ≤ 16777216) (hno : ∀ y ∈ textLines b x, last1 (qline y) ≠ #[61]) (hz : (flat ((qlines (textLines b x)).take ((qlines (textLines b x)).length - 1))).size ≤ 4000) :
    Ctr w 3 168 [.bytes b tb, .bool x] (PBytes (quotedEnc b x)) := by
  refine' ctr_enter (binds := [(Str.ofString "octets", .bytes b tb), (Str.ofString "is_text", .bool x), (Str.ofString "width", .int 76 411)]) ?ho ?hcd ?hlv ?hb ?hl ?hc ?h1 ?h2 ?h3 ?_
  walk_at "c enter"
  k_steps
  revert l' vs' n' h' tk' hvs' F' N' hlen' hne'; intro lT vT nT h9 tk9 hV F9 N9 hlen9 hne9
  replace hV : BytesAre vT (textLines b x) := hV
  clear hlen9
  have hvl := hV.length
  unfold Park
  refine' for_ledger (fun i ps led => ∃ o ws k, BytesAre ws (qlines ((textLines b x).take i)) ∧ ps = [(Str.ofString "octets", .bytes b tb), (Str.ofString "is_text", .bool x), (Str.ofString "width", .int 76 411), (Str.ofString "lines", .ref o)] ∧ led = [(o, listOf ws.toArray k), (lT, listOf vT.toArray nT)] ∧ @Ne Nat o lT) [(Str.ofString "octets", .bytes b tb), (Str.ofString "is_text", .bool x), (Str.ofString "width", .int 76 411), (Str.ofString "lines", .ref _)] [(_, listOf #[] 0), (lT, _)] rfl ?hol ?hwh (by k_asm) (by k_asm) ?led ?ps ?j ?turn ?done
  case ps => walk_at "ps"
  case led => walk_at "led"
  case hol => exact List.Mem.head _
  case hwh => rintro i ps led ⟨o, ws, k, _, _, rfl, _⟩; exact .tail _ (.head _)
  case j => exact ⟨_, _, _, .nil, rfl, rfl, Ne.symm hne9⟩
  case turn =>
    intro i v ps led m I oI h tk hi hv' hJ hI F N
    obtain ⟨o, ws, k, hw, rfl, rfl, hoT⟩ := hJ
    replace hI := ne_all (l := I) (fun q hq => Ne.symm (hI q hq))
    simp only [NeAll, and_true] at hI
    simp only [List.cons_append, List.nil_append] at N
    obtain ⟨y, t, hy, rfl⟩ := hV.get hv'
    have hwl := hw.length
    rw [qlines_len, List.length_take] at hwl
    have hmem := List.mem_of_getElem? hy
    have h1 := (hs _ hmem).1
    have h2 := (hs _ hmem).2
    have h3 : (flat (linePieces y)).size ≤ 75 := h2
    have h4 : (linePieces y).length ≤ 2000 := by unfold linePieces; simpa using h1
    k_steps
    all_goals ((rename News _ _ _ _ => N9); (try simp only [List.push_toArray] at N9); refine TurnEnd.intro [(Str.ofString "octets", .bytes b tb), (Str.ofString "is_text", .bool x), (Str.ofString "width", .int 76 411), (Str.ofString "lines", .ref o)] [(o, _), (lT, _)] (by k_asm) N9 (by walk_at "led") (by k_mem) (by walk_at "offI") (by walk_at "ps") ?_)
    refine ⟨o, _, _, ?_, rfl, rfl, hoT⟩
    rw [qlines_snoc hy]
    exact (hw.append (by assumption)).append .one
  case done =>
    intro ps led m h tk hJ F N
    obtain ⟨o, ws, k, hw, rfl, rfl, hoT⟩ := hJ
    rw [hvl, List.take_length] at hw
    have hwl := hw.length
    have hql := qlines_len (textLines b x)
    have hl0 : 0 < (textLines b x).length := textLines_pos b x
    have hbt : BytesAre (ws.take ((ws.length : Int) - 1).toNat) ((qlines (textLines b x)).take ((qlines (textLines b x)).length - 1)) := by rw [show ((ws.length : Int) - 1).toNat = ws.length - 1 by (first | lia | omega), hwl]; exact hw.take _
    have hno2 : ∀ y ∈ (qlines (textLines b x)).take ((qlines (textLines b x)).length - 1), y.size ≤ 4000 ∧ last1 y ≠ #[61] := qlines_all (fun y hy => ⟨by have := (hs y hy).2; (first | lia | omega), hno y hy⟩) _
    have hbl := hbt.length
    have hq4 : ((qlines (textLines b x)).take ((qlines (textLines b x)).length - 1)).length ≤ 2000 := by rw [List.length_take]; (first | lia | omega)
    have hq5 : ∀ y ∈ (qlines (textLines b x)).take ((qlines (textLines b x)).length - 1), y.size ≤ 4000 := fun y hy => (hno2 y hy).1
    have hq6 : ∀ y ∈ (qlines (textLines b x)).take ((qlines (textLines b x)).length - 1), last1 y ≠ #[61] := fun y hy => (hno2 y hy).2
    k_steps
    exact CEnd.flat (by k_asm) (pbytes rfl)

end
section
theorem zk_10 : True := by
  k_with_none
  k_with "side" => (first | with_reducible assumption | (first | lia | omega) | assumption | decide | ((simp (decide := true) only [Int.fdiv_eq_ediv_of_nonneg, Int.fmod_eq_emod_of_nonneg, List.size_toArray, List.length_cons, List.length_nil] at *); (first | lia | omega)))
  k_with "c enter" => (((case ho => k_is); (case hcd => k_is); (case hlv => decide); (case hb => first | exact (fun s X => BindsTo.of_eq rfl) | exact (fun s X => binds_K X rfl (by k_is) rfl rfl rfl)); (case hl => exact locs rfl); (case hc => decide); (case h1 => exact rfl); (case h2 => exact rfl); (case h3 => exact rfl); intro mean mg mb dp un gd fr s g L h₁ tk X T hd hu F N; (try dsimp only); (try k_fold)))
  k_with "c enterI" => (((case ho => k_is); (case hcd => k_is); (case hlv => decide); (case hb => first | exact (fun s X => BindsTo.of_eq rfl) | exact (fun s X => binds_K X rfl (by k_is) rfl rfl rfl)); (case hl => exact locs rfl); (case hc => decide); (case h1 => exact rfl); (case h2 => exact rfl); (case h3 => exact rfl); intro mean mg mb dp un gd fr s g L h₁ tk hI hIL X T hd hu F N; (replace hI := hI _ (List.Mem.head _)); (replace hIL := hIL _ (List.Mem.head _)); (try dsimp only at hI hIL); (try dsimp only); (try k_fold)))
  k_with "c enterC" => (((case ho => k_is); (case hcd => k_is); (case hlv => decide); (case hb => first | exact (fun s X => BindsTo.of_eq rfl) | exact (fun s X => binds_K X rfl (by k_is) rfl rfl rfl)); (case hl => exact rfl); (case hc => decide +kernel); (case h1 => exact rfl); (case h2 => exact rfl); (case h3 => exact rfl); intro mean mg mb dp un gd fr s g L h₁ tk cells X T hd hu F N Y; k_cells Y; (try simp only [List.cons_append, List.nil_append] at N); (try dsimp only); (try k_fold)))
  k_with "c enterIC" => (((case ho => k_is); (case hcd => k_is); (case hlv => decide); (case hb => first | exact (fun s X => BindsTo.of_eq rfl) | exact (fun s X => binds_K X rfl (by k_is) rfl rfl rfl)); (case hl => exact rfl); (case hc => decide +kernel); (case h1 => exact rfl); (case h2 => exact rfl); (case h3 => exact rfl); intro mean mg mb dp un gd fr s g L h₁ tk cells hI hIL X T hd hu F N Y; (replace hI := hI _ (List.Mem.head _)); (replace hIL := hIL _ (List.Mem.head _)); (try dsimp only at hI hIL); k_cells Y; (try simp only [List.cons_append, List.nil_append] at N); (try dsimp only); (try k_fold)))
  k_with "subscriptTail" => ((k_here; (with_reducible show wpAny _ _ (subscriptTail _ (Expr.Slice _ _ none _) (Value.bytes _ _) (Value.ref _)) _ _ _); (with_reducible rename Fr _ _ _ _ => F'); (with_reducible rename News _ _ _ _ => N'); k_dflt (first
      | ((with_reducible show wpAny _ _ (subscriptTail _ (Expr.Slice (some (Expr.UnaryOp _ _ _)) none none _) _ _) _ _ _); refine' slice_last (s := ⟨_, _, _, _, _⟩) F' N' ?qzz ?qze ?_; (case qze => first | rfl | decide); (case qzz => walk_at "side"); k_whole)
      | ((with_reducible show wpAny _ _ (subscriptTail _ (Expr.Slice (some _) (some _) none _) _ _) _ _ _); refine' slice_ss (s := ⟨_, _, _, _, _⟩) F' N' ?qza ?qzb ?qzz ?_; (case qza => walk_at "side"); (case qzb => walk_at "side"); (case qzz => walk_at "side"))
      | ((with_reducible show wpAny _ _ (subscriptTail _ (Expr.Slice (some _) none none _) _ _) _ _ _); refine' slice_sn (s := ⟨_, _, _, _, _⟩) F' N' ?qza ?qzz ?_; (case qza => walk_at "side"); (case qzz => walk_at "side"))
      | ((with_reducible show wpAny _ _ (subscriptTail _ (Expr.Slice none (some _) none _) _ _) _ _ _); refine' slice_ns (s := ⟨_, _, _, _, _⟩) F' N' ?qza ?qzz ?_; (case qza => walk_at "side"); (case qzz => walk_at "side"))); intro _ _ _ hcut F' N'))
  k_with "subscriptTail" => ((k_here; (with_reducible show wpAny _ _ (subscriptTail _ _ (Value.bytes _ _) (Value.int _ _)) _ _ _); k_dflt (refine' item_M ?qzz ?qza ?qzb ?_; (case qzz => walk_at "side"); (case qza => walk_at "side"); (case qzb => walk_at "side")); intro _ _ hlo hhi))
  k_with "getMethod bytes" => ((k_here; first | (with_reducible refine meth_join ?_) | (with_reducible refine meth_find ?_) | (with_reducible refine meth_split ?_) | (with_reducible refine meth_rstrip ?_)))
  k_with "call builtin:bytes.find" => ((k_here; k_dflt first | (refine' find4 ?qza ?qzb ?_; (case qza => walk_at "side"); (case qzb => walk_at "side"); intro _ _) | (refine' find3 ?qza ?_; (case qza => walk_at "side"); intro _ _)))
  k_with "call builtin:bytes.rstrip" => ((k_here; (try dsimp only [List.cons_append, List.nil_append]); k_dflt (refine' rstrip2 ?qza ?_; (case qza => walk_at "side")); intro r' t' k' hr' hrs'))
  k_with "exec For Name Name cons nil" => ((k_here; (rename Fr _ _ _ _ => lF'); (with_unfolding_all refine' For_invVF lF' ?qzk1 ?qzk2 ?_; (case qzk1 => exact rfl); (case qzk2 => exact rfl); k_whole)))
  k_with "exec For Name Call cons nil" => ((k_here; (rename Fr _ _ _ _ => lF'); (with_unfolding_all refine' For_invVF lF' ?qzk1 ?qzk2 ?_; (case qzk1 => exact rfl); (case qzk2 => exact rfl); k_whole)))
  k_with "pyIter bytes" => (((with_reducible show wpAny _ _ (pyIter (Value.bytes _ _)) (fun it s₂ => LoopAtV _ _ _ _ _ _ _ _ _ it s₂) _ _); refine park ?_))
  k_with "pyIter ref" => (((with_reducible show wpAny _ _ (pyIter (Value.ref _)) (fun it s₂ => LoopAtV _ _ _ _ _ _ _ _ _ it s₂) _ _); refine park ?_))
  k_with "exec While Compare cons nil" => ((k_here; refine park ?_))
  k_with "exec While Constant cons nil" => ((k_here; refine park ?_))
  k_with "ints" => (first | assumption | (repeat' (first | exact IntsAre.nil | refine IntsAre.cons _ _ ?_)))
  k_with "in256" => (first | assumption | exact in_nil | (refine in_cons ?qzia ?qzib ?qzic; (case qzia => walk_at "side"); (case qzib => walk_at "side"); (case qzic => walk_at "in256")))
  k_with "call type:bytes" => ((k_here; (with_reducible show wpAny _ _ (call (Value.type "bytes") [Value.ref _]) _ _ _); k_dflt (refine' KBa.make_K ?qzkbaF ?qzkbaN ?qzkbah ?qzkbal ?qzkbai ?qzkbar ?qzkban ?_; (case qzkbaF => k_asm); (case qzkbaN => k_asm); (case qzkbah => rfl); (case qzkbal => kba_isList); (case qzkbai => walk_at "ints"); (case qzkbar => walk_at "in256"); (case qzkban => walk_at "side")); intro _ _ _ F' N' kbaIn; (try k_sweep)))
  k_with "ps" => ((repeat' (first | exact List.forall_mem_nil _ | (refine List.forall_mem_cons.mpr ⟨by with_unfolding_all rfl, ?_⟩))))
  k_with "led" => ((repeat' (first | exact List.forall_mem_nil _ | (refine List.forall_mem_cons.mpr ⟨by k_mem, ?_⟩) | (intro p9 hp9; (repeat' (first | exact hp9 | refine List.Mem.tail _ ?_))))))
  k_with "lsize" => (first | size_fits | ((try rw [PySem.sizeLine_eq]); (simp only [List.size_toArray, Array.size_push]); (first | lia | omega)))
  k_with "call builtin:list.append" => ((k_here; (try dsimp only [List.cons_append, List.nil_append]); (with_reducible show wpAny _ _ (call (Value.builtin _) [Value.ref _, _]) _ _ _); k_dflt (refine' append_K ?qzk1 ?qzk2 ?qzk3 ?_ ?qzz; (case qzk1 => k_asm); (case qzk2 => k_asm); (case qzk3 => k_upd); (case qzz => walk_at "lsize"); k_whole); intro h' F' N'; (try k_sweep)))
  k_with "offI" => ((repeat' (first | exact List.forall_mem_nil _ | assumption | (refine List.forall_mem_cons.mpr ⟨by (refine neN ?_; (try dsimp only); (first | lia | omega)), ?_⟩))))
  k_with "bl get" => (first | (apply Fr.keep (by k_asm); assumption) | exact News.get (by k_asm) (by k_mem))
  k_with "subscriptTail" => ((k_here; (with_reducible show wpAny _ _ (subscriptTail _ _ (Value.ref _) (Value.int _ _)) _ _ _); k_dflt (refine' item_bl ?qzhl ?qzhv ?qza ?qzb ?qzz ?_; (case qzhv => with_reducible assumption); (case qzhl => walk_at "bl get"); (case qza => walk_at "side"); (case qzb => walk_at "side"); (case qzz => walk_at "side")); intro _ _))
  k_with "call builtin:len" => ((k_here; (with_reducible show wpAny _ _ (call (Value.builtin "len") [Value.ref _]) _ _ _); k_dflt (first | (refine' len_base ?qzhl ?qzF ?qzz ?_; (case qzhl => assumption); (case qzF => k_asm); (case qzz => walk_at "side")) | (refine' len_led ?qzN ?qzhm ?qzz ?_; (case qzN => k_asm); (case qzhm => k_mem); (case qzz => walk_at "side"))); intro _ _))
  k_with "binaryOp Add bytes bytes" => ((k_here; (with_reducible show wpAny _ _ (binaryOp Operator.Add (Value.bytes _ _) (Value.bytes _ _)) _ _ _); k_dflt (refine' KBy.add_bytes ?qzz ?_; (case qzz => walk_at "side")); intro _ _))
  k_with "call builtin:bytes.join" => ((k_here; (try dsimp only [List.cons_append, List.nil_append]); k_dflt (refine' join0 ?qzhl ?qzhv ?qzz ?_; (case qzhl => walk_at "bl get"); (case qzhv => walk_at "bytes are"); (case qzz => walk_at "side")); intro _ _))
  k_with "bytes are" => (first | with_reducible assumption | assumption | (repeat' (first | exact BytesAre.nil | refine BytesAre.cons ?_)))
  k_with "call builtin:bytes.split" => ((k_here; (try dsimp only [List.cons_append, List.nil_append]); k_dflt (refine' split1 ?qzF ?qzN ?qzc ?qza ?qzb ?_; (case qzF => k_asm); (case qzN => k_asm); (case qzc => rfl); (case qza => walk_at "side"); (case qzb => walk_at "side")); intro l' vs' h' k' hvs' F' N' hne'; (replace hne' := allNe_of9 hne'); (simp only [NeAll, and_true] at hne'); (try k_sweep)))
  k_with "call builtin:list.extend" => ((k_here; (with_reducible show wpAny _ _ (call (Value.builtin _) [Value.ref _, Value.ref _]) _ _ _); k_dflt (refine' ext_M ?qzF ?qzN ?qza ?qzb ?qzne ?qzU ?qzz ?_; (case qzF => k_asm); (case qzN => k_asm); (case qzb => k_mem); (case qzU => k_upd); (case qzne => walk_at "side"); (case qzz => walk_at "side"); (case qza => trivial)); intro h' F' N'; (try k_sweep)))
  k_with "subscriptTail Name Slice ref ref" => ((k_here; (with_reducible show wpAny _ _ (subscriptTail _ (PySem.Expr.Slice _ _ none _) (Value.ref _) (Value.ref _)) _ _ _); k_dflt (first
      | (refine' lslice_run (s := ⟨_, _, _, _, _⟩) ?qzF ?qzN ?qzhm ?qzhx ?qzhy ?qzhz ?_ ?qzhs ?qzht; (case qzF => k_asm); (case qzN => k_asm); (case qzhm => k_mem); (case qzhx => walk_at "side"); (case qzhy => walk_at "side"); (case qzhz => walk_at "side"); (case qzhs => with_unfolding_all rfl); (case qzht => kmk_pure))
      | (refine' lslice_to (s := ⟨_, _, _, _, _⟩) ?qzF ?qzN ?qzhm ?qzhy ?qzhz ?_ ?qzhs ?qzht; (case qzF => k_asm); (case qzN => k_asm); (case qzhm => k_mem); (case qzhy => walk_at "side"); (case qzhz => walk_at "side"); (case qzhs => with_unfolding_all rfl); (case qzht => kmk_pure))); intro D' h' F' N' l1; (try k_lt l1); (try k_sweep)))
  k_with "binaryOp LShift int int" => ((k_here; (with_reducible show wpAny _ _ (binaryOp Operator.LShift (Value.int _ _) (Value.int _ _)) _ _ _); k_dflt (refine' lshift_int_small ?qza ?qzb ?qzc ?_; (case qza => walk_at "side"); (case qzb => walk_at "side"); (case qzc => walk_at "side"))))
  k_with "binaryOp RShift int int" => ((k_here; (with_reducible show wpAny _ _ (binaryOp Operator.RShift (Value.int _ _) (Value.int _ _)) _ _ _); k_dflt (refine' rshift_int ?qza ?_; (case qza => walk_at "side"))))
  k_with "binaryOp BitAnd int int" => ((k_here; (with_reducible show wpAny _ _ (binaryOp Operator.BitAnd (Value.int _ _) (Value.int _ _)) _ _ _); k_dflt (first | (with_reducible refine and_63 ?_; intro _ _ hlo hhi) | (with_reducible refine and_255 ?_; intro _ _ hlo hhi) | (refine and_gen ?_; intro _ _ _))))
  k_with "comp range" => ((k_here; (with_reducible show wpAny _ _ (eval (PySem.Expr.ListComp _ [⟨PySem.Expr.Name _ _, _, [], _⟩] _ _) _) _ _ _); k_dflt (refine ListComp_RS (by k_asm) (by with_unfolding_all rfl) (by decide) (by rfl) (by decide) (by rfl) ?_)))
  k_with "eval ListComp" => (walk_at "comp range")
  k_with "RangeSrc" => ((refine park ?_))
  k_with "call ref" => ((k_here; (with_reducible show wpAny _ _ (call (Value.ref 125) _) _ _ _); k_dflt (refine' use_int (c_hex _ _ _ ?qza ?qzb) ?qzX ?qzT ?qzF ?qzN ?qzd ?qzu ?_; (case qza => walk_at "side"); (case qzb => walk_at "side"); (case qzX => k_asm); (case qzT => k_asm); (case qzF => k_asm); (case qzN => k_asm); (case qzd => (first | lia | omega)); (case qzu => (first | lia | omega)); intro t' h' tk' F' N'; (try k_sweep))))
  k_with "call ref" => ((k_here; (with_reducible show wpAny _ _ (call (Value.ref 139) _) _ _ _); k_dflt (refine' use_bool (c_plain _ _ _ ?qza ?qzb) ?qzX ?qzT ?qzF ?qzN ?qzd ?qzu ?_; (case qza => walk_at "side"); (case qzb => walk_at "side"); (case qzX => k_asm); (case qzT => k_asm); (case qzF => k_asm); (case qzN => k_asm); (case qzd => (first | lia | omega)); (case qzu => (first | lia | omega)); intro h' tk' F' N'; (try k_sweep))))
  k_with "call ref" => ((k_here; (with_reducible show wpAny _ _ (call (Value.ref 118) _) _ _ _); k_dflt (refine' use_bytes (c_code _ _ _ ?qza ?qzb) ?qzX ?qzT ?qzF ?qzN ?qzd ?qzu ?_; (case qza => walk_at "side"); (case qzb => walk_at "side"); (case qzX => k_asm); (case qzT => k_asm); (case qzF => k_asm); (case qzN => k_asm); (case qzd => (first | lia | omega)); (case qzu => (first | lia | omega)); intro t' h' tk' F' N'; (try k_sweep))))
  k_with "call ref" => ((k_here; (with_reducible show wpAny _ _ (call (Value.ref 132) _) _ _ _); k_dflt (refine' use_int (c_at _ _ _ _ _ ?qza ?qzb ?qzc) ?qzX ?qzT ?qzF ?qzN ?qzd ?qzu ?_; (case qza => walk_at "side"); (case qzb => walk_at "side"); (case qzc => walk_at "side"); (case qzX => k_asm); (case qzT => k_asm); (case qzF => k_asm); (case qzN => k_asm); (case qzd => (first | lia | omega)); (case qzu => (first | lia | omega)); intro t' h' tk' F' N'; (try k_sweep))))
  trivial

def unqL : List UInt8 → List UInt8
  | c :: a :: b :: r => if c = 61 ∧ 0 ≤ hexW a.toNat ∧ 0 ≤ hexW b.toNat then (16 * hexW a.toNat + hexW b.toNat).toNat.toUInt8 :: unqL r else c :: unqL (a :: b :: r)
  | c :: r => c :: unqL r
  | [] => []
theorem at_eq {b : Array UInt8} {i : Int} {n : Nat} (e : i = n) (h : n < b.toList.length) : at_ b i = (b.toList[n].toNat : Int) := by
  subst e
  unfold at_
  rw [Int.toNat_natCast, List.getD_eq_getElem?_getD, List.getElem?_eq_getElem h]
  rfl
theorem hexW_lt {c : Int} (h : 0 ≤ hexW c) : hexW c < 16 := by
  unfold hexW at *
  (repeat' split) <;> (first | lia | omega)
theorem unq_code {b : Array UInt8} {i : Int} (h0 : 0 ≤ i) (h1 : i < b.size) (hc : at_ b i = 61) (hq : 0 ≤ quotedAt b i) :
    unqL (b.toList.drop i.toNat) = (quotedAt b i).toNat.toUInt8 :: unqL (b.toList.drop (i + 3).toNat) ∧ i + 3 ≤ b.size ∧ quotedAt b i < 256 := by
  obtain ⟨n, rfl⟩ : ∃ n : Nat, i = n := ⟨i.toNat, by (first | lia | omega)⟩
  have hl : b.toList.length = b.size := Array.length_toList
  unfold quotedAt at hq ⊢
  by_cases hs : (n : Int) + 2 ≥ b.size
  · rw [if_pos hs] at hq; (first | lia | omega)
  · rw [if_neg hs] at hq ⊢
    by_cases hh : 0 ≤ hexW (at_ b (n + 1)) ∧ 0 ≤ hexW (at_ b (n + 2))
    · rw [if_pos hh] at hq ⊢
      have e1 : at_ b (n + 1) = (b.toList[n + 1].toNat : Int) := at_eq (by (first | lia | omega)) (by (first | lia | omega))
      have e2 : at_ b (n + 2) = (b.toList[n + 2].toNat : Int) := at_eq (by (first | lia | omega)) (by (first | lia | omega))
      have e0 : at_ b n = (b.toList[n].toNat : Int) := at_eq rfl (by (first | lia | omega))
      have b1 := hexW_lt hh.1
      have b2 := hexW_lt hh.2
      refine ⟨?_, by (first | lia | omega), by (first | lia | omega)⟩
      rw [Int.toNat_natCast, show ((n : Int) + 3).toNat = n + 1 + 1 + 1 by (first | lia | omega), List.drop_eq_getElem_cons (i := n) (by (first | lia | omega)), List.drop_eq_getElem_cons (i := n + 1) (by (first | lia | omega)), List.drop_eq_getElem_cons (i := n + 1 + 1) (by (first | lia | omega))]
      rw [unqL, ← e1, show b.toList[n + 1 + 1] = b.toList[n + 2] from rfl, ← e2, if_pos]
      refine ⟨?_, hh⟩
      have h61 : b.toList[n].toNat = 61 := by (first | lia | omega)
      exact UInt8.toNat_inj.mp (by rw [h61]; rfl)
    · rw [if_neg hh] at hq; (first | lia | omega)
theorem unq_lit {b : Array UInt8} {i : Int} (h0 : 0 ≤ i) (h1 : i < b.size) (hc : ¬ (at_ b i = 61 ∧ 0 ≤ quotedAt b i)) :
    ∃ u : UInt8, at_ b i = (u.toNat : Int) ∧ unqL (b.toList.drop i.toNat) = u :: unqL (b.toList.drop (i + 1).toNat) := by
  obtain ⟨n, rfl⟩ : ∃ n : Nat, i = n := ⟨i.toNat, by (first | lia | omega)⟩
  have hl : b.toList.length = b.size := Array.length_toList
  have e0 : at_ b n = (b.toList[n].toNat : Int) := at_eq rfl (by (first | lia | omega))
  refine ⟨b.toList[n], e0, ?_⟩
  rw [Int.toNat_natCast, show ((n : Int) + 1).toNat = n + 1 by (first | lia | omega), List.drop_eq_getElem_cons (i := n) (by (first | lia | omega))]
  by_cases hs : (n : Int) + 2 ≥ b.size
  · have hsh : (b.toList.drop (n + 1)).length ≤ 1 := by rw [List.length_drop]; (first | lia | omega)
    match hd : b.toList.drop (n + 1) with
    | [] => rfl
    | [x] => rfl
    | x :: y :: r => rw [hd] at hsh; simp at hsh
  · unfold quotedAt at hc
    rw [if_neg hs] at hc
    have e1 : at_ b (n + 1) = (b.toList[n + 1].toNat : Int) := at_eq (by (first | lia | omega)) (by (first | lia | omega))
    have e2 : at_ b (n + 2) = (b.toList[n + 2].toNat : Int) := at_eq (by (first | lia | omega)) (by (first | lia | omega))
    rw [List.drop_eq_getElem_cons (i := n + 1) (by (first | lia | omega)), List.drop_eq_getElem_cons (i := n + 1 + 1) (by (first | lia | omega))]
    rw [unqL, ← e1, show b.toList[n + 1 + 1] = b.toList[n + 2] from rfl, ← e2, if_neg]
    rintro ⟨q1, q2, q3⟩
    refine hc ⟨by rw [e0, q1]; rfl, ?_⟩
    rw [if_pos ⟨q2, q3⟩]; (first | lia | omega)
set_option maxHeartbeats 4000000 in
theorem c_unq (w : World) (b : Array UInt8) (tb : Tok) (hb : b.size ≤ 2000) : Ctr w 3 189 [.bytes b tb] (PBytes (unqL b.toList).toArray) := by
  refine' ctr_enter (binds := [(Str.ofString "line", .bytes b tb)]) ?ho ?hcd ?hlv ?hb ?hl ?hc ?h1 ?h2 ?h3 ?_
  walk_at "c enter"
  k_steps
  unfold Park
  refine' while_J (fun k ps led => ∃ (at' : Int) (o : Addr) (ws : List Value) (n : Nat) (us : List UInt8) (t : Tok), IntsAre ws (ints8 us) ∧ ps = [(Str.ofString "line", .bytes b tb), (Str.ofString "codes", .ref o), (Str.ofString "at", .int at' t)] ∧ led = [(o, listOf ws.toArray n)] ∧ 0 ≤ at' ∧ at' ≤ b.size ∧ (k : Int) = b.size - at' ∧ us.length ≤ at' ∧ us ++ unqL (b.toList.drop at'.toNat) = unqL b.toList) (b.size) [(Str.ofString "line", .bytes b tb), (Str.ofString "codes", .ref _), (Str.ofString "at", .int 0 _)] [(_, _)] (by k_asm) (by k_asm) ?led ?ps ?j ?pass ?turn
  case ps => walk_at "ps"
  case led => walk_at "led"
  case pass => passes_own
  case j => exact ⟨0, _, _, _, [], _, .nil, rfl, rfl, by (first | lia | omega), by (first | lia | omega), by (first | lia | omega), by simp, rfl⟩
  case turn =>
    intro k ps led m h tk hJ F N
    obtain ⟨at', o, ws, n, us, t, hw, rfl, rfl, h0, h1, hk, hul, hu⟩ := hJ
    have hwl := hw.length
    rw [ints8_length] at hwl
    have hin := in_ints8 us
    k_steps
    · rename at' < _ => g1
      rename at_ b at' = 61 => g2
      rename 0 ≤ quotedAt b at' => g3
      obtain ⟨e1, e2, e3⟩ := unq_code h0 g1 g2 g3
      ((rename News _ _ _ _ => N9); (try simp only [List.push_toArray] at N9); refine WhPost.intro [(Str.ofString "line", .bytes b tb), (Str.ofString "codes", .ref o), (Str.ofString "at", .int (at' + 3) _)] [(o, _)] (k - 3) (by k_asm) N9 (by walk_at "led") (by walk_at "ps") ?_ ?_)
      · (first | lia | omega)
      · refine ⟨at' + 3, o, _, _, us ++ [(quotedAt b at').toNat.toUInt8], _, ints8_snoc hw ?_, rfl, rfl, by (first | lia | omega), e2, by (first | lia | omega), by simp; (first | lia | omega), ?_⟩
        · rw [show (quotedAt b at').toNat.toUInt8 = UInt8.ofNat (quotedAt b at').toNat from rfl, UInt8.toNat_ofNat']; (first | lia | omega)
        · rw [List.append_assoc, List.singleton_append, ← e1, hu]
    · rename at' < _ => g1
      rename ¬ 0 ≤ quotedAt b at' => g3
      obtain ⟨u, e1, e2⟩ := unq_lit h0 g1 (fun q => g3 q.2)
      ((rename News _ _ _ _ => N9); (try simp only [List.push_toArray] at N9); refine WhPost.intro [(Str.ofString "line", .bytes b tb), (Str.ofString "codes", .ref o), (Str.ofString "at", .int (at' + 1) _)] [(o, _)] (k - 1) (by k_asm) N9 (by walk_at "led") (by walk_at "ps") ?_ ?_)
      · (first | lia | omega)
      · refine ⟨at' + 1, o, _, _, us ++ [u], _, ints8_snoc hw e1, rfl, rfl, by (first | lia | omega), by (first | lia | omega), by (first | lia | omega), by simp; (first | lia | omega), ?_⟩
        rw [List.append_assoc, List.singleton_append, ← e2, hu]
    · rename at' < _ => g1
      rename at_ b at' ≠ 61 => g3
      obtain ⟨u, e1, e2⟩ := unq_lit h0 g1 (fun q => g3 q.1)
      ((rename News _ _ _ _ => N9); (try simp only [List.push_toArray] at N9); refine WhPost.intro [(Str.ofString "line", .bytes b tb), (Str.ofString "codes", .ref o), (Str.ofString "at", .int (at' + 1) _)] [(o, _)] (k - 1) (by k_asm) N9 (by walk_at "led") (by walk_at "ps") ?_ ?_)
      · (first | lia | omega)
      · refine ⟨at' + 1, o, _, _, us ++ [u], _, ints8_snoc hw e1, rfl, rfl, by (first | lia | omega), by (first | lia | omega), by (first | lia | omega), by simp; (first | lia | omega), ?_⟩
        rw [List.append_assoc, List.singleton_append, ← e2, hu]
    · have hd : b.toList.drop at'.toNat = [] := List.drop_eq_nil_of_le (by rw [Array.length_toList]; (first | lia | omega))
      rw [hd, unqL, List.append_nil] at hu
      refine CEnd.flat (by k_asm) (pbytes ?_)
      rw [byteArr_ints8, hu]

end
section
theorem extract_one {b : Array UInt8} {i : Nat} : (b.extract i (i + 1) == #[10]) = true ↔ b.toList[i]? = some 10 := by
  rw [beq_iff_eq, ← Array.toList_inj, Array.toList_extract]
  show (List.extract b.toList i (i + 1) = [10]) ↔ _
  rw [List.extract_eq_take_drop, show i + 1 - i = 1 by (first | lia | omega)]
  cases h : b.toList[i]? with
  | none =>
    have : b.toList.length ≤ i := by simpa using h
    rw [List.drop_eq_nil_of_le this]
    simp
  | some c =>
    obtain ⟨hlt, hc⟩ := List.getElem?_eq_some_iff.mp h
    rw [List.drop_eq_getElem_cons hlt, hc]
    simp
theorem findNL {b : Array UInt8} {i : Int} (h0 : 0 ≤ i) (h1 : i ≤ b.size) :
    (findAt b #[10] i b.size < 0 ∧ ∀ c ∈ b.toList.drop i.toNat, c ≠ 10) ∨
    (∃ n : Nat, findAt b #[10] i b.size = n ∧ i.toNat ≤ n ∧ n < b.toList.length ∧ b.toList[n]? = some 10 ∧ ∀ c ∈ (b.toList.drop i.toNat).take (n - i.toNat), c ≠ 10) := by
  have hl : b.toList.length = b.size := Array.length_toList
  by_cases hs : (b.size : Int) - i < ((1 : Nat) : Int)
  · have e : findAt b #[10] i b.size = -1 := by
      unfold findAt
      rw [show (if (b.size : Int) - i < ((#[10] : Array UInt8).size : Int) then none else PySem.Builtin.Bytes.find? b #[10] i.toNat (b.size : Int).toNat) = none from if_pos hs]
    rw [e]
    left
    refine ⟨by decide, fun c hc => ?_⟩
    rw [List.drop_eq_nil_of_le (by (first | lia | omega))] at hc
    cases hc
  · have e : findAt b #[10] i b.size = (match PySem.Builtin.Bytes.find? b #[10] i.toNat b.size with | some i => (i : Int) | none => -1) := by
      unfold findAt
      rw [show (if (b.size : Int) - i < ((#[10] : Array UInt8).size : Int) then none else PySem.Builtin.Bytes.find? b #[10] i.toNat (b.size : Int).toNat) = PySem.Builtin.Bytes.find? b #[10] i.toNat (b.size : Int).toNat from if_neg hs, Int.toNat_natCast]
      (try rfl)
    rw [e]
    have ef : PySem.Builtin.Bytes.find? b #[10] i.toNat b.size = ((List.range (b.size - i.toNat)).map (· + i.toNat)).find? fun i => b.extract i (i + 1) == #[10] := by
      unfold PySem.Builtin.Bytes.find?
      rw [show b.size + 1 - (i.toNat + (#[10] : Array UInt8).size) = b.size - i.toNat by show b.size + 1 - (i.toNat + 1) = _; (first | lia | omega)]
      rfl
    cases hf : PySem.Builtin.Bytes.find? b #[10] i.toNat b.size with
    | none =>
      left
      refine ⟨by decide, fun c hc hc10 => ?_⟩
      rw [ef, List.find?_eq_none] at hf
      obtain ⟨j, hj, rfl⟩ := List.mem_iff_getElem.mp hc
      rw [List.length_drop] at hj
      rw [List.getElem_drop] at hc10
      have := hf (j + i.toNat) (List.mem_map.mpr ⟨j, List.mem_range.mpr (by (first | lia | omega)), rfl⟩)
      refine this (extract_one.mpr ?_)
      rw [List.getElem?_eq_getElem (by (first | lia | omega)), ← hc10]
      congr 2
      (first | lia | omega)
    | some n =>
      right
      rw [ef, List.find?_map, Option.map_eq_some_iff] at hf
      obtain ⟨k, hk, rfl⟩ := hf
      rw [List.find?_range_eq_some] at hk
      obtain ⟨hk1, hk2, hk3⟩ := hk
      have hk2 := List.mem_range.mp hk2
      refine ⟨k + i.toNat, rfl, by (first | lia | omega), by (first | lia | omega), extract_one.mp hk1, fun c hc hc10 => ?_⟩
      obtain ⟨j, hj, rfl⟩ := List.mem_iff_getElem.mp hc
      rw [List.length_take, List.length_drop] at hj
      rw [List.getElem_take, List.getElem_drop] at hc10
      have := hk3 j (by (first | lia | omega))
      have h2 : (b.extract (j + i.toNat) (j + i.toNat + 1) == #[10]) = true := by
        refine extract_one.mpr ?_
        rw [List.getElem?_eq_getElem (by (first | lia | omega)), ← hc10]
        congr 2
        (first | lia | omega)
      rw [show ((fun i => b.extract i (i + 1) == #[10]) ∘ fun x => x + i.toNat) j = (b.extract (j + i.toNat) (j + i.toNat + 1) == #[10]) from rfl, h2] at this
      simp at this

def rowOf (seg : List UInt8) : List UInt8 × List UInt8 := if seg.getLast? = some 13 then (seg.dropLast, [13, 10]) else (seg, [10])
def lineParts : List UInt8 → List UInt8 → List (List UInt8 × List UInt8)
  | [], acc => [(acc, [])]
  | c :: r, acc => if c = 10 then rowOf acc :: lineParts r [] else lineParts r (acc ++ [c])
theorem lineParts_end : ∀ (seg acc : List UInt8), (∀ c ∈ seg, c ≠ 10) → lineParts seg acc = [(acc ++ seg, [])]
  | [], acc, _ => by simp [lineParts]
  | c :: r, acc, h => by
    rw [lineParts, if_neg (h c (.head _)), lineParts_end r _ fun d hd => h d (.tail _ hd)]
    simp
theorem lineParts_row : ∀ (seg acc r : List UInt8), (∀ c ∈ seg, c ≠ 10) → lineParts (seg ++ 10 :: r) acc = rowOf (acc ++ seg) :: lineParts r []
  | [], acc, r, _ => by simp [lineParts]
  | c :: s, acc, r, h => by
    rw [List.cons_append, lineParts, if_neg (h c (.head _)), lineParts_row s _ r fun d hd => h d (.tail _ hd)]
    simp
theorem drop_at {b : Array UInt8} {i n : Nat} (h1 : i ≤ n) (h2 : n < b.toList.length) (h3 : b.toList[n]? = some 10) : b.toList.drop i = (b.toList.drop i).take (n - i) ++ 10 :: b.toList.drop (n + 1) := by
  have e : (b.toList.drop i).drop (n - i) = 10 :: b.toList.drop (n + 1) := by
    rw [List.drop_drop, show i + (n - i) = n by (first | lia | omega), List.drop_eq_getElem_cons h2]
    rw [List.getElem?_eq_getElem h2] at h3
    rw [Option.some.inj h3]
  rw [← e, List.take_append_drop]

end
section
theorem zk_11 : True := by
  k_with_none
  k_with "side" => (first | with_reducible assumption | (first | lia | omega) | assumption | decide | ((simp (decide := true) only [Int.fdiv_eq_ediv_of_nonneg, Int.fmod_eq_emod_of_nonneg, List.size_toArray, List.length_cons, List.length_nil] at *); (first | lia | omega)))
  k_with "c enter" => (((case ho => k_is); (case hcd => k_is); (case hlv => decide); (case hb => first | exact (fun s X => BindsTo.of_eq rfl) | exact (fun s X => binds_K X rfl (by k_is) rfl rfl rfl)); (case hl => exact locs rfl); (case hc => decide); (case h1 => exact rfl); (case h2 => exact rfl); (case h3 => exact rfl); intro mean mg mb dp un gd fr s g L h₁ tk X T hd hu F N; (try dsimp only); (try k_fold)))
  k_with "c enterI" => (((case ho => k_is); (case hcd => k_is); (case hlv => decide); (case hb => first | exact (fun s X => BindsTo.of_eq rfl) | exact (fun s X => binds_K X rfl (by k_is) rfl rfl rfl)); (case hl => exact locs rfl); (case hc => decide); (case h1 => exact rfl); (case h2 => exact rfl); (case h3 => exact rfl); intro mean mg mb dp un gd fr s g L h₁ tk hI hIL X T hd hu F N; (replace hI := hI _ (List.Mem.head _)); (replace hIL := hIL _ (List.Mem.head _)); (try dsimp only at hI hIL); (try dsimp only); (try k_fold)))
  k_with "c enterC" => (((case ho => k_is); (case hcd => k_is); (case hlv => decide); (case hb => first | exact (fun s X => BindsTo.of_eq rfl) | exact (fun s X => binds_K X rfl (by k_is) rfl rfl rfl)); (case hl => exact rfl); (case hc => decide +kernel); (case h1 => exact rfl); (case h2 => exact rfl); (case h3 => exact rfl); intro mean mg mb dp un gd fr s g L h₁ tk cells X T hd hu F N Y; k_cells Y; (try simp only [List.cons_append, List.nil_append] at N); (try dsimp only); (try k_fold)))
  k_with "c enterIC" => (((case ho => k_is); (case hcd => k_is); (case hlv => decide); (case hb => first | exact (fun s X => BindsTo.of_eq rfl) | exact (fun s X => binds_K X rfl (by k_is) rfl rfl rfl)); (case hl => exact rfl); (case hc => decide +kernel); (case h1 => exact rfl); (case h2 => exact rfl); (case h3 => exact rfl); intro mean mg mb dp un gd fr s g L h₁ tk cells hI hIL X T hd hu F N Y; (replace hI := hI _ (List.Mem.head _)); (replace hIL := hIL _ (List.Mem.head _)); (try dsimp only at hI hIL); k_cells Y; (try simp only [List.cons_append, List.nil_append] at N); (try dsimp only); (try k_fold)))
  k_with "subscriptTail" => ((k_here; (with_reducible show wpAny _ _ (subscriptTail _ (Expr.Slice _ _ none _) (Value.bytes _ _) (Value.ref _)) _ _ _); (with_reducible rename Fr _ _ _ _ => F'); (with_reducible rename News _ _ _ _ => N'); k_dflt (first
      | ((with_reducible show wpAny _ _ (subscriptTail _ (Expr.Slice (some (Expr.UnaryOp _ _ _)) none none _) _ _) _ _ _); refine' slice_last (s := ⟨_, _, _, _, _⟩) F' N' ?qzz ?qze ?_; (case qze => first | rfl | decide); (case qzz => walk_at "side"); k_whole)
      | ((with_reducible show wpAny _ _ (subscriptTail _ (Expr.Slice (some _) (some _) none _) _ _) _ _ _); refine' slice_ss (s := ⟨_, _, _, _, _⟩) F' N' ?qza ?qzb ?qzz ?_; (case qza => walk_at "side"); (case qzb => walk_at "side"); (case qzz => walk_at "side"))
      | ((with_reducible show wpAny _ _ (subscriptTail _ (Expr.Slice (some _) none none _) _ _) _ _ _); refine' slice_sn (s := ⟨_, _, _, _, _⟩) F' N' ?qza ?qzz ?_; (case qza => walk_at "side"); (case qzz => walk_at "side"))
      | ((with_reducible show wpAny _ _ (subscriptTail _ (Expr.Slice none (some _) none _) _ _) _ _ _); refine' slice_ns (s := ⟨_, _, _, _, _⟩) F' N' ?qza ?qzz ?_; (case qza => walk_at "side"); (case qzz => walk_at "side"))); intro _ _ _ hcut F' N'))
  k_with "subscriptTail" => ((k_here; (with_reducible show wpAny _ _ (subscriptTail _ _ (Value.bytes _ _) (Value.int _ _)) _ _ _); k_dflt (refine' item_M ?qzz ?qza ?qzb ?_; (case qzz => walk_at "side"); (case qza => walk_at "side"); (case qzb => walk_at "side")); intro _ _ hlo hhi))
  k_with "getMethod bytes" => ((k_here; first | (with_reducible refine meth_join ?_) | (with_reducible refine meth_find ?_) | (with_reducible refine meth_split ?_) | (with_reducible refine meth_rstrip ?_)))
  k_with "call builtin:bytes.find" => ((k_here; k_dflt first | (refine' find4 ?qza ?qzb ?_; (case qza => walk_at "side"); (case qzb => walk_at "side"); intro _ _) | (refine' find3 ?qza ?_; (case qza => walk_at "side"); intro _ _)))
  k_with "call builtin:bytes.rstrip" => ((k_here; (try dsimp only [List.cons_append, List.nil_append]); k_dflt (refine' rstrip2 ?qza ?_; (case qza => walk_at "side")); intro r' t' k' hr' hrs'))
  k_with "exec For Name Name cons nil" => ((k_here; (rename Fr _ _ _ _ => lF'); (with_unfolding_all refine' For_invVF lF' ?qzk1 ?qzk2 ?_; (case qzk1 => exact rfl); (case qzk2 => exact rfl); k_whole)))
  k_with "exec For Name Call cons nil" => ((k_here; (rename Fr _ _ _ _ => lF'); (with_unfolding_all refine' For_invVF lF' ?qzk1 ?qzk2 ?_; (case qzk1 => exact rfl); (case qzk2 => exact rfl); k_whole)))
  k_with "pyIter bytes" => (((with_reducible show wpAny _ _ (pyIter (Value.bytes _ _)) (fun it s₂ => LoopAtV _ _ _ _ _ _ _ _ _ it s₂) _ _); refine park ?_))
  k_with "pyIter ref" => (((with_reducible show wpAny _ _ (pyIter (Value.ref _)) (fun it s₂ => LoopAtV _ _ _ _ _ _ _ _ _ it s₂) _ _); refine park ?_))
  k_with "exec While Compare cons nil" => ((k_here; refine park ?_))
  k_with "exec While Constant cons nil" => ((k_here; refine park ?_))
  k_with "ints" => (first | assumption | (repeat' (first | exact IntsAre.nil | refine IntsAre.cons _ _ ?_)))
  k_with "in256" => (first | assumption | exact in_nil | (refine in_cons ?qzia ?qzib ?qzic; (case qzia => walk_at "side"); (case qzib => walk_at "side"); (case qzic => walk_at "in256")))
  k_with "call type:bytes" => ((k_here; (with_reducible show wpAny _ _ (call (Value.type "bytes") [Value.ref _]) _ _ _); k_dflt (refine' KBa.make_K ?qzkbaF ?qzkbaN ?qzkbah ?qzkbal ?qzkbai ?qzkbar ?qzkban ?_; (case qzkbaF => k_asm); (case qzkbaN => k_asm); (case qzkbah => rfl); (case qzkbal => kba_isList); (case qzkbai => walk_at "ints"); (case qzkbar => walk_at "in256"); (case qzkban => walk_at "side")); intro _ _ _ F' N' kbaIn; (try k_sweep)))
  k_with "ps" => ((repeat' (first | exact List.forall_mem_nil _ | (refine List.forall_mem_cons.mpr ⟨by with_unfolding_all rfl, ?_⟩))))
  k_with "led" => ((repeat' (first | exact List.forall_mem_nil _ | (refine List.forall_mem_cons.mpr ⟨by k_mem, ?_⟩) | (intro p9 hp9; (repeat' (first | exact hp9 | refine List.Mem.tail _ ?_))))))
  k_with "lsize" => (first | size_fits | ((try rw [PySem.sizeLine_eq]); (simp only [List.size_toArray, Array.size_push]); (first | lia | omega)))
  k_with "call builtin:list.append" => ((k_here; (try dsimp only [List.cons_append, List.nil_append]); (with_reducible show wpAny _ _ (call (Value.builtin _) [Value.ref _, _]) _ _ _); k_dflt (refine' append_K ?qzk1 ?qzk2 ?qzk3 ?_ ?qzz; (case qzk1 => k_asm); (case qzk2 => k_asm); (case qzk3 => k_upd); (case qzz => walk_at "lsize"); k_whole); intro h' F' N'; (try k_sweep)))
  k_with "offI" => ((repeat' (first | exact List.forall_mem_nil _ | assumption | (refine List.forall_mem_cons.mpr ⟨by (refine neN ?_; (try dsimp only); (first | lia | omega)), ?_⟩))))
  k_with "bl get" => (first | (apply Fr.keep (by k_asm); assumption) | exact News.get (by k_asm) (by k_mem))
  k_with "subscriptTail" => ((k_here; (with_reducible show wpAny _ _ (subscriptTail _ _ (Value.ref _) (Value.int _ _)) _ _ _); k_dflt (refine' item_bl ?qzhl ?qzhv ?qza ?qzb ?qzz ?_; (case qzhv => with_reducible assumption); (case qzhl => walk_at "bl get"); (case qza => walk_at "side"); (case qzb => walk_at "side"); (case qzz => walk_at "side")); intro _ _))
  k_with "call builtin:len" => ((k_here; (with_reducible show wpAny _ _ (call (Value.builtin "len") [Value.ref _]) _ _ _); k_dflt (first | (refine' len_base ?qzhl ?qzF ?qzz ?_; (case qzhl => assumption); (case qzF => k_asm); (case qzz => walk_at "side")) | (refine' len_led ?qzN ?qzhm ?qzz ?_; (case qzN => k_asm); (case qzhm => k_mem); (case qzz => walk_at "side"))); intro _ _))
  k_with "binaryOp Add bytes bytes" => ((k_here; (with_reducible show wpAny _ _ (binaryOp Operator.Add (Value.bytes _ _) (Value.bytes _ _)) _ _ _); k_dflt (refine' KBy.add_bytes ?qzz ?_; (case qzz => walk_at "side")); intro _ _))
  k_with "call builtin:bytes.join" => ((k_here; (try dsimp only [List.cons_append, List.nil_append]); k_dflt (refine' join0 ?qzhl ?qzhv ?qzz ?_; (case qzhl => walk_at "bl get"); (case qzhv => walk_at "bytes are"); (case qzz => walk_at "side")); intro _ _))
  k_with "bytes are" => (first | with_reducible assumption | assumption | (repeat' (first | exact BytesAre.nil | refine BytesAre.cons ?_)))
  k_with "call builtin:bytes.split" => ((k_here; (try dsimp only [List.cons_append, List.nil_append]); k_dflt (refine' split1 ?qzF ?qzN ?qzc ?qza ?qzb ?_; (case qzF => k_asm); (case qzN => k_asm); (case qzc => rfl); (case qza => walk_at "side"); (case qzb => walk_at "side")); intro l' vs' h' k' hvs' F' N' hne'; (replace hne' := allNe_of9 hne'); (simp only [NeAll, and_true] at hne'); (try k_sweep)))
  k_with "call builtin:list.extend" => ((k_here; (with_reducible show wpAny _ _ (call (Value.builtin _) [Value.ref _, Value.ref _]) _ _ _); k_dflt (refine' ext_M ?qzF ?qzN ?qza ?qzb ?qzne ?qzU ?qzz ?_; (case qzF => k_asm); (case qzN => k_asm); (case qzb => k_mem); (case qzU => k_upd); (case qzne => walk_at "side"); (case qzz => walk_at "side"); (case qza => trivial)); intro h' F' N'; (try k_sweep)))
  k_with "subscriptTail Name Slice ref ref" => ((k_here; (with_reducible show wpAny _ _ (subscriptTail _ (PySem.Expr.Slice _ _ none _) (Value.ref _) (Value.ref _)) _ _ _); k_dflt (first
      | (refine' lslice_run (s := ⟨_, _, _, _, _⟩) ?qzF ?qzN ?qzhm ?qzhx ?qzhy ?qzhz ?_ ?qzhs ?qzht; (case qzF => k_asm); (case qzN => k_asm); (case qzhm => k_mem); (case qzhx => walk_at "side"); (case qzhy => walk_at "side"); (case qzhz => walk_at "side"); (case qzhs => with_unfolding_all rfl); (case qzht => kmk_pure))
      | (refine' lslice_to (s := ⟨_, _, _, _, _⟩) ?qzF ?qzN ?qzhm ?qzhy ?qzhz ?_ ?qzhs ?qzht; (case qzF => k_asm); (case qzN => k_asm); (case qzhm => k_mem); (case qzhy => walk_at "side"); (case qzhz => walk_at "side"); (case qzhs => with_unfolding_all rfl); (case qzht => kmk_pure))); intro D' h' F' N' l1; (try k_lt l1); (try k_sweep)))
  k_with "binaryOp LShift int int" => ((k_here; (with_reducible show wpAny _ _ (binaryOp Operator.LShift (Value.int _ _) (Value.int _ _)) _ _ _); k_dflt (refine' lshift_int_small ?qza ?qzb ?qzc ?_; (case qza => walk_at "side"); (case qzb => walk_at "side"); (case qzc => walk_at "side"))))
  k_with "binaryOp RShift int int" => ((k_here; (with_reducible show wpAny _ _ (binaryOp Operator.RShift (Value.int _ _) (Value.int _ _)) _ _ _); k_dflt (refine' rshift_int ?qza ?_; (case qza => walk_at "side"))))
  k_with "binaryOp BitAnd int int" => ((k_here; (with_reducible show wpAny _ _ (binaryOp Operator.BitAnd (Value.int _ _) (Value.int _ _)) _ _ _); k_dflt (first | (with_reducible refine and_63 ?_; intro _ _ hlo hhi) | (with_reducible refine and_255 ?_; intro _ _ hlo hhi) | (refine and_gen ?_; intro _ _ _))))
  k_with "comp range" => ((k_here; (with_reducible show wpAny _ _ (eval (PySem.Expr.ListComp _ [⟨PySem.Expr.Name _ _, _, [], _⟩] _ _) _) _ _ _); k_dflt (refine ListComp_RS (by k_asm) (by with_unfolding_all rfl) (by decide) (by rfl) (by decide) (by rfl) ?_)))
  k_with "eval ListComp" => (walk_at "comp range")
  k_with "RangeSrc" => ((refine park ?_))
  k_with "call ref" => ((k_here; (with_reducible show wpAny _ _ (call (Value.ref 125) _) _ _ _); k_dflt (refine' use_int (c_hex _ _ _ ?qza ?qzb) ?qzX ?qzT ?qzF ?qzN ?qzd ?qzu ?_; (case qza => walk_at "side"); (case qzb => walk_at "side"); (case qzX => k_asm); (case qzT => k_asm); (case qzF => k_asm); (case qzN => k_asm); (case qzd => (first | lia | omega)); (case qzu => (first | lia | omega)); intro t' h' tk' F' N'; (try k_sweep))))
  k_with "call ref" => ((k_here; (with_reducible show wpAny _ _ (call (Value.ref 139) _) _ _ _); k_dflt (refine' use_bool (c_plain _ _ _ ?qza ?qzb) ?qzX ?qzT ?qzF ?qzN ?qzd ?qzu ?_; (case qza => walk_at "side"); (case qzb => walk_at "side"); (case qzX => k_asm); (case qzT => k_asm); (case qzF => k_asm); (case qzN => k_asm); (case qzd => (first | lia | omega)); (case qzu => (first | lia | omega)); intro h' tk' F' N'; (try k_sweep))))
  k_with "call ref" => ((k_here; (with_reducible show wpAny _ _ (call (Value.ref 118) _) _ _ _); k_dflt (refine' use_bytes (c_code _ _ _ ?qza ?qzb) ?qzX ?qzT ?qzF ?qzN ?qzd ?qzu ?_; (case qza => walk_at "side"); (case qzb => walk_at "side"); (case qzX => k_asm); (case qzT => k_asm); (case qzF => k_asm); (case qzN => k_asm); (case qzd => (first | lia | omega)); (case qzu => (first | lia | omega)); intro t' h' tk' F' N'; (try k_sweep))))
  k_with "call ref" => ((k_here; (with_reducible show wpAny _ _ (call (Value.ref 132) _) _ _ _); k_dflt (refine' use_int (c_at _ _ _ _ _ ?qza ?qzb ?qzc) ?qzX ?qzT ?qzF ?qzN ?qzd ?qzu ?_; (case qza => walk_at "side"); (case qzb => walk_at "side"); (case qzc => walk_at "side"); (case qzX => k_asm); (case qzT => k_asm); (case qzF => k_asm); (case qzN => k_asm); (case qzd => (first | lia | omega)); (case qzu => (first | lia | omega)); intro t' h' tk' F' N'; (try k_sweep))))
  trivial
def rowDat (p : List UInt8 × List UInt8) : Dat := .tuple [.bytes p.1.toArray, .bytes p.2.toArray]
abbrev PRows (rows : List (List UInt8 × List UInt8)) (r : Value) (ad : List (Addr × Obj)) : Prop := ∃ l vs n tups, r = .ref l ∧ ad = (l, listOf vs.toArray n) :: tups ∧ DatAll tups vs (rows.map rowDat)
theorem dat_row {news : List (Addr × Obj)} {T : Addr} {x y : Array UInt8} {tx ty : Tok} {n0 : Nat} (hm : (T, ({ cls := .type "tuple", data := .seq #[.bytes x tx, .bytes y ty] n0 } : Obj)) ∈ news) : DatIn news (.ref T) (rowDat (x.toList, y.toList)) := by
  unfold rowDat
  refine DatIn.tuple (vs := [.bytes x tx, .bytes y ty]) (n := n0) hm (.cons ?_ (.cons ?_ .nil))
  · rw [Array.toArray_toList]; exact .bytes x tx
  · rw [Array.toArray_toList]; exact .bytes y ty
theorem cut_toList {b : Array UInt8} {i : Int} {n : Nat} : (cut b i n).toList = (b.toList.drop i.toNat).take (n - i.toNat) := by
  unfold cut
  rw [Int.toNat_natCast]
theorem seg_last {l : List UInt8} {i n : Nat} (h1 : i < n) (h2 : n < l.length) : ∃ c, l[n - 1]? = some c ∧ (l.drop i).take (n - i) = (l.drop i).take (n - 1 - i) ++ [c] := by
  obtain ⟨k, rfl⟩ : ∃ k, n = i + (k + 1) := ⟨n - i - 1, by (first | lia | omega)⟩
  have hlt : i + k < l.length := Nat.lt_trans (Nat.lt_succ_self _) h2
  refine ⟨l[i + k], ?_, ?_⟩
  · exact List.getElem?_eq_getElem hlt
  · rw [Nat.add_sub_cancel_left, show i + (k + 1) - 1 - i = k from Nat.add_sub_cancel_left i k, List.take_add_one, List.getElem?_drop, List.getElem?_eq_getElem hlt]
    rfl
theorem at_some {b : Array UInt8} {k : Nat} {c : UInt8} (h : b.toList[k]? = some c) : at_ b (k : Nat) = (c.toNat : Int) := by
  unfold at_
  rw [Int.toNat_natCast, List.getD_eq_getElem?_getD, h]
  rfl
theorem pred_cast {n : Nat} (h : 0 < n) : ((n : Int) - 1) = ((n - 1 : Nat) : Int) := (Int.ofNat_sub h).symm
theorem row_no {b : Array UInt8} {i : Int} {n : Nat} (h0 : 0 ≤ i) (h1 : i.toNat ≤ n) (h2 : n < b.toList.length) (h : ¬ (i < n ∧ at_ b (n - 1) = 13)) : rowOf ((b.toList.drop i.toNat).take (n - i.toNat)) = ((cut b i n).toList, [10]) := by
  unfold rowOf
  rw [if_neg, cut_toList]
  intro hq
  rcases Nat.eq_or_lt_of_le h1 with e | e
  · rw [e, Nat.sub_self, List.take_zero] at hq; cases hq
  · obtain ⟨c, hc, hs⟩ := seg_last e h2
    rw [hs, List.getLast?_concat] at hq
    obtain rfl : c = 13 := Option.some.inj hq
    refine h ⟨by rw [← Int.toNat_of_nonneg h0]; exact Int.ofNat_lt.mpr e, ?_⟩
    rw [pred_cast (Nat.lt_of_le_of_lt (Nat.zero_le _) e), at_some hc]
    rfl
theorem row_13 {b : Array UInt8} {i : Int} {n : Nat} (h0 : 0 ≤ i) (h2 : n < b.toList.length) (h : i < n) (h13 : at_ b (n - 1) = 13) : rowOf ((b.toList.drop i.toNat).take (n - i.toNat)) = ((cut b i (n - 1)).toList, [13, 10]) := by
  have e : i.toNat < n := by rw [← Int.toNat_of_nonneg h0] at h; exact Int.ofNat_lt.mp h
  obtain ⟨c, hc, hs⟩ := seg_last e h2
  rw [pred_cast (Nat.lt_of_le_of_lt (Nat.zero_le _) e)] at h13 ⊢
  rw [at_some hc] at h13
  obtain rfl : c = 13 := UInt8.toNat_inj.mp (Int.ofNat_inj.mp h13)
  unfold rowOf
  rw [hs, List.getLast?_concat, if_pos rfl, List.dropLast_concat, cut_toList]
theorem parts_end {g h' : Heap} {s₀ : Shared} {L l D : Addr} {m : Str → Option Value} {tk' : Nat} {x y : Addr × Obj} {vs : List Value} {tups : List (Addr × Obj)} {b : Array UInt8} {i : Int} {ty tz : Tok} {rows R : List (List UInt8 × List UInt8)}
    (F : Fr g L h' m) (N : News g L h' ((l, ({ cls := .type "list", data := .seq (vs ++ [Value.ref D]).toArray } : Obj)) :: x :: (D, { cls := .type "tuple", data := .seq #[.bytes (cutFrom b i) ty, .bytes #[] tz] }) :: y :: tups))
    (hd : DatAll tups vs (rows.map rowDat)) (hu : rows ++ [(b.toList.drop i.toNat, [])] = R) : CEnd g (PRows R) s₀ (.ret (.ref l)) { s₀ with heap := h', toks := tk' } := by
  refine CEnd.intro (ad := (l, listOf (vs ++ [Value.ref D]).toArray 0) :: (D, ({ cls := Value.type "tuple", data := Data.seq #[Value.bytes (cutFrom b i) ty, Value.bytes #[] tz] } : Obj)) :: tups) F N ?_ ⟨_, _, _, _, rfl, rfl, ?_⟩
  · exact List.forall_mem_cons.mpr ⟨.head _, List.forall_mem_cons.mpr ⟨.tail _ (.tail _ (.head _)), fun p hp => .tail _ (.tail _ (.tail _ (.tail _ hp)))⟩⟩
  · rw [← hu, List.map_append]
    exact (hd.mono fun _ h => .tail _ h).append (.one (dat_row (x := cutFrom b i) (y := #[]) (.head _)))
set_option maxHeartbeats 4000000 in
theorem c_parts (w : World) (b : Array UInt8) (tb : Tok) (hb : b.size ≤ 2000) : Ctr w 1 182 [.bytes b tb] (PRows (lineParts b.toList [])) := by
  have hlb : b.toList.length = b.size := Array.length_toList
  refine' ctr_enter (binds := [(Str.ofString "data", .bytes b tb)]) ?ho ?hcd ?hlv ?hb ?hl ?hc ?h1 ?h2 ?h3 ?_
  walk_at "c enter"
  k_steps
  unfold Park
  refine' while_J (fun k ps led => ∃ (i : Int) (o : Addr) (vs : List Value) (n : Nat) (rows : List (List UInt8 × List UInt8)) (tups : List (Addr × Obj)) (t : Tok), ps = [(Str.ofString "data", .bytes b tb), (Str.ofString "found", .ref o), (Str.ofString "begin", .int i t)] ∧ led = (o, listOf vs.toArray n) :: tups ∧ DatAll tups vs (rows.map rowDat) ∧ (∀ p ∈ tups, p.1 ≠ o) ∧ 0 ≤ i ∧ i ≤ b.size ∧ (k : Int) = b.size - i + 1 ∧ rows.length ≤ i ∧ rows ++ lineParts (b.toList.drop i.toNat) [] = lineParts b.toList []) (b.size + 1) [(Str.ofString "data", .bytes b tb), (Str.ofString "found", .ref _), (Str.ofString "begin", .int 0 _)] [(_, listOf #[] 0)] (by k_asm) (by k_asm) ?led ?ps ?j ?pass ?turn
  case ps => walk_at "ps"
  case led => walk_at "led"
  case pass => passes_own
  case j => exact ⟨0, _, [], _, [], [], _, rfl, rfl, .nil, (fun _ h => nomatch h), by (first | lia | omega), by (first | lia | omega), by (first | lia | omega), by simp, rfl⟩
  case turn =>
    intro k ps led m h tk hJ F N
    obtain ⟨i, o, vs, n, rows, tups, t, rfl, rfl, hd, hto, h0, h1, hk, hrl, hu⟩ := hJ
    have hvl := hd.length
    rw [List.length_map] at hvl
    rcases findNL h0 h1 with ⟨hf, hno⟩ | ⟨n', hf, g1, g2, g3, g4⟩
    · k_steps
      rename News _ _ _ _ => NN
      dsimp only at NN
      rw [lineParts_end _ _ hno, List.nil_append] at hu
      exact parts_end (by k_asm) NN hd hu
    · have hl9 := lineParts_row _ [] (b.toList.drop (n' + 1)) g4
      rw [← drop_at g1 g2 g3, List.nil_append] at hl9
      rw [hl9] at hu
      k_steps
      · ((rename News _ _ _ _ => N9); (try simp only [List.push_toArray] at N9); refine WhPost.intro [(Str.ofString "data", .bytes b tb), (Str.ofString "found", .ref o), (Str.ofString "begin", .int _ _)] ((o, _) :: (_, _) :: tups) (k - (n' + 1 - i.toNat)) (by k_asm) N9 (by walk_at "led") (by walk_at "ps") ?_ ?_)
        · (first | lia | omega)
        · rw [hf]
          refine ⟨n' + 1, o, _, _, rows ++ [((cut b i (n' - 1)).toList, [13, 10])], _, _, rfl, rfl, ?_, List.forall_mem_cons.mpr ⟨by (refine neN ?_; dsimp only; (first | lia | omega)), hto⟩, by (first | lia | omega), by (first | lia | omega), by (first | lia | omega), by simp; (first | lia | omega), ?_⟩
          · rw [List.map_append]
            exact (hd.mono fun _ h => .tail _ h).append (.one (dat_row (y := #[13, 10]) (.head _)))
          · rename i < _ => q1
            rename at_ b _ = 13 => q2
            rw [hf] at q1 q2
            rw [List.append_assoc, List.singleton_append, ← row_13 h0 g2 q1 q2, show ((n' : Int) + 1).toNat = n' + 1 by (first | lia | omega)]
            exact hu
      · ((rename News _ _ _ _ => N9); (try simp only [List.push_toArray] at N9); refine WhPost.intro [(Str.ofString "data", .bytes b tb), (Str.ofString "found", .ref o), (Str.ofString "begin", .int _ _)] ((o, _) :: (_, _) :: tups) (k - (n' + 1 - i.toNat)) (by k_asm) N9 (by walk_at "led") (by walk_at "ps") ?_ ?_)
        · (first | lia | omega)
        · rw [hf]
          refine ⟨n' + 1, o, _, _, rows ++ [((cut b i n').toList, [10])], _, _, rfl, rfl, ?_, List.forall_mem_cons.mpr ⟨by (refine neN ?_; dsimp only; (first | lia | omega)), hto⟩, by (first | lia | omega), by (first | lia | omega), by (first | lia | omega), by simp; (first | lia | omega), ?_⟩
          · rw [List.map_append]
            exact (hd.mono fun _ h => .tail _ h).append (.one (dat_row (y := #[10]) (.head _)))
          · rename at_ b _ ≠ 13 => q2
            rw [hf] at q2
            rw [List.append_assoc, List.singleton_append, ← row_no h0 g1 g2 (fun q => q2 q.2), show ((n' : Int) + 1).toNat = n' + 1 by (first | lia | omega)]
            exact hu
      · ((rename News _ _ _ _ => N9); (try simp only [List.push_toArray] at N9); refine WhPost.intro [(Str.ofString "data", .bytes b tb), (Str.ofString "found", .ref o), (Str.ofString "begin", .int _ _)] ((o, _) :: (_, _) :: tups) (k - (n' + 1 - i.toNat)) (by k_asm) N9 (by walk_at "led") (by walk_at "ps") ?_ ?_)
        · (first | lia | omega)
        · rw [hf]
          refine ⟨n' + 1, o, _, _, rows ++ [((cut b i n').toList, [10])], _, _, rfl, rfl, ?_, List.forall_mem_cons.mpr ⟨by (refine neN ?_; dsimp only; (first | lia | omega)), hto⟩, by (first | lia | omega), by (first | lia | omega), by (first | lia | omega), by simp; (first | lia | omega), ?_⟩
          · rw [List.map_append]
            exact (hd.mono fun _ h => .tail _ h).append (.one (dat_row (y := #[10]) (.head _)))
          · rename ¬ i < _ => q2
            rw [hf] at q2
            rw [List.append_assoc, List.singleton_append, ← row_no h0 g1 g2 (fun q => q2 q.1), show ((n' : Int) + 1).toNat = n' + 1 by (first | lia | omega)]
            exact hu

end
section
theorem rowOf_len (s : List UInt8) : (rowOf s).1.length ≤ s.length := by
  unfold rowOf
  split
  · simp
  · exact Nat.le_refl _
theorem lineParts_len : ∀ (l acc : List UInt8), ∀ p ∈ lineParts l acc, p.1.length ≤ l.length + acc.length
  | [], acc, p, hp => by
    rw [lineParts] at hp
    rw [List.mem_singleton.mp hp]; simp
  | c :: r, acc, p, hp => by
    rw [lineParts] at hp
    split at hp
    · rcases List.mem_cons.mp hp with rfl | hp
      · have := rowOf_len acc; simp only [List.length_cons]; (first | lia | omega)
      · have := lineParts_len r [] p hp; simp at this; simp only [List.length_cons]; (first | lia | omega)
    · have := lineParts_len r _ p hp
      simp at this; simp only [List.length_cons]; (first | lia | omega)
theorem lineParts_len2 : ∀ (l acc : List UInt8), ∀ p ∈ lineParts l acc, p.2.length ≤ 2
  | [], acc, p, hp => by
    rw [lineParts] at hp
    rw [List.mem_singleton.mp hp]; simp
  | c :: r, acc, p, hp => by
    rw [lineParts] at hp
    split at hp
    · rcases List.mem_cons.mp hp with rfl | hp
      · unfold rowOf
        split <;> simp
      · exact lineParts_len2 r [] p hp
    · exact lineParts_len2 r _ p hp
theorem lineParts_num : ∀ (l acc : List UInt8), (lineParts l acc).length ≤ l.length + 1
  | [], acc => by simp [lineParts]
  | c :: r, acc => by
    rw [lineParts]
    split
    · have := lineParts_num r []; simp only [List.length_cons]; (first | lia | omega)
    · have := lineParts_num r (acc ++ [c]); simp only [List.length_cons]; (first | lia | omega)
theorem rstripped_le (b c : List UInt8) : (rstripped b c).length ≤ b.length := by
  unfold rstripped
  rw [List.length_reverse]
  exact Nat.le_trans (List.dropWhile_suffix _).length_le (by simp)
theorem unqL_le : ∀ (l : List UInt8), (unqL l).length ≤ l.length
  | c :: a :: b :: r => by
    rw [unqL]
    split
    · have := unqL_le r; simp only [List.length_cons]; (first | lia | omega)
    · have := unqL_le (a :: b :: r); simp only [List.length_cons] at this ⊢; (first | lia | omega)
  | [c, a] => by simp [unqL]
  | [c] => by simp [unqL]
  | [] => by simp [unqL]
def decRow (p : List UInt8 × List UInt8) : Array UInt8 :=
  if last1 (rstripped p.1 [32, 9]).toArray = #[61] then (unqL (cutTo (rstripped p.1 [32, 9]).toArray ((rstripped p.1 [32, 9]).toArray.size - 1)).toList).toArray else (unqL (rstripped p.1 [32, 9])).toArray ++ p.2.toArray
def quotedDec (b : Array UInt8) : Array UInt8 := flat ((lineParts b.toList []).map decRow)
theorem last1_pos {r : Array UInt8} (h : ((last1 r).toList == #[(Int.toNat 61).toUInt8].toList) = true) : 0 < r.size := by
  rcases Nat.eq_zero_or_pos r.size with e | e
  · have : r = #[] := Array.eq_empty_of_size_eq_zero e
    rw [this] at h
    exact absurd h (by decide)
  · exact e
theorem last1_61 {r : Array UInt8} (h : ((last1 r).toList == #[(Int.toNat 61).toUInt8].toList) = true) : last1 r = #[61] := Array.ext' (by simpa using h)
theorem decRow_yes {p : List UInt8 × List UInt8} {r : Array UInt8} {i : Int} (hr : r.toList = rstripped p.1.toArray.toList #[32, 9].toList) (h : last1 r = #[61]) (e : i = r.size - 1) : (unqL (cutTo r i).toList).toArray = decRow p := by
  have hr' : (rstripped p.1 [32, 9]).toArray = r := by apply Array.ext'; rw [hr]
  unfold decRow
  rw [hr', if_pos h, e]
theorem decRow_no {p : List UInt8 × List UInt8} {r : Array UInt8} (hr : r.toList = rstripped p.1.toArray.toList #[32, 9].toList) (h : ¬ last1 r = #[61]) : (unqL r.toList).toArray ++ p.2.toArray = decRow p := by
  have hr' : (rstripped p.1 [32, 9]).toArray = r := by apply Array.ext'; rw [hr]
  unfold decRow
  rw [hr', if_neg h, ← hr]

end
section
theorem zk_12 : True := by
  k_with_none
  k_with "side" => (first | with_reducible assumption | (first | lia | omega) | assumption | decide | ((simp (decide := true) only [Int.fdiv_eq_ediv_of_nonneg, Int.fmod_eq_emod_of_nonneg, List.size_toArray, List.length_cons, List.length_nil] at *); (first | lia | omega)))
  k_with "c enter" => (((case ho => k_is); (case hcd => k_is); (case hlv => decide); (case hb => first | exact (fun s X => BindsTo.of_eq rfl) | exact (fun s X => binds_K X rfl (by k_is) rfl rfl rfl)); (case hl => exact locs rfl); (case hc => decide); (case h1 => exact rfl); (case h2 => exact rfl); (case h3 => exact rfl); intro mean mg mb dp un gd fr s g L h₁ tk X T hd hu F N; (try dsimp only); (try k_fold)))
  k_with "c enterI" => (((case ho => k_is); (case hcd => k_is); (case hlv => decide); (case hb => first | exact (fun s X => BindsTo.of_eq rfl) | exact (fun s X => binds_K X rfl (by k_is) rfl rfl rfl)); (case hl => exact locs rfl); (case hc => decide); (case h1 => exact rfl); (case h2 => exact rfl); (case h3 => exact rfl); intro mean mg mb dp un gd fr s g L h₁ tk hI hIL X T hd hu F N; (replace hI := hI _ (List.Mem.head _)); (replace hIL := hIL _ (List.Mem.head _)); (try dsimp only at hI hIL); (try dsimp only); (try k_fold)))
  k_with "c enterC" => (((case ho => k_is); (case hcd => k_is); (case hlv => decide); (case hb => first | exact (fun s X => BindsTo.of_eq rfl) | exact (fun s X => binds_K X rfl (by k_is) rfl rfl rfl)); (case hl => exact rfl); (case hc => decide +kernel); (case h1 => exact rfl); (case h2 => exact rfl); (case h3 => exact rfl); intro mean mg mb dp un gd fr s g L h₁ tk cells X T hd hu F N Y; k_cells Y; (try simp only [List.cons_append, List.nil_append] at N); (try dsimp only); (try k_fold)))
  k_with "c enterIC" => (((case ho => k_is); (case hcd => k_is); (case hlv => decide); (case hb => first | exact (fun s X => BindsTo.of_eq rfl) | exact (fun s X => binds_K X rfl (by k_is) rfl rfl rfl)); (case hl => exact rfl); (case hc => decide +kernel); (case h1 => exact rfl); (case h2 => exact rfl); (case h3 => exact rfl); intro mean mg mb dp un gd fr s g L h₁ tk cells hI hIL X T hd hu F N Y; (replace hI := hI _ (List.Mem.head _)); (replace hIL := hIL _ (List.Mem.head _)); (try dsimp only at hI hIL); k_cells Y; (try simp only [List.cons_append, List.nil_append] at N); (try dsimp only); (try k_fold)))
  k_with "subscriptTail" => ((k_here; (with_reducible show wpAny _ _ (subscriptTail _ (Expr.Slice _ _ none _) (Value.bytes _ _) (Value.ref _)) _ _ _); (with_reducible rename Fr _ _ _ _ => F'); (with_reducible rename News _ _ _ _ => N'); k_dflt (first
      | ((with_reducible show wpAny _ _ (subscriptTail _ (Expr.Slice (some (Expr.UnaryOp _ _ _)) none none _) _ _) _ _ _); refine' slice_last (s := ⟨_, _, _, _, _⟩) F' N' ?qzz ?qze ?_; (case qze => first | rfl | decide); (case qzz => walk_at "side"); k_whole)
      | ((with_reducible show wpAny _ _ (subscriptTail _ (Expr.Slice (some _) (some _) none _) _ _) _ _ _); refine' slice_ss (s := ⟨_, _, _, _, _⟩) F' N' ?qza ?qzb ?qzz ?_; (case qza => walk_at "side"); (case qzb => walk_at "side"); (case qzz => walk_at "side"))
      | ((with_reducible show wpAny _ _ (subscriptTail _ (Expr.Slice (some _) none none _) _ _) _ _ _); refine' slice_sn (s := ⟨_, _, _, _, _⟩) F' N' ?qza ?qzz ?_; (case qza => walk_at "side"); (case qzz => walk_at "side"))
      | ((with_reducible show wpAny _ _ (subscriptTail _ (Expr.Slice none (some _) none _) _ _) _ _ _); refine' slice_ns (s := ⟨_, _, _, _, _⟩) F' N' ?qza ?qzz ?_; (case qza => walk_at "side"); (case qzz => walk_at "side"))); intro _ _ _ hcut F' N'))
  k_with "subscriptTail" => ((k_here; (with_reducible show wpAny _ _ (subscriptTail _ _ (Value.bytes _ _) (Value.int _ _)) _ _ _); k_dflt (refine' item_M ?qzz ?qza ?qzb ?_; (case qzz => walk_at "side"); (case qza => walk_at "side"); (case qzb => walk_at "side")); intro _ _ hlo hhi))
  k_with "getMethod bytes" => ((k_here; first | (with_reducible refine meth_join ?_) | (with_reducible refine meth_find ?_) | (with_reducible refine meth_split ?_) | (with_reducible refine meth_rstrip ?_)))
  k_with "call builtin:bytes.find" => ((k_here; k_dflt first | (refine' find4 ?qza ?qzb ?_; (case qza => walk_at "side"); (case qzb => walk_at "side"); intro _ _) | (refine' find3 ?qza ?_; (case qza => walk_at "side"); intro _ _)))
  k_with "call builtin:bytes.rstrip" => ((k_here; (try dsimp only [List.cons_append, List.nil_append]); k_dflt (refine' rstrip2 ?qza ?_; (case qza => walk_at "side")); intro r' t' k' hr' hrs'))
  k_with "exec For Name Name cons nil" => ((k_here; (rename Fr _ _ _ _ => lF'); (with_unfolding_all refine' For_invVF lF' ?qzk1 ?qzk2 ?_; (case qzk1 => exact rfl); (case qzk2 => exact rfl); k_whole)))
  k_with "exec For Name Call cons nil" => ((k_here; (rename Fr _ _ _ _ => lF'); (with_unfolding_all refine' For_invVF lF' ?qzk1 ?qzk2 ?_; (case qzk1 => exact rfl); (case qzk2 => exact rfl); k_whole)))
  k_with "pyIter bytes" => (((with_reducible show wpAny _ _ (pyIter (Value.bytes _ _)) (fun it s₂ => LoopAtV _ _ _ _ _ _ _ _ _ it s₂) _ _); refine park ?_))
  k_with "pyIter ref" => (((with_reducible show wpAny _ _ (pyIter (Value.ref _)) (fun it s₂ => LoopAtV _ _ _ _ _ _ _ _ _ it s₂) _ _); refine park ?_))
  k_with "exec While Compare cons nil" => ((k_here; refine park ?_))
  k_with "exec While Constant cons nil" => ((k_here; refine park ?_))
  k_with "ints" => (first | assumption | (repeat' (first | exact IntsAre.nil | refine IntsAre.cons _ _ ?_)))
  k_with "in256" => (first | assumption | exact in_nil | (refine in_cons ?qzia ?qzib ?qzic; (case qzia => walk_at "side"); (case qzib => walk_at "side"); (case qzic => walk_at "in256")))
  k_with "call type:bytes" => ((k_here; (with_reducible show wpAny _ _ (call (Value.type "bytes") [Value.ref _]) _ _ _); k_dflt (refine' KBa.make_K ?qzkbaF ?qzkbaN ?qzkbah ?qzkbal ?qzkbai ?qzkbar ?qzkban ?_; (case qzkbaF => k_asm); (case qzkbaN => k_asm); (case qzkbah => rfl); (case qzkbal => kba_isList); (case qzkbai => walk_at "ints"); (case qzkbar => walk_at "in256"); (case qzkban => walk_at "side")); intro _ _ _ F' N' kbaIn; (try k_sweep)))
  k_with "ps" => ((repeat' (first | exact List.forall_mem_nil _ | (refine List.forall_mem_cons.mpr ⟨by with_unfolding_all rfl, ?_⟩))))
  k_with "led" => ((repeat' (first | exact List.forall_mem_nil _ | (refine List.forall_mem_cons.mpr ⟨by k_mem, ?_⟩) | (intro p9 hp9; (repeat' (first | exact hp9 | refine List.Mem.tail _ ?_))))))
  k_with "lsize" => (first | size_fits | ((try rw [PySem.sizeLine_eq]); (simp only [List.size_toArray, Array.size_push]); (first | lia | omega)))
  k_with "call builtin:list.append" => ((k_here; (try dsimp only [List.cons_append, List.nil_append]); (with_reducible show wpAny _ _ (call (Value.builtin _) [Value.ref _, _]) _ _ _); k_dflt (refine' append_K ?qzk1 ?qzk2 ?qzk3 ?_ ?qzz; (case qzk1 => k_asm); (case qzk2 => k_asm); (case qzk3 => k_upd); (case qzz => walk_at "lsize"); k_whole); intro h' F' N'; (try k_sweep)))
  k_with "offI" => ((repeat' (first | exact List.forall_mem_nil _ | assumption | (refine List.forall_mem_cons.mpr ⟨by (refine neN ?_; (try dsimp only); (first | lia | omega)), ?_⟩))))
  k_with "bl get" => (first | (apply Fr.keep (by k_asm); assumption) | exact News.get (by k_asm) (by k_mem))
  k_with "subscriptTail" => ((k_here; (with_reducible show wpAny _ _ (subscriptTail _ _ (Value.ref _) (Value.int _ _)) _ _ _); k_dflt (refine' item_bl ?qzhl ?qzhv ?qza ?qzb ?qzz ?_; (case qzhv => with_reducible assumption); (case qzhl => walk_at "bl get"); (case qza => walk_at "side"); (case qzb => walk_at "side"); (case qzz => walk_at "side")); intro _ _))
  k_with "call builtin:len" => ((k_here; (with_reducible show wpAny _ _ (call (Value.builtin "len") [Value.ref _]) _ _ _); k_dflt (first | (refine' len_base ?qzhl ?qzF ?qzz ?_; (case qzhl => assumption); (case qzF => k_asm); (case qzz => walk_at "side")) | (refine' len_led ?qzN ?qzhm ?qzz ?_; (case qzN => k_asm); (case qzhm => k_mem); (case qzz => walk_at "side"))); intro _ _))
  k_with "binaryOp Add bytes bytes" => ((k_here; (with_reducible show wpAny _ _ (binaryOp Operator.Add (Value.bytes _ _) (Value.bytes _ _)) _ _ _); k_dflt (refine' KBy.add_bytes ?qzz ?_; (case qzz => walk_at "side")); intro _ _))
  k_with "call builtin:bytes.join" => ((k_here; (try dsimp only [List.cons_append, List.nil_append]); k_dflt (refine' join0 ?qzhl ?qzhv ?qzz ?_; (case qzhl => walk_at "bl get"); (case qzhv => walk_at "bytes are"); (case qzz => walk_at "side")); intro _ _))
  k_with "bytes are" => (first | with_reducible assumption | assumption | (repeat' (first | exact BytesAre.nil | refine BytesAre.cons ?_)))
  k_with "call builtin:bytes.split" => ((k_here; (try dsimp only [List.cons_append, List.nil_append]); k_dflt (refine' split1 ?qzF ?qzN ?qzc ?qza ?qzb ?_; (case qzF => k_asm); (case qzN => k_asm); (case qzc => rfl); (case qza => walk_at "side"); (case qzb => walk_at "side")); intro l' vs' h' k' hvs' F' N' hne'; (replace hne' := allNe_of9 hne'); (simp only [NeAll, and_true] at hne'); (try k_sweep)))
  k_with "call builtin:list.extend" => ((k_here; (with_reducible show wpAny _ _ (call (Value.builtin _) [Value.ref _, Value.ref _]) _ _ _); k_dflt (refine' ext_M ?qzF ?qzN ?qza ?qzb ?qzne ?qzU ?qzz ?_; (case qzF => k_asm); (case qzN => k_asm); (case qzb => k_mem); (case qzU => k_upd); (case qzne => walk_at "side"); (case qzz => walk_at "side"); (case qza => trivial)); intro h' F' N'; (try k_sweep)))
  k_with "subscriptTail Name Slice ref ref" => ((k_here; (with_reducible show wpAny _ _ (subscriptTail _ (PySem.Expr.Slice _ _ none _) (Value.ref _) (Value.ref _)) _ _ _); k_dflt (first
      | (refine' lslice_run (s := ⟨_, _, _, _, _⟩) ?qzF ?qzN ?qzhm ?qzhx ?qzhy ?qzhz ?_ ?qzhs ?qzht; (case qzF => k_asm); (case qzN => k_asm); (case qzhm => k_mem); (case qzhx => walk_at "side"); (case qzhy => walk_at "side"); (case qzhz => walk_at "side"); (case qzhs => with_unfolding_all rfl); (case qzht => kmk_pure))
      | (refine' lslice_to (s := ⟨_, _, _, _, _⟩) ?qzF ?qzN ?qzhm ?qzhy ?qzhz ?_ ?qzhs ?qzht; (case qzF => k_asm); (case qzN => k_asm); (case qzhm => k_mem); (case qzhy => walk_at "side"); (case qzhz => walk_at "side"); (case qzhs => with_unfolding_all rfl); (case qzht => kmk_pure))); intro D' h' F' N' l1; (try k_lt l1); (try k_sweep)))
  k_with "binaryOp LShift int int" => ((k_here; (with_reducible show wpAny _ _ (binaryOp Operator.LShift (Value.int _ _) (Value.int _ _)) _ _ _); k_dflt (refine' lshift_int_small ?qza ?qzb ?qzc ?_; (case qza => walk_at "side"); (case qzb => walk_at "side"); (case qzc => walk_at "side"))))
  k_with "binaryOp RShift int int" => ((k_here; (with_reducible show wpAny _ _ (binaryOp Operator.RShift (Value.int _ _) (Value.int _ _)) _ _ _); k_dflt (refine' rshift_int ?qza ?_; (case qza => walk_at "side"))))
  k_with "binaryOp BitAnd int int" => ((k_here; (with_reducible show wpAny _ _ (binaryOp Operator.BitAnd (Value.int _ _) (Value.int _ _)) _ _ _); k_dflt (first | (with_reducible refine and_63 ?_; intro _ _ hlo hhi) | (with_reducible refine and_255 ?_; intro _ _ hlo hhi) | (refine and_gen ?_; intro _ _ _))))
  k_with "comp range" => ((k_here; (with_reducible show wpAny _ _ (eval (PySem.Expr.ListComp _ [⟨PySem.Expr.Name _ _, _, [], _⟩] _ _) _) _ _ _); k_dflt (refine ListComp_RS (by k_asm) (by with_unfolding_all rfl) (by decide) (by rfl) (by decide) (by rfl) ?_)))
  k_with "eval ListComp" => (walk_at "comp range")
  k_with "RangeSrc" => ((refine park ?_))
  k_with "call ref" => ((k_here; (with_reducible show wpAny _ _ (call (Value.ref 125) _) _ _ _); k_dflt (refine' use_int (c_hex _ _ _ ?qza ?qzb) ?qzX ?qzT ?qzF ?qzN ?qzd ?qzu ?_; (case qza => walk_at "side"); (case qzb => walk_at "side"); (case qzX => k_asm); (case qzT => k_asm); (case qzF => k_asm); (case qzN => k_asm); (case qzd => (first | lia | omega)); (case qzu => (first | lia | omega)); intro t' h' tk' F' N'; (try k_sweep))))
  k_with "call ref" => ((k_here; (with_reducible show wpAny _ _ (call (Value.ref 139) _) _ _ _); k_dflt (refine' use_bool (c_plain _ _ _ ?qza ?qzb) ?qzX ?qzT ?qzF ?qzN ?qzd ?qzu ?_; (case qza => walk_at "side"); (case qzb => walk_at "side"); (case qzX => k_asm); (case qzT => k_asm); (case qzF => k_asm); (case qzN => k_asm); (case qzd => (first | lia | omega)); (case qzu => (first | lia | omega)); intro h' tk' F' N'; (try k_sweep))))
  k_with "call ref" => ((k_here; (with_reducible show wpAny _ _ (call (Value.ref 118) _) _ _ _); k_dflt (refine' use_bytes (c_code _ _ _ ?qza ?qzb) ?qzX ?qzT ?qzF ?qzN ?qzd ?qzu ?_; (case qza => walk_at "side"); (case qzb => walk_at "side"); (case qzX => k_asm); (case qzT => k_asm); (case qzF => k_asm); (case qzN => k_asm); (case qzd => (first | lia | omega)); (case qzu => (first | lia | omega)); intro t' h' tk' F' N'; (try k_sweep))))
  k_with "call ref" => ((k_here; (with_reducible show wpAny _ _ (call (Value.ref 132) _) _ _ _); k_dflt (refine' use_int (c_at _ _ _ _ _ ?qza ?qzb ?qzc) ?qzX ?qzT ?qzF ?qzN ?qzd ?qzu ?_; (case qza => walk_at "side"); (case qzb => walk_at "side"); (case qzc => walk_at "side"); (case qzX => k_asm); (case qzT => k_asm); (case qzF => k_asm); (case qzN => k_asm); (case qzd => (first | lia | omega)); (case qzu => (first | lia | omega)); intro t' h' tk' F' N'; (try k_sweep))))
  k_with "call ref" => ((k_here; (with_reducible show wpAny _ _ (call (Value.ref 189) _) _ _ _); k_dflt (refine' use_bytes (c_unq _ _ _ ?qza) ?qzX ?qzT ?qzF ?qzN ?qzd ?qzu ?_; (case qza => walk_at "side"); (case qzX => k_asm); (case qzT => k_asm); (case qzF => k_asm); (case qzN => k_asm); (case qzd => (first | lia | omega)); (case qzu => (first | lia | omega)); intro t' h' tk' F' N'; (try k_sweep))))
  trivial
theorem use_rows {w : World} {lv : Nat} {f : Addr} {args : List Value} {mean : ExcName → Option Value} {mg mb : Str → Option Value} {dp un : Nat} {gd : Option (List Code)} {fr : List Env} {h₀ : Heap} {L : Addr} {m : Str → Option Value} {news : List (Addr × Obj)} {s : Shared} {Q E : Value → Shared → Prop} {rows : List (List UInt8 × List UInt8)} (C : Ctr w lv f args (PRows rows)) (X : (hd.heap_1 w.params).In h₀) (T : Top PP LO mean mg mb h₀) (F : Fr h₀ L s.heap m) (N : News h₀ L s.heap news) (hd : dp + lv < recursionLimit) (hu : un + 8 * lv < cLine)
    (h : ∀ l vs n tups h' tk', DatAll tups vs (rows.map rowDat) → Fr h₀ L h' m → News h₀ L h' ((l, listOf vs.toArray n) :: (tups ++ news)) → (∀ q ∈ news, l ≠ q.1) → (∀ p ∈ tups, ∀ q ∈ news, p.1 ≠ q.1) → Q (.ref l) { s with heap := h', toks := tk' }) : wpAny (model PG w) (mkA dp un gd fr) (call (.ref f) args) Q E s :=
  ctr_use C X T F N hd hu fun _ _ h' tk' hp F' N' hne => by obtain ⟨l, vs, n, tups, rfl, rfl, hv⟩ := hp; exact h l vs n tups h' tk' hv F' N' (hne _ (.head _)) fun p hp => hne p (.tail _ hp)
theorem zk_13 : True := by
  k_with "call ref" => ((k_here; (with_reducible show wpAny _ _ (call (Value.ref 182) _) _ _ _); k_dflt (refine' use_rows (c_parts _ _ _ ?qza) ?qzX ?qzT ?qzF ?qzN ?qzd ?qzu ?_; (case qza => walk_at "side"); (case qzX => k_asm); (case qzT => k_asm); (case qzF => k_asm); (case qzN => k_asm); (case qzd => (first | lia | omega)); (case qzu => (first | lia | omega)); intro l' vs' n' tups' h' tk' hvs' F' N' hne' hnt'; (try k_sweep))))
  k_with "exec For Tuple Call cons nil" => ((k_here; (rename Fr _ _ _ _ => lF'); (with_unfolding_all refine' For_turns lF' ?_; k_whole)))
  k_with "pyIter ref" => (((with_reducible show wpAny _ _ (pyIter (Value.ref _)) (fun it s₂ => TurnsAt _ _ _ _ _ _ _ _ _ it s₂) _ _); refine park ?_))
  trivial
def Mark7 : Prop := True
theorem zk_14 : True := by
  k_with "subscriptTail" => (((with_reducible show wpAny _ _ (subscriptTail _ (PySem.Expr.Slice none (some (PySem.Expr.BinOp _ _ _ _)) none _) (Value.bytes _ _) _) _ _ _); (fail_if_success (rename Mark7 => hM7)); refine park ?_))
  k_with "binaryOp Add bytes bytes" => (((fail_if_success (rename Mark7 => hM7)); refine park ?_))
  trivial
theorem rowDat_inv {news : List (Addr × Obj)} {v : Value} {p : List UInt8 × List UInt8} (h : DatIn news v (rowDat p)) : ∃ T tx ty n0, v = .ref T ∧ (T, ({ cls := .type "tuple", data := .seq #[.bytes p.1.toArray tx, .bytes p.2.toArray ty] n0 } : Obj)) ∈ news := by
  unfold rowDat at h
  cases h with
  | @tuple a vs n ds hm hr =>
    cases hr with
    | cons h1 hr =>
      cases hr with
      | cons h2 hr =>
        cases hr
        cases h1
        cases h2
        exact ⟨_, _, _, _, rfl, hm⟩
theorem snoc_map {vs : List Value} {α : Type} {R : List α} {f : α → Array UInt8} {i : Nat} {p : α} {x : Array UInt8} {t : Tok} (hv : BytesAre vs ((R.take i).map f)) (hp : R[i]? = some p) (e : x = f p) : BytesAre (vs ++ [.bytes x t]) ((R.take (i + 1)).map f) := by
  rw [List.take_add_one, hp, List.map_append, e]
  exact hv.append .one
theorem news_rot {g h : Heap} {L : Addr} {a b : Addr × Obj} {t : List (Addr × Obj)} (N : News g L h (a :: (t ++ [b]))) : News g L h (b :: a :: t) := fun p hp => by
  rcases List.mem_cons.mp hp with rfl | hp
  · exact N _ (.tail _ (List.mem_append_right _ (.head _)))
  · rcases List.mem_cons.mp hp with rfl | hp
    · exact N _ (.head _)
    · exact N _ (.tail _ (List.mem_append_left _ hp))
theorem news_turn {g h : Heap} {L : Addr} {x a b c : Addr × Obj} {t : List (Addr × Obj)} (N : News g L h ((a :: b :: t) ++ [c])) (hm : x ∈ t) : News g L h (x :: a :: c :: b :: t) := fun p hp => by
  rcases List.mem_cons.mp hp with rfl | hp
  · exact N _ (List.mem_append_left _ (.tail _ (.tail _ hm)))
  · rcases List.mem_cons.mp hp with rfl | hp
    · exact N _ (List.mem_append_left _ (.head _))
    · rcases List.mem_cons.mp hp with rfl | hp
      · exact N _ (List.mem_append_right _ (.head _))
      · exact N _ (List.mem_append_left _ (.tail _ hp))
set_option maxHeartbeats 4000000 in
theorem c_qdec (w : World) (b : Array UInt8) (tb : Tok) (hb : b.size ≤ 2000) (hz : (quotedDec b).size ≤ 4000) : Ctr w 4 196 [.bytes b tb] (PBytes (quotedDec b)) := by
  have hlb : b.toList.length = b.size := Array.length_toList
  have hrl := lineParts_len b.toList []
  have hrn := lineParts_num b.toList []
  have hr2 := lineParts_len2 b.toList []
  generalize hR : lineParts b.toList [] = R at hrl hrn hr2
  refine' ctr_enter (binds := [(Str.ofString "data", .bytes b tb)]) ?ho ?hcd ?hlv ?hb ?hl ?hc ?h1 ?h2 ?h3 ?_
  walk_at "c enter"
  k_steps
  revert l' vs' n' tups' h' tk' hvs' F' N' hne' hnt'; intro lT vT nT tups h9 tk9 hV F9 N9 hne9 hnt9
  replace N9 := news_rot N9
  replace hne9 := hne9 _ (.head _)
  have hnt9 : ∀ p ∈ tups, p.1 ≠ _ := fun p hp => hnt9 p hp _ (.head _)
  rw [hR] at hV
  have hvl := hV.length
  rw [List.length_map] at hvl
  unfold Park
  refine' for_ledgerT (fun i ps led => ∃ o ws k, BytesAre ws ((R.take i).map decRow) ∧ ps = [(Str.ofString "parts", .ref o)] ∧ led = (o, listOf ws.toArray k) :: (lT, listOf vT.toArray nT) :: tups ∧ @Ne Nat o lT ∧ (∀ p ∈ tups, p.1 ≠ o)) [(Str.ofString "parts", .ref _)] ((_, listOf #[] 0) :: (lT, _) :: tups) rfl ?hol ?hwh (by k_asm) (by k_asm) ?led ?ps ?j ?turn ?done
  case ps => walk_at "ps"
  case led => walk_at "led"
  case hol => exact .tail _ (.head _)
  case hwh => rintro i ps led ⟨o, ws, k, _, _, rfl, _⟩; exact .tail _ (.head _)
  case j => exact ⟨_, _, _, .nil, rfl, rfl, Ne.symm hne9, hnt9⟩
  case turn =>
    intro i v ps led m I oI h tk hi hv' hJ hI F N
    obtain ⟨o, ws, k, hw, rfl, rfl, hoT, hto⟩ := hJ
    have hwl := hw.length
    rw [List.length_map, List.length_take] at hwl
    have hi' : i < R.length := by (first | lia | omega)
    obtain ⟨v', hv2, hd⟩ := hV.get (k := i) (by rw [List.length_map]; exact hi')
    rw [hv'] at hv2
    obtain rfl := Option.some.inj hv2
    rw [List.getElem_map] at hd
    obtain ⟨T, tx, ty, n0, rfl, hm⟩ := rowDat_inv hd
    have hmem : R[i] ∈ R := List.getElem_mem hi'
    have hsz := hrl _ hmem
    have hsz2 : R[i].1.toArray.size ≤ 2000 := by rw [List.size_toArray]; simp at hsz; (first | lia | omega)
    have hsz3 : R[i].2.toArray.size ≤ 2 := by rw [List.size_toArray]; exact hr2 _ hmem
    have hiR : R[i]? = some R[i] := List.getElem?_eq_getElem hi'
    have hTo : @Ne Nat T o := hto _ hm
    have hTI : @Ne Nat T I := hI _ (.tail _ (.tail _ hm))
    have hIt : ∀ p ∈ tups, p.1 ≠ I := fun p hp => hI _ (.tail _ (.tail _ hp))
    have hoI : @Ne Nat o I := hI _ (.head _)
    have hlI : @Ne Nat lT I := hI _ (.tail _ (.head _))
    have N2 : News _ _ _ ((T, ({ cls := .type "tuple", data := .seq #[.bytes R[i].1.toArray tx, .bytes R[i].2.toArray ty] n0 } : Obj)) :: (o, listOf ws.toArray k) :: (I, oI) :: (lT, listOf vT.toArray nT) :: tups) := news_turn N hm
    clear N
    k_steps
    · rename (Array UInt8) => r
      rename (_ == _) = true => q1
      rename r.toList = _ => q2
      have q3 := last1_pos q1
      unfold Park
      have hM7 : Mark7 := trivial
      k_steps
      ((rename News _ _ _ _ => N9); (try simp only [List.push_toArray] at N9); refine TurnEnd.intro [(Str.ofString "parts", .ref o)] ((o, _) :: (lT, _) :: tups) (by k_asm) N9 (by walk_at "led") (by k_mem) (by walk_at "offI") (by walk_at "ps") ?_)
      exact ⟨o, _, _, snoc_map hw hiR (decRow_yes q2 (last1_61 q1) rfl), rfl, rfl, hoT, hto⟩
    · rename (Array UInt8) => r
      rename r.toList = _ => q2
      have q3 := unqL_le r.toList
      rw [Array.length_toList (xs := r)] at q3
      have q6 := rstripped_le R[i].1.toArray.toList #[32, 9].toList
      rw [← q2, Array.length_toList (xs := r), Array.length_toList (xs := R[i].1.toArray)] at q6
      have q4 : (unqL r.toList).toArray.size ≤ 2000 := by rw [List.size_toArray]; (first | lia | omega)
      unfold Park
      have hM7 : Mark7 := trivial
      k_steps
      ((rename News _ _ _ _ => N9); (try simp only [List.push_toArray] at N9); refine TurnEnd.intro [(Str.ofString "parts", .ref o)] ((o, _) :: (lT, _) :: tups) (by k_asm) N9 (by walk_at "led") (by k_mem) (by walk_at "offI") (by walk_at "ps") ?_)
      refine ⟨o, _, _, snoc_map hw hiR (decRow_no q2 ?_), rfl, rfl, hoT, hto⟩
      rename (_ == _) = false => q1
      intro q5
      rw [q5] at q1
      exact absurd q1 (by decide)
  case done =>
    intro ps led m h tk hJ F N
    obtain ⟨o, ws, k, hw, rfl, rfl, hoT, hto⟩ := hJ
    rw [hvl, List.take_length] at hw
    have hz2 : (flat (R.map decRow)).size ≤ 4000 := by rw [← hR]; exact hz
    k_steps
    refine CEnd.flat (by k_asm) (pbytes ?_)
    unfold quotedDec
    rw [hR]

end
section
theorem ints_take {ys : List Value} {ns : List Int} {i : Nat} {v : Int} {t : Tok} (hy : IntsAre ys (ns.take i)) (e : ns[i]? = some v) : IntsAre (ys ++ [.int v t]) (ns.take (i + 1)) := by
  rw [List.take_add_one, e]
  exact hy.append (.cons _ _ .nil)
theorem ints_snoc {ys : List Value} {ns : List Int} {v : Int} {t : Tok} (hy : IntsAre ys ns) : IntsAre (ys ++ [.int v t]) (ns ++ [v]) := hy.append (.cons _ _ .nil)
theorem ints_range {ys : List Value} {f : Nat → Int} {i : Nat} {v : Int} {t : Tok} (hy : IntsAre ys ((List.range i).map f)) (e : v = f i) : IntsAre (ys ++ [.int v t]) ((List.range (i + 1)).map f) := by
  rw [List.range_succ, List.map_append, e]
  exact hy.append (.cons _ _ .nil)
theorem small_3 {b : Int} (h0 : 0 ≤ b) (h1 : b < 2 ^ 40) : Builtin.Range.small 0 b 3 = true := by
  unfold Builtin.Range.small
  rw [rangeSize_pos (by decide) h0]
  simp only [Builtin.Range.rangeFitsLong, Bool.and_eq_true, Bool.or_eq_true, decide_eq_true_eq, beq_iff_eq, show ((3 : Int) > 0) by decide, if_true]
  (first | lia | omega)
theorem small_4 {b : Int} (h0 : 0 ≤ b) (h1 : b < 2 ^ 40) : Builtin.Range.small 0 b 4 = true := by
  unfold Builtin.Range.small
  rw [rangeSize_pos (by decide) h0]
  simp only [Builtin.Range.rangeFitsLong, Bool.and_eq_true, Bool.or_eq_true, decide_eq_true_eq, beq_iff_eq, show ((4 : Int) > 0) by decide, if_true]
  (first | lia | omega)
theorem small_76 {b : Int} (h0 : 0 ≤ b) (h1 : b < 2 ^ 40) : Builtin.Range.small 0 b 76 = true := by
  unfold Builtin.Range.small
  rw [rangeSize_pos (by decide) h0]
  simp only [Builtin.Range.rangeFitsLong, Bool.and_eq_true, Bool.or_eq_true, decide_eq_true_eq, beq_iff_eq, show ((76 : Int) > 0) by decide, if_true]
  (first | lia | omega)
section
variable {prog : Program} {w : World} {A : Around} {E : Value → Shared → Prop} {s : Shared}
theorem and_gen {a b : Int} {t u : Tok} {Q : Value → Shared → Prop} (h : ∀ z t' k, Q (.int z t') { s with toks := k }) : wpAny (model prog w) A (binaryOp .BitAnd (.int a t) (.int b u)) Q E s :=
  and_int (h _ _ _)
end

end
section
theorem zk_15 : True := by
  k_with_none
  k_with "side" => (first | with_reducible assumption | (first | lia | omega) | assumption | decide | ((simp (decide := true) only [Int.fdiv_eq_ediv_of_nonneg, Int.fmod_eq_emod_of_nonneg, List.size_toArray, List.length_cons, List.length_nil] at *); (first | lia | omega)))
  k_with "c enter" => (((case ho => k_is); (case hcd => k_is); (case hlv => decide); (case hb => first | exact (fun s X => BindsTo.of_eq rfl) | exact (fun s X => binds_K X rfl (by k_is) rfl rfl rfl)); (case hl => exact locs rfl); (case hc => decide); (case h1 => exact rfl); (case h2 => exact rfl); (case h3 => exact rfl); intro mean mg mb dp un gd fr s g L h₁ tk X T hd hu F N; (try dsimp only); (try k_fold)))
  k_with "c enterI" => (((case ho => k_is); (case hcd => k_is); (case hlv => decide); (case hb => first | exact (fun s X => BindsTo.of_eq rfl) | exact (fun s X => binds_K X rfl (by k_is) rfl rfl rfl)); (case hl => exact locs rfl); (case hc => decide); (case h1 => exact rfl); (case h2 => exact rfl); (case h3 => exact rfl); intro mean mg mb dp un gd fr s g L h₁ tk hI hIL X T hd hu F N; (replace hI := hI _ (List.Mem.head _)); (replace hIL := hIL _ (List.Mem.head _)); (try dsimp only at hI hIL); (try dsimp only); (try k_fold)))
  k_with "c enterC" => (((case ho => k_is); (case hcd => k_is); (case hlv => decide); (case hb => first | exact (fun s X => BindsTo.of_eq rfl) | exact (fun s X => binds_K X rfl (by k_is) rfl rfl rfl)); (case hl => exact rfl); (case hc => decide +kernel); (case h1 => exact rfl); (case h2 => exact rfl); (case h3 => exact rfl); intro mean mg mb dp un gd fr s g L h₁ tk cells X T hd hu F N Y; k_cells Y; (try simp only [List.cons_append, List.nil_append] at N); (try dsimp only); (try k_fold)))
  k_with "c enterIC" => (((case ho => k_is); (case hcd => k_is); (case hlv => decide); (case hb => first | exact (fun s X => BindsTo.of_eq rfl) | exact (fun s X => binds_K X rfl (by k_is) rfl rfl rfl)); (case hl => exact rfl); (case hc => decide +kernel); (case h1 => exact rfl); (case h2 => exact rfl); (case h3 => exact rfl); intro mean mg mb dp un gd fr s g L h₁ tk cells hI hIL X T hd hu F N Y; (replace hI := hI _ (List.Mem.head _)); (replace hIL := hIL _ (List.Mem.head _)); (try dsimp only at hI hIL); k_cells Y; (try simp only [List.cons_append, List.nil_append] at N); (try dsimp only); (try k_fold)))
  k_with "subscriptTail" => ((k_here; (with_reducible show wpAny _ _ (subscriptTail _ (Expr.Slice _ _ none _) (Value.bytes _ _) (Value.ref _)) _ _ _); (with_reducible rename Fr _ _ _ _ => F'); (with_reducible rename News _ _ _ _ => N'); k_dflt (first
      | ((with_reducible show wpAny _ _ (subscriptTail _ (Expr.Slice (some (Expr.UnaryOp _ _ _)) none none _) _ _) _ _ _); refine' slice_last (s := ⟨_, _, _, _, _⟩) F' N' ?qzz ?qze ?_; (case qze => first | rfl | decide); (case qzz => walk_at "side"); k_whole)
      | ((with_reducible show wpAny _ _ (subscriptTail _ (Expr.Slice (some _) (some _) none _) _ _) _ _ _); refine' slice_ss (s := ⟨_, _, _, _, _⟩) F' N' ?qza ?qzb ?qzz ?_; (case qza => walk_at "side"); (case qzb => walk_at "side"); (case qzz => walk_at "side"))
      | ((with_reducible show wpAny _ _ (subscriptTail _ (Expr.Slice (some _) none none _) _ _) _ _ _); refine' slice_sn (s := ⟨_, _, _, _, _⟩) F' N' ?qza ?qzz ?_; (case qza => walk_at "side"); (case qzz => walk_at "side"))
      | ((with_reducible show wpAny _ _ (subscriptTail _ (Expr.Slice none (some _) none _) _ _) _ _ _); refine' slice_ns (s := ⟨_, _, _, _, _⟩) F' N' ?qza ?qzz ?_; (case qza => walk_at "side"); (case qzz => walk_at "side"))); intro _ _ _ hcut F' N'))
  k_with "subscriptTail" => ((k_here; (with_reducible show wpAny _ _ (subscriptTail _ _ (Value.bytes _ _) (Value.int _ _)) _ _ _); k_dflt (refine' item_M ?qzz ?qza ?qzb ?_; (case qzz => walk_at "side"); (case qza => walk_at "side"); (case qzb => walk_at "side")); intro _ _ hlo hhi))
  k_with "getMethod bytes" => ((k_here; first | (with_reducible refine meth_join ?_) | (with_reducible refine meth_find ?_) | (with_reducible refine meth_split ?_) | (with_reducible refine meth_rstrip ?_)))
  k_with "call builtin:bytes.find" => ((k_here; k_dflt first | (refine' find4 ?qza ?qzb ?_; (case qza => walk_at "side"); (case qzb => walk_at "side"); intro _ _) | (refine' find3 ?qza ?_; (case qza => walk_at "side"); intro _ _)))
  k_with "call builtin:bytes.rstrip" => ((k_here; (try dsimp only [List.cons_append, List.nil_append]); k_dflt (refine' rstrip2 ?qza ?_; (case qza => walk_at "side")); intro r' t' k' hr' hrs'))
  k_with "exec For Name Name cons nil" => ((k_here; (rename Fr _ _ _ _ => lF'); (with_unfolding_all refine' For_invVF lF' ?qzk1 ?qzk2 ?_; (case qzk1 => exact rfl); (case qzk2 => exact rfl); k_whole)))
  k_with "exec For Name Call cons nil" => ((k_here; (rename Fr _ _ _ _ => lF'); (with_unfolding_all refine' For_invVF lF' ?qzk1 ?qzk2 ?_; (case qzk1 => exact rfl); (case qzk2 => exact rfl); k_whole)))
  k_with "pyIter bytes" => (((with_reducible show wpAny _ _ (pyIter (Value.bytes _ _)) (fun it s₂ => LoopAtV _ _ _ _ _ _ _ _ _ it s₂) _ _); refine park ?_))
  k_with "pyIter ref" => (((with_reducible show wpAny _ _ (pyIter (Value.ref _)) (fun it s₂ => LoopAtV _ _ _ _ _ _ _ _ _ it s₂) _ _); refine park ?_))
  k_with "exec While Compare cons nil" => ((k_here; refine park ?_))
  k_with "exec While Constant cons nil" => ((k_here; refine park ?_))
  k_with "ints" => (first | assumption | (repeat' (first | exact IntsAre.nil | refine IntsAre.cons _ _ ?_)))
  k_with "in256" => (first | assumption | exact in_nil | (refine in_cons ?qzia ?qzib ?qzic; (case qzia => walk_at "side"); (case qzib => walk_at "side"); (case qzic => walk_at "in256")))
  k_with "call type:bytes" => ((k_here; (with_reducible show wpAny _ _ (call (Value.type "bytes") [Value.ref _]) _ _ _); k_dflt (refine' KBa.make_K ?qzkbaF ?qzkbaN ?qzkbah ?qzkbal ?qzkbai ?qzkbar ?qzkban ?_; (case qzkbaF => k_asm); (case qzkbaN => k_asm); (case qzkbah => rfl); (case qzkbal => kba_isList); (case qzkbai => walk_at "ints"); (case qzkbar => walk_at "in256"); (case qzkban => walk_at "side")); intro _ _ _ F' N' kbaIn; (try k_sweep)))
  k_with "ps" => ((repeat' (first | exact List.forall_mem_nil _ | (refine List.forall_mem_cons.mpr ⟨by with_unfolding_all rfl, ?_⟩))))
  k_with "led" => ((repeat' (first | exact List.forall_mem_nil _ | (refine List.forall_mem_cons.mpr ⟨by k_mem, ?_⟩) | (intro p9 hp9; (repeat' (first | exact hp9 | refine List.Mem.tail _ ?_))))))
  k_with "lsize" => (first | size_fits | ((try rw [PySem.sizeLine_eq]); (simp only [List.size_toArray, Array.size_push]); (first | lia | omega)))
  k_with "call builtin:list.append" => ((k_here; (try dsimp only [List.cons_append, List.nil_append]); (with_reducible show wpAny _ _ (call (Value.builtin _) [Value.ref _, _]) _ _ _); k_dflt (refine' append_K ?qzk1 ?qzk2 ?qzk3 ?_ ?qzz; (case qzk1 => k_asm); (case qzk2 => k_asm); (case qzk3 => k_upd); (case qzz => walk_at "lsize"); k_whole); intro h' F' N'; (try k_sweep)))
  k_with "offI" => ((repeat' (first | exact List.forall_mem_nil _ | assumption | (refine List.forall_mem_cons.mpr ⟨by (refine neN ?_; (try dsimp only); (first | lia | omega)), ?_⟩))))
  k_with "bl get" => (first | (apply Fr.keep (by k_asm); assumption) | exact News.get (by k_asm) (by k_mem))
  k_with "subscriptTail" => ((k_here; (with_reducible show wpAny _ _ (subscriptTail _ _ (Value.ref _) (Value.int _ _)) _ _ _); k_dflt (refine' item_bl ?qzhl ?qzhv ?qza ?qzb ?qzz ?_; (case qzhv => with_reducible assumption); (case qzhl => walk_at "bl get"); (case qza => walk_at "side"); (case qzb => walk_at "side"); (case qzz => walk_at "side")); intro _ _))
  k_with "call builtin:len" => ((k_here; (with_reducible show wpAny _ _ (call (Value.builtin "len") [Value.ref _]) _ _ _); k_dflt (first | (refine' len_base ?qzhl ?qzF ?qzz ?_; (case qzhl => assumption); (case qzF => k_asm); (case qzz => walk_at "side")) | (refine' len_led ?qzN ?qzhm ?qzz ?_; (case qzN => k_asm); (case qzhm => k_mem); (case qzz => walk_at "side"))); intro _ _))
  k_with "binaryOp Add bytes bytes" => ((k_here; (with_reducible show wpAny _ _ (binaryOp Operator.Add (Value.bytes _ _) (Value.bytes _ _)) _ _ _); k_dflt (refine' KBy.add_bytes ?qzz ?_; (case qzz => walk_at "side")); intro _ _))
  k_with "call builtin:bytes.join" => ((k_here; (try dsimp only [List.cons_append, List.nil_append]); k_dflt (refine' join0 ?qzhl ?qzhv ?qzz ?_; (case qzhl => walk_at "bl get"); (case qzhv => walk_at "bytes are"); (case qzz => walk_at "side")); intro _ _))
  k_with "bytes are" => (first | with_reducible assumption | assumption | (repeat' (first | exact BytesAre.nil | refine BytesAre.cons ?_)))
  k_with "call builtin:bytes.split" => ((k_here; (try dsimp only [List.cons_append, List.nil_append]); k_dflt (refine' split1 ?qzF ?qzN ?qzc ?qza ?qzb ?_; (case qzF => k_asm); (case qzN => k_asm); (case qzc => rfl); (case qza => walk_at "side"); (case qzb => walk_at "side")); intro l' vs' h' k' hvs' F' N' hne'; (replace hne' := allNe_of9 hne'); (simp only [NeAll, and_true] at hne'); (try k_sweep)))
  k_with "call builtin:list.extend" => ((k_here; (with_reducible show wpAny _ _ (call (Value.builtin _) [Value.ref _, Value.ref _]) _ _ _); k_dflt (refine' ext_M ?qzF ?qzN ?qza ?qzb ?qzne ?qzU ?qzz ?_; (case qzF => k_asm); (case qzN => k_asm); (case qzb => k_mem); (case qzU => k_upd); (case qzne => walk_at "side"); (case qzz => walk_at "side"); (case qza => trivial)); intro h' F' N'; (try k_sweep)))
  k_with "subscriptTail Name Slice ref ref" => ((k_here; (with_reducible show wpAny _ _ (subscriptTail _ (PySem.Expr.Slice _ _ none _) (Value.ref _) (Value.ref _)) _ _ _); k_dflt (first
      | (refine' lslice_run (s := ⟨_, _, _, _, _⟩) ?qzF ?qzN ?qzhm ?qzhx ?qzhy ?qzhz ?_ ?qzhs ?qzht; (case qzF => k_asm); (case qzN => k_asm); (case qzhm => k_mem); (case qzhx => walk_at "side"); (case qzhy => walk_at "side"); (case qzhz => walk_at "side"); (case qzhs => with_unfolding_all rfl); (case qzht => kmk_pure))
      | (refine' lslice_to (s := ⟨_, _, _, _, _⟩) ?qzF ?qzN ?qzhm ?qzhy ?qzhz ?_ ?qzhs ?qzht; (case qzF => k_asm); (case qzN => k_asm); (case qzhm => k_mem); (case qzhy => walk_at "side"); (case qzhz => walk_at "side"); (case qzhs => with_unfolding_all rfl); (case qzht => kmk_pure))); intro D' h' F' N' l1; (try k_lt l1); (try k_sweep)))
  k_with "binaryOp LShift int int" => ((k_here; (with_reducible show wpAny _ _ (binaryOp Operator.LShift (Value.int _ _) (Value.int _ _)) _ _ _); k_dflt (refine' lshift_int_small ?qza ?qzb ?qzc ?_; (case qza => walk_at "side"); (case qzb => walk_at "side"); (case qzc => walk_at "side"))))
  k_with "binaryOp RShift int int" => ((k_here; (with_reducible show wpAny _ _ (binaryOp Operator.RShift (Value.int _ _) (Value.int _ _)) _ _ _); k_dflt (refine' rshift_int ?qza ?_; (case qza => walk_at "side"))))
  k_with "binaryOp BitAnd int int" => ((k_here; (with_reducible show wpAny _ _ (binaryOp Operator.BitAnd (Value.int _ _) (Value.int _ _)) _ _ _); k_dflt (first | (with_reducible refine and_63 ?_; intro _ _ hlo hhi) | (with_reducible refine and_255 ?_; intro _ _ hlo hhi) | (refine and_gen ?_; intro _ _ _))))
  k_with "comp range" => ((k_here; (with_reducible show wpAny _ _ (eval (PySem.Expr.ListComp _ [⟨PySem.Expr.Name _ _, _, [], _⟩] _ _) _) _ _ _); k_dflt (refine ListComp_RS (by k_asm) (by with_unfolding_all rfl) (by decide) (by rfl) (by decide) (by rfl) ?_)))
  k_with "eval ListComp" => (walk_at "comp range")
  k_with "RangeSrc" => ((refine park ?_))
  trivial

def tot (b : Array UInt8) (i : Nat) : Int := (b.toList.take i).foldl (fun t c => 256 * t + (c.toNat : Int)) 0
theorem tot_succ {b : Array UInt8} {i : Nat} {c : UInt8} (h : b[i]? = some c) : tot b (i + 1) = 256 * tot b i + (c.toNat : Int) := by
  unfold tot
  have h' : b.toList[i]? = some c := by simpa using h
  rw [List.take_add_one, h', List.foldl_append]
  rfl
theorem tot_lo (b : Array UInt8) : ∀ i, i ≤ b.size → 0 ≤ tot b i ∧ tot b i < 256 ^ i := by
  intro i
  induction i with
  | zero => intro _; exact ⟨Int.le_refl _, by show (0:Int) < 1; decide⟩
  | succ i ih =>
    intro hi
    have ih := ih (by (first | lia | omega))
    have h : b[i]? = some b[i] := Array.getElem?_eq_getElem (by (first | lia | omega))
    have hc := b[i].toNat_lt
    rw [tot_succ h, Int.pow_succ]
    (first | lia | omega)
def groupTot (b : Array UInt8) : Int := tot b b.size * 2 ^ (6 - 2 * b.size)
def groupCodes (b a : Array UInt8) : List Int := (List.range (b.size + 1)).map fun i => at_ a ((groupTot b).fdiv (2 ^ (6 * (b.size - i))) % 64)
set_option maxHeartbeats 4000000 in
theorem c_gc (w : World) (b a : Array UInt8) (tb ta : Tok) (h1 : 1 ≤ b.size) (h3 : b.size ≤ 3) (ha : a.size = 64) : Ctr w 1 24 [.bytes b tb, .bytes a ta] (PIL (groupCodes b a)) := by
  refine' ctr_enterC (binds := [(Str.ofString "octets", .bytes b tb), (Str.ofString "alphabet", .bytes a ta)]) ?ho ?hcd ?hlv ?hb ?hl ?hc ?h1 ?h2 ?h3 ?_
  walk_at "c enterC"
  rename_i o1 o2 d1 d2
  replace d2 : o2.data = .cell (some (.bytes a ta)) := d2
  k_steps
  unfold Park
  refine' for_bytes (fun i ps led => ∃ (oT oA : Obj) (t : Tok), oT.data = .cell (some (.int (tot b i) t)) ∧ oA.data = .cell (some (.bytes a ta)) ∧ ps = [(Str.ofString "octets", .bytes b tb)] ∧ led = [(L + 1 + 1, oT), (L + 1, oA)]) [(Str.ofString "octets", .bytes b tb)] [(L + 1 + 1, _), (L + 1, o2)] rfl (by k_asm) (by k_asm) ?led ?ps ?j ?turn ?done
  case ps => walk_at "ps"
  case led => walk_at "led"
  case j => exact ⟨_, _, _, by assumption, d2, rfl, rfl⟩
  case turn =>
    intro i c u ps led m I oI h tk hi hc hJ hI F N
    obtain ⟨oT, oA, t, dT, dA, rfl, rfl⟩ := hJ
    replace hI := ne_all (l := I) (fun q hq => Ne.symm (hI q hq))
    simp only [NeAll, and_true] at hI
    simp only [List.cons_append, List.nil_append] at N
    have hlo := tot_lo b i (by (first | lia | omega))
    k_steps
    ((rename News _ _ _ _ => N9); (try simp only [List.push_toArray] at N9); refine TurnEnd.intro [(Str.ofString "octets", .bytes b tb)] [(L + 1 + 1, _), (L + 1, oA)] (by k_asm) N9 (by walk_at "led") (by k_mem) (by walk_at "offI") (by walk_at "ps") ?_)
    exact ⟨_, oA, _, by rw [tot_succ hc]; assumption, dA, rfl, rfl⟩
  case done =>
    intro ps led m h tk hJ F N
    obtain ⟨oT, oA, t, dT, dA, rfl, rfl⟩ := hJ
    have hlo := tot_lo b b.size (Nat.le_refl _)
    have h256 : (256 : Int) ^ b.size ≤ 16777216 := by
      have : b.size = 1 ∨ b.size = 2 ∨ b.size = 3 := by (first | lia | omega)
      rcases this with e | e | e <;> rw [e] <;> decide
    have hnab : (tot b b.size).natAbs < 2 ^ 64 := by (first | lia | omega)
    have hgt : tot b b.size * 2 ^ (6 * ((b.size : Int) + 1) - 8 * (b.size : Int)).toNat = groupTot b := by
      unfold groupTot; rw [show (6 * ((b.size : Int) + 1) - 8 * (b.size : Int)).toNat = 6 - 2 * b.size by (first | lia | omega)]
    k_steps
    unfold Park
    refine' RangeSrc.mk' (b.size + 1) (fun i ys news => ∃ (o p : Obj) (t : Tok), o.data = .cell (some (.int (groupTot b) t)) ∧ p.data = .cell (some (.bytes a ta)) ∧ IntsAre ys ((List.range i).map fun i => at_ a ((groupTot b).fdiv (2 ^ (6 * (b.size - i))) % 64)) ∧ news = [(L + 1 + 1, o), (L + 1, p)]) rfl (by assumption) (by assumption) (by assumption) ?small ?size ?n ?j ?turn ?done
    case small => exact small_down (by (first | lia | omega)) (by (first | lia | omega)) (by (first | lia | omega)) (by (first | lia | omega))
    case size => rw [rangeSize_downNat]; (first | lia | omega)
    case n => (first | lia | omega)
    case j => refine' ⟨_, _, _, ?x, dA, .nil, rfl⟩; case x => (rw [← hgt]; assumption)
    case turn =>
      intro i k t I oI C oC D m₂ ys news g h tk E' hi hk hJ hC hx F N off ne
      obtain ⟨o, p, t, do', dp', hy, rfl⟩ := hJ
      k_steps
      refine EltEnd.intro [(L + 1 + 1, o), (L + 1, p)] (by k_asm) (by k_asm) (by walk_at "led") (by assumption) ?_
      refine ⟨_, _, _, do', dp', ints_range hy ?_, rfl⟩
      rw [show (6 * k).toNat = 6 * (b.size - i) by (first | lia | omega)]
    case done =>
      intro D ys news h tk hJ F N off
      obtain ⟨o, p, t, do', dp', hy, rfl⟩ := hJ
      k_steps
      exact CEnd.il (by k_asm) (by k_asm) (by k_mem) hy

end
section
theorem zk_16 : True := by
  k_with_none
  k_with "side" => (first | with_reducible assumption | (first | lia | omega) | assumption | decide | ((simp (decide := true) only [Int.fdiv_eq_ediv_of_nonneg, Int.fmod_eq_emod_of_nonneg, List.size_toArray, List.length_cons, List.length_nil] at *); (first | lia | omega)))
  k_with "c enter" => (((case ho => k_is); (case hcd => k_is); (case hlv => decide); (case hb => first | exact (fun s X => BindsTo.of_eq rfl) | exact (fun s X => binds_K X rfl (by k_is) rfl rfl rfl)); (case hl => exact locs rfl); (case hc => decide); (case h1 => exact rfl); (case h2 => exact rfl); (case h3 => exact rfl); intro mean mg mb dp un gd fr s g L h₁ tk X T hd hu F N; (try dsimp only); (try k_fold)))
  k_with "c enterI" => (((case ho => k_is); (case hcd => k_is); (case hlv => decide); (case hb => first | exact (fun s X => BindsTo.of_eq rfl) | exact (fun s X => binds_K X rfl (by k_is) rfl rfl rfl)); (case hl => exact locs rfl); (case hc => decide); (case h1 => exact rfl); (case h2 => exact rfl); (case h3 => exact rfl); intro mean mg mb dp un gd fr s g L h₁ tk hI hIL X T hd hu F N; (replace hI := hI _ (List.Mem.head _)); (replace hIL := hIL _ (List.Mem.head _)); (try dsimp only at hI hIL); (try dsimp only); (try k_fold)))
  k_with "c enterC" => (((case ho => k_is); (case hcd => k_is); (case hlv => decide); (case hb => first | exact (fun s X => BindsTo.of_eq rfl) | exact (fun s X => binds_K X rfl (by k_is) rfl rfl rfl)); (case hl => exact rfl); (case hc => decide +kernel); (case h1 => exact rfl); (case h2 => exact rfl); (case h3 => exact rfl); intro mean mg mb dp un gd fr s g L h₁ tk cells X T hd hu F N Y; k_cells Y; (try simp only [List.cons_append, List.nil_append] at N); (try dsimp only); (try k_fold)))
  k_with "c enterIC" => (((case ho => k_is); (case hcd => k_is); (case hlv => decide); (case hb => first | exact (fun s X => BindsTo.of_eq rfl) | exact (fun s X => binds_K X rfl (by k_is) rfl rfl rfl)); (case hl => exact rfl); (case hc => decide +kernel); (case h1 => exact rfl); (case h2 => exact rfl); (case h3 => exact rfl); intro mean mg mb dp un gd fr s g L h₁ tk cells hI hIL X T hd hu F N Y; (replace hI := hI _ (List.Mem.head _)); (replace hIL := hIL _ (List.Mem.head _)); (try dsimp only at hI hIL); k_cells Y; (try simp only [List.cons_append, List.nil_append] at N); (try dsimp only); (try k_fold)))
  k_with "subscriptTail" => ((k_here; (with_reducible show wpAny _ _ (subscriptTail _ (Expr.Slice _ _ none _) (Value.bytes _ _) (Value.ref _)) _ _ _); (with_reducible rename Fr _ _ _ _ => F'); (with_reducible rename News _ _ _ _ => N'); k_dflt (first
      | ((with_reducible show wpAny _ _ (subscriptTail _ (Expr.Slice (some (Expr.UnaryOp _ _ _)) none none _) _ _) _ _ _); refine' slice_last (s := ⟨_, _, _, _, _⟩) F' N' ?qzz ?qze ?_; (case qze => first | rfl | decide); (case qzz => walk_at "side"); k_whole)
      | ((with_reducible show wpAny _ _ (subscriptTail _ (Expr.Slice (some _) (some _) none _) _ _) _ _ _); refine' slice_ss (s := ⟨_, _, _, _, _⟩) F' N' ?qza ?qzb ?qzz ?_; (case qza => walk_at "side"); (case qzb => walk_at "side"); (case qzz => walk_at "side"))
      | ((with_reducible show wpAny _ _ (subscriptTail _ (Expr.Slice (some _) none none _) _ _) _ _ _); refine' slice_sn (s := ⟨_, _, _, _, _⟩) F' N' ?qza ?qzz ?_; (case qza => walk_at "side"); (case qzz => walk_at "side"))
      | ((with_reducible show wpAny _ _ (subscriptTail _ (Expr.Slice none (some _) none _) _ _) _ _ _); refine' slice_ns (s := ⟨_, _, _, _, _⟩) F' N' ?qza ?qzz ?_; (case qza => walk_at "side"); (case qzz => walk_at "side"))); intro _ _ _ hcut F' N'))
  k_with "subscriptTail" => ((k_here; (with_reducible show wpAny _ _ (subscriptTail _ _ (Value.bytes _ _) (Value.int _ _)) _ _ _); k_dflt (refine' item_M ?qzz ?qza ?qzb ?_; (case qzz => walk_at "side"); (case qza => walk_at "side"); (case qzb => walk_at "side")); intro _ _ hlo hhi))
  k_with "getMethod bytes" => ((k_here; first | (with_reducible refine meth_join ?_) | (with_reducible refine meth_find ?_) | (with_reducible refine meth_split ?_) | (with_reducible refine meth_rstrip ?_)))
  k_with "call builtin:bytes.find" => ((k_here; k_dflt first | (refine' find4 ?qza ?qzb ?_; (case qza => walk_at "side"); (case qzb => walk_at "side"); intro _ _) | (refine' find3 ?qza ?_; (case qza => walk_at "side"); intro _ _)))
  k_with "call builtin:bytes.rstrip" => ((k_here; (try dsimp only [List.cons_append, List.nil_append]); k_dflt (refine' rstrip2 ?qza ?_; (case qza => walk_at "side")); intro r' t' k' hr' hrs'))
  k_with "exec For Name Name cons nil" => ((k_here; (rename Fr _ _ _ _ => lF'); (with_unfolding_all refine' For_invVF lF' ?qzk1 ?qzk2 ?_; (case qzk1 => exact rfl); (case qzk2 => exact rfl); k_whole)))
  k_with "exec For Name Call cons nil" => ((k_here; (rename Fr _ _ _ _ => lF'); (with_unfolding_all refine' For_invVF lF' ?qzk1 ?qzk2 ?_; (case qzk1 => exact rfl); (case qzk2 => exact rfl); k_whole)))
  k_with "pyIter bytes" => (((with_reducible show wpAny _ _ (pyIter (Value.bytes _ _)) (fun it s₂ => LoopAtV _ _ _ _ _ _ _ _ _ it s₂) _ _); refine park ?_))
  k_with "pyIter ref" => (((with_reducible show wpAny _ _ (pyIter (Value.ref _)) (fun it s₂ => LoopAtV _ _ _ _ _ _ _ _ _ it s₂) _ _); refine park ?_))
  k_with "exec While Compare cons nil" => ((k_here; refine park ?_))
  k_with "exec While Constant cons nil" => ((k_here; refine park ?_))
  k_with "ints" => (first | assumption | (repeat' (first | exact IntsAre.nil | refine IntsAre.cons _ _ ?_)))
  k_with "in256" => (first | assumption | exact in_nil | (refine in_cons ?qzia ?qzib ?qzic; (case qzia => walk_at "side"); (case qzib => walk_at "side"); (case qzic => walk_at "in256")))
  k_with "call type:bytes" => ((k_here; (with_reducible show wpAny _ _ (call (Value.type "bytes") [Value.ref _]) _ _ _); k_dflt (refine' KBa.make_K ?qzkbaF ?qzkbaN ?qzkbah ?qzkbal ?qzkbai ?qzkbar ?qzkban ?_; (case qzkbaF => k_asm); (case qzkbaN => k_asm); (case qzkbah => rfl); (case qzkbal => kba_isList); (case qzkbai => walk_at "ints"); (case qzkbar => walk_at "in256"); (case qzkban => walk_at "side")); intro _ _ _ F' N' kbaIn; (try k_sweep)))
  k_with "ps" => ((repeat' (first | exact List.forall_mem_nil _ | (refine List.forall_mem_cons.mpr ⟨by with_unfolding_all rfl, ?_⟩))))
  k_with "led" => ((repeat' (first | exact List.forall_mem_nil _ | (refine List.forall_mem_cons.mpr ⟨by k_mem, ?_⟩) | (intro p9 hp9; (repeat' (first | exact hp9 | refine List.Mem.tail _ ?_))))))
  k_with "lsize" => (first | size_fits | ((try rw [PySem.sizeLine_eq]); (simp only [List.size_toArray, Array.size_push]); (first | lia | omega)))
  k_with "call builtin:list.append" => ((k_here; (try dsimp only [List.cons_append, List.nil_append]); (with_reducible show wpAny _ _ (call (Value.builtin _) [Value.ref _, _]) _ _ _); k_dflt (refine' append_K ?qzk1 ?qzk2 ?qzk3 ?_ ?qzz; (case qzk1 => k_asm); (case qzk2 => k_asm); (case qzk3 => k_upd); (case qzz => walk_at "lsize"); k_whole); intro h' F' N'; (try k_sweep)))
  k_with "offI" => ((repeat' (first | exact List.forall_mem_nil _ | assumption | (refine List.forall_mem_cons.mpr ⟨by (refine neN ?_; (try dsimp only); (first | lia | omega)), ?_⟩))))
  k_with "bl get" => (first | (apply Fr.keep (by k_asm); assumption) | exact News.get (by k_asm) (by k_mem))
  k_with "subscriptTail" => ((k_here; (with_reducible show wpAny _ _ (subscriptTail _ _ (Value.ref _) (Value.int _ _)) _ _ _); k_dflt (refine' item_bl ?qzhl ?qzhv ?qza ?qzb ?qzz ?_; (case qzhv => with_reducible assumption); (case qzhl => walk_at "bl get"); (case qza => walk_at "side"); (case qzb => walk_at "side"); (case qzz => walk_at "side")); intro _ _))
  k_with "call builtin:len" => ((k_here; (with_reducible show wpAny _ _ (call (Value.builtin "len") [Value.ref _]) _ _ _); k_dflt (first | (refine' len_base ?qzhl ?qzF ?qzz ?_; (case qzhl => assumption); (case qzF => k_asm); (case qzz => walk_at "side")) | (refine' len_led ?qzN ?qzhm ?qzz ?_; (case qzN => k_asm); (case qzhm => k_mem); (case qzz => walk_at "side"))); intro _ _))
  k_with "binaryOp Add bytes bytes" => ((k_here; (with_reducible show wpAny _ _ (binaryOp Operator.Add (Value.bytes _ _) (Value.bytes _ _)) _ _ _); k_dflt (refine' KBy.add_bytes ?qzz ?_; (case qzz => walk_at "side")); intro _ _))
  k_with "call builtin:bytes.join" => ((k_here; (try dsimp only [List.cons_append, List.nil_append]); k_dflt (refine' join0 ?qzhl ?qzhv ?qzz ?_; (case qzhl => walk_at "bl get"); (case qzhv => walk_at "bytes are"); (case qzz => walk_at "side")); intro _ _))
  k_with "bytes are" => (first | with_reducible assumption | assumption | (repeat' (first | exact BytesAre.nil | refine BytesAre.cons ?_)))
  k_with "call builtin:bytes.split" => ((k_here; (try dsimp only [List.cons_append, List.nil_append]); k_dflt (refine' split1 ?qzF ?qzN ?qzc ?qza ?qzb ?_; (case qzF => k_asm); (case qzN => k_asm); (case qzc => rfl); (case qza => walk_at "side"); (case qzb => walk_at "side")); intro l' vs' h' k' hvs' F' N' hne'; (replace hne' := allNe_of9 hne'); (simp only [NeAll, and_true] at hne'); (try k_sweep)))
  k_with "call builtin:list.extend" => ((k_here; (with_reducible show wpAny _ _ (call (Value.builtin _) [Value.ref _, Value.ref _]) _ _ _); k_dflt (refine' ext_M ?qzF ?qzN ?qza ?qzb ?qzne ?qzU ?qzz ?_; (case qzF => k_asm); (case qzN => k_asm); (case qzb => k_mem); (case qzU => k_upd); (case qzne => walk_at "side"); (case qzz => walk_at "side"); (case qza => trivial)); intro h' F' N'; (try k_sweep)))
  k_with "subscriptTail Name Slice ref ref" => ((k_here; (with_reducible show wpAny _ _ (subscriptTail _ (PySem.Expr.Slice _ _ none _) (Value.ref _) (Value.ref _)) _ _ _); k_dflt (first
      | (refine' lslice_run (s := ⟨_, _, _, _, _⟩) ?qzF ?qzN ?qzhm ?qzhx ?qzhy ?qzhz ?_ ?qzhs ?qzht; (case qzF => k_asm); (case qzN => k_asm); (case qzhm => k_mem); (case qzhx => walk_at "side"); (case qzhy => walk_at "side"); (case qzhz => walk_at "side"); (case qzhs => with_unfolding_all rfl); (case qzht => kmk_pure))
      | (refine' lslice_to (s := ⟨_, _, _, _, _⟩) ?qzF ?qzN ?qzhm ?qzhy ?qzhz ?_ ?qzhs ?qzht; (case qzF => k_asm); (case qzN => k_asm); (case qzhm => k_mem); (case qzhy => walk_at "side"); (case qzhz => walk_at "side"); (case qzhs => with_unfolding_all rfl); (case qzht => kmk_pure))); intro D' h' F' N' l1; (try k_lt l1); (try k_sweep)))
  k_with "binaryOp LShift int int" => ((k_here; (with_reducible show wpAny _ _ (binaryOp Operator.LShift (Value.int _ _) (Value.int _ _)) _ _ _); k_dflt (refine' lshift_int_small ?qza ?qzb ?qzc ?_; (case qza => walk_at "side"); (case qzb => walk_at "side"); (case qzc => walk_at "side"))))
  k_with "binaryOp RShift int int" => ((k_here; (with_reducible show wpAny _ _ (binaryOp Operator.RShift (Value.int _ _) (Value.int _ _)) _ _ _); k_dflt (refine' rshift_int ?qza ?_; (case qza => walk_at "side"))))
  k_with "binaryOp BitAnd int int" => ((k_here; (with_reducible show wpAny _ _ (binaryOp Operator.BitAnd (Value.int _ _) (Value.int _ _)) _ _ _); k_dflt (first | (with_reducible refine and_63 ?_; intro _ _ hlo hhi) | (with_reducible refine and_255 ?_; intro _ _ hlo hhi) | (refine and_gen ?_; intro _ _ _))))
  k_with "comp range" => ((k_here; (with_reducible show wpAny _ _ (eval (PySem.Expr.ListComp _ [⟨PySem.Expr.Name _ _, _, [], _⟩] _ _) _) _ _ _); k_dflt (refine ListComp_RS (by k_asm) (by with_unfolding_all rfl) (by decide) (by rfl) (by decide) (by rfl) ?_)))
  k_with "eval ListComp" => (walk_at "comp range")
  k_with "RangeSrc" => ((refine park ?_))
  trivial
def tot64 (ns : List Int) (i : Nat) : Int := (ns.take i).foldl (fun t c => 64 * t + c) 0
theorem tot64_succ {ns : List Int} {i : Nat} {c : Int} (h : ns[i]? = some c) : tot64 ns (i + 1) = 64 * tot64 ns i + c := by
  unfold tot64
  rw [List.take_add_one, h, List.foldl_append]
  rfl
theorem tot64_lo (ns : List Int) (hr : ∀ x ∈ ns, 0 ≤ x ∧ x < 64) : ∀ i, i ≤ ns.length → 0 ≤ tot64 ns i ∧ tot64 ns i < 64 ^ i := by
  intro i
  induction i with
  | zero => intro _; exact ⟨Int.le_refl _, by show (0:Int) < 1; decide⟩
  | succ i ih =>
    intro hi
    have ih := ih (by (first | lia | omega))
    have h : ns[i]? = some ns[i] := List.getElem?_eq_getElem (by (first | lia | omega))
    have hc := hr _ (List.getElem_mem (l := ns) (n := i) (by (first | lia | omega)))
    rw [tot64_succ h, Int.pow_succ]
    (first | lia | omega)
def octWhole (ns : List Int) : Int := (tot64 ns ns.length).fdiv (2 ^ (8 - 2 * ns.length))
def groupOcts (ns : List Int) : List Int := (List.range (ns.length - 1)).map fun i => (octWhole ns).fdiv (2 ^ (8 * (ns.length - 2 - i))) % 256
abbrev POct (x : Array UInt8) (r : Value) (ad : List (Addr × Obj)) : Prop := ∃ T t1 k t2 n0, r = .ref T ∧ ad = [(T, ({ cls := .type "tuple", data := .seq #[.bytes x t1, .int k t2] n0 } : Obj))]
set_option maxHeartbeats 4000000 in
theorem c_go (w : World) (a : Addr) (vs : List Value) (n : Nat) (ns : List Int) (hv : IntsAre vs ns) (h2 : 2 ≤ ns.length) (h4 : ns.length ≤ 4) (hr : ∀ x ∈ ns, 0 ≤ x ∧ x < 64) : CtrI w 1 29 [.ref a] [(a, listOf vs.toArray n)] (POct (byteArr (groupOcts ns))) := by
  have hvl := hv.length
  refine' ctri_enterC (binds := [(Str.ofString "worth_row", .ref a)]) ?ho ?hcd ?hlv ?hb ?hl ?hc ?h1 ?h2 ?h3 ?_
  walk_at "c enterIC"
  rename_i o1 d1
  k_steps
  unfold Park
  refine' for_base (fun i ps led => ∃ (t : Tok), ps = [(Str.ofString "worth_row", .ref a), (Str.ofString "total", .int (tot64 ns i) t)] ∧ led = [(L + 1, o1)]) [(Str.ofString "worth_row", .ref a), (Str.ofString "total", .int 0 _)] [(L + 1, o1)] rfl (by assumption) (by assumption) (by k_asm) (by k_asm) ?led ?ps ?j ?turn ?done
  case ps => walk_at "ps"
  case led => walk_at "led"
  case j => exact ⟨_, rfl, rfl⟩
  case turn =>
    intro i v ps led m I oI h tk hi hv' hJ hI' F N
    obtain ⟨t, rfl, rfl⟩ := hJ
    replace hI' := ne_all (l := I) (fun q hq => Ne.symm (hI' q hq))
    simp only [NeAll, and_true] at hI'
    simp only [List.cons_append, List.nil_append] at N
    obtain ⟨x, t9, rfl, hx⟩ := hv.at _ _ hv'
    have hlo := tot64_lo ns hr i (by (first | lia | omega))
    have hxr := hr x (List.mem_of_getElem? hx)
    k_steps
    ((rename News _ _ _ _ => N9); (try simp only [List.push_toArray] at N9); refine TurnEnd.intro [(Str.ofString "worth_row", .ref a), (Str.ofString "total", .int _ _)] [(L + 1, o1)] (by k_asm) N9 (by walk_at "led") (by k_mem) (by walk_at "offI") (by walk_at "ps") ?_)
    exact ⟨_, by rw [tot64_succ hx], rfl⟩
  case done =>
    intro ps led m h tk hJ F N
    obtain ⟨t, rfl, rfl⟩ := hJ
    rw [hvl] at F
    have hlo := tot64_lo ns hr ns.length (Nat.le_refl _)
    have hgt : (tot64 ns ns.length).fdiv (2 ^ (6 * (vs.length : Int) - 8 * ((vs.length : Int) - 1)).toNat) = octWhole ns := by
      unfold octWhole; rw [show (6 * (vs.length : Int) - 8 * ((vs.length : Int) - 1)).toNat = 8 - 2 * ns.length by (first | lia | omega)]
    have hin : KBa.In (groupOcts ns) := by
      intro x hx
      unfold groupOcts at hx
      obtain ⟨i, _, rfl⟩ := List.mem_map.mp hx
      (first | lia | omega)
    have hgl : (groupOcts ns).length = ns.length - 1 := by unfold groupOcts; simp
    k_steps
    unfold Park
    refine' RangeSrc.mk' (ns.length - 1) (fun i ys news => ∃ (o : Obj) (t : Tok), o.data = .cell (some (.int (octWhole ns) t)) ∧ IntsAre ys ((List.range i).map fun i => (octWhole ns).fdiv (2 ^ (8 * (ns.length - 2 - i))) % 256) ∧ news = [(L + 1, o)]) rfl (by assumption) (by assumption) (by assumption) ?small ?size ?n ?j ?turn ?done
    case small => exact small_down (by (first | lia | omega)) (by (first | lia | omega)) (by (first | lia | omega)) (by (first | lia | omega))
    case size => rw [rangeSize_downNat]; (first | lia | omega)
    case n => (first | lia | omega)
    case j => refine' ⟨_, _, ?x, .nil, rfl⟩; case x => (rw [← hgt]; assumption)
    case turn =>
      intro i k t I oI C oC D m₂ ys news g h tk E' hi hk hJ hC hx F N off ne
      obtain ⟨o, t, do', hy, rfl⟩ := hJ
      k_steps
      refine EltEnd.intro [(L + 1, o)] (by k_asm) (by k_asm) (by walk_at "led") (by assumption) ?_
      refine ⟨_, _, do', ints_range hy ?_, rfl⟩
      rw [show (8 * k).toNat = 8 * (ns.length - 2 - i) by (first | lia | omega)]
    case done =>
      intro D ys news h tk hJ F N off
      obtain ⟨o, t, do', hy, rfl⟩ := hJ
      replace hy : IntsAre ys (groupOcts ns) := hy
      have hyl := hy.length
      k_steps
      exact CEnd.intro (ad := [_]) (by k_asm) (by k_asm) (by walk_at "led") ⟨_, _, _, _, _, rfl, rfl⟩

end
section
theorem zk_17 : True := by
  k_with_none
  k_with "side" => (first | with_reducible assumption | (first | lia | omega) | assumption | decide | ((simp (decide := true) only [Int.fdiv_eq_ediv_of_nonneg, Int.fmod_eq_emod_of_nonneg, List.size_toArray, List.length_cons, List.length_nil] at *); (first | lia | omega)))
  k_with "c enter" => (((case ho => k_is); (case hcd => k_is); (case hlv => decide); (case hb => first | exact (fun s X => BindsTo.of_eq rfl) | exact (fun s X => binds_K X rfl (by k_is) rfl rfl rfl)); (case hl => exact locs rfl); (case hc => decide); (case h1 => exact rfl); (case h2 => exact rfl); (case h3 => exact rfl); intro mean mg mb dp un gd fr s g L h₁ tk X T hd hu F N; (try dsimp only); (try k_fold)))
  k_with "c enterI" => (((case ho => k_is); (case hcd => k_is); (case hlv => decide); (case hb => first | exact (fun s X => BindsTo.of_eq rfl) | exact (fun s X => binds_K X rfl (by k_is) rfl rfl rfl)); (case hl => exact locs rfl); (case hc => decide); (case h1 => exact rfl); (case h2 => exact rfl); (case h3 => exact rfl); intro mean mg mb dp un gd fr s g L h₁ tk hI hIL X T hd hu F N; (replace hI := hI _ (List.Mem.head _)); (replace hIL := hIL _ (List.Mem.head _)); (try dsimp only at hI hIL); (try dsimp only); (try k_fold)))
  k_with "c enterC" => (((case ho => k_is); (case hcd => k_is); (case hlv => decide); (case hb => first | exact (fun s X => BindsTo.of_eq rfl) | exact (fun s X => binds_K X rfl (by k_is) rfl rfl rfl)); (case hl => exact rfl); (case hc => decide +kernel); (case h1 => exact rfl); (case h2 => exact rfl); (case h3 => exact rfl); intro mean mg mb dp un gd fr s g L h₁ tk cells X T hd hu F N Y; k_cells Y; (try simp only [List.cons_append, List.nil_append] at N); (try dsimp only); (try k_fold)))
  k_with "c enterIC" => (((case ho => k_is); (case hcd => k_is); (case hlv => decide); (case hb => first | exact (fun s X => BindsTo.of_eq rfl) | exact (fun s X => binds_K X rfl (by k_is) rfl rfl rfl)); (case hl => exact rfl); (case hc => decide +kernel); (case h1 => exact rfl); (case h2 => exact rfl); (case h3 => exact rfl); intro mean mg mb dp un gd fr s g L h₁ tk cells hI hIL X T hd hu F N Y; (replace hI := hI _ (List.Mem.head _)); (replace hIL := hIL _ (List.Mem.head _)); (try dsimp only at hI hIL); k_cells Y; (try simp only [List.cons_append, List.nil_append] at N); (try dsimp only); (try k_fold)))
  k_with "subscriptTail" => ((k_here; (with_reducible show wpAny _ _ (subscriptTail _ (Expr.Slice _ _ none _) (Value.bytes _ _) (Value.ref _)) _ _ _); (with_reducible rename Fr _ _ _ _ => F'); (with_reducible rename News _ _ _ _ => N'); k_dflt (first
      | ((with_reducible show wpAny _ _ (subscriptTail _ (Expr.Slice (some (Expr.UnaryOp _ _ _)) none none _) _ _) _ _ _); refine' slice_last (s := ⟨_, _, _, _, _⟩) F' N' ?qzz ?qze ?_; (case qze => first | rfl | decide); (case qzz => walk_at "side"); k_whole)
      | ((with_reducible show wpAny _ _ (subscriptTail _ (Expr.Slice (some _) (some _) none _) _ _) _ _ _); refine' slice_ss (s := ⟨_, _, _, _, _⟩) F' N' ?qza ?qzb ?qzz ?_; (case qza => walk_at "side"); (case qzb => walk_at "side"); (case qzz => walk_at "side"))
      | ((with_reducible show wpAny _ _ (subscriptTail _ (Expr.Slice (some _) none none _) _ _) _ _ _); refine' slice_sn (s := ⟨_, _, _, _, _⟩) F' N' ?qza ?qzz ?_; (case qza => walk_at "side"); (case qzz => walk_at "side"))
      | ((with_reducible show wpAny _ _ (subscriptTail _ (Expr.Slice none (some _) none _) _ _) _ _ _); refine' slice_ns (s := ⟨_, _, _, _, _⟩) F' N' ?qza ?qzz ?_; (case qza => walk_at "side"); (case qzz => walk_at "side"))); intro _ _ _ hcut F' N'))
  k_with "subscriptTail" => ((k_here; (with_reducible show wpAny _ _ (subscriptTail _ _ (Value.bytes _ _) (Value.int _ _)) _ _ _); k_dflt (refine' item_M ?qzz ?qza ?qzb ?_; (case qzz => walk_at "side"); (case qza => walk_at "side"); (case qzb => walk_at "side")); intro _ _ hlo hhi))
  k_with "getMethod bytes" => ((k_here; first | (with_reducible refine meth_join ?_) | (with_reducible refine meth_find ?_) | (with_reducible refine meth_split ?_) | (with_reducible refine meth_rstrip ?_)))
  k_with "call builtin:bytes.find" => ((k_here; k_dflt first | (refine' find4 ?qza ?qzb ?_; (case qza => walk_at "side"); (case qzb => walk_at "side"); intro _ _) | (refine' find3 ?qza ?_; (case qza => walk_at "side"); intro _ _)))
  k_with "call builtin:bytes.rstrip" => ((k_here; (try dsimp only [List.cons_append, List.nil_append]); k_dflt (refine' rstrip2 ?qza ?_; (case qza => walk_at "side")); intro r' t' k' hr' hrs'))
  k_with "exec For Name Name cons nil" => ((k_here; (rename Fr _ _ _ _ => lF'); (with_unfolding_all refine' For_invVF lF' ?qzk1 ?qzk2 ?_; (case qzk1 => exact rfl); (case qzk2 => exact rfl); k_whole)))
  k_with "exec For Name Call cons nil" => ((k_here; (rename Fr _ _ _ _ => lF'); (with_unfolding_all refine' For_invVF lF' ?qzk1 ?qzk2 ?_; (case qzk1 => exact rfl); (case qzk2 => exact rfl); k_whole)))
  k_with "pyIter bytes" => (((with_reducible show wpAny _ _ (pyIter (Value.bytes _ _)) (fun it s₂ => LoopAtV _ _ _ _ _ _ _ _ _ it s₂) _ _); refine park ?_))
  k_with "pyIter ref" => (((with_reducible show wpAny _ _ (pyIter (Value.ref _)) (fun it s₂ => LoopAtV _ _ _ _ _ _ _ _ _ it s₂) _ _); refine park ?_))
  k_with "exec While Compare cons nil" => ((k_here; refine park ?_))
  k_with "exec While Constant cons nil" => ((k_here; refine park ?_))
  k_with "ints" => (first | assumption | (repeat' (first | exact IntsAre.nil | refine IntsAre.cons _ _ ?_)))
  k_with "in256" => (first | assumption | exact in_nil | (refine in_cons ?qzia ?qzib ?qzic; (case qzia => walk_at "side"); (case qzib => walk_at "side"); (case qzic => walk_at "in256")))
  k_with "call type:bytes" => ((k_here; (with_reducible show wpAny _ _ (call (Value.type "bytes") [Value.ref _]) _ _ _); k_dflt (refine' KBa.make_K ?qzkbaF ?qzkbaN ?qzkbah ?qzkbal ?qzkbai ?qzkbar ?qzkban ?_; (case qzkbaF => k_asm); (case qzkbaN => k_asm); (case qzkbah => rfl); (case qzkbal => kba_isList); (case qzkbai => walk_at "ints"); (case qzkbar => walk_at "in256"); (case qzkban => walk_at "side")); intro _ _ _ F' N' kbaIn; (try k_sweep)))
  k_with "ps" => ((repeat' (first | exact List.forall_mem_nil _ | (refine List.forall_mem_cons.mpr ⟨by with_unfolding_all rfl, ?_⟩))))
  k_with "led" => ((repeat' (first | exact List.forall_mem_nil _ | (refine List.forall_mem_cons.mpr ⟨by k_mem, ?_⟩) | (intro p9 hp9; (repeat' (first | exact hp9 | refine List.Mem.tail _ ?_))))))
  k_with "lsize" => (first | size_fits | ((try rw [PySem.sizeLine_eq]); (simp only [List.size_toArray, Array.size_push]); (first | lia | omega)))
  k_with "call builtin:list.append" => ((k_here; (try dsimp only [List.cons_append, List.nil_append]); (with_reducible show wpAny _ _ (call (Value.builtin _) [Value.ref _, _]) _ _ _); k_dflt (refine' append_K ?qzk1 ?qzk2 ?qzk3 ?_ ?qzz; (case qzk1 => k_asm); (case qzk2 => k_asm); (case qzk3 => k_upd); (case qzz => walk_at "lsize"); k_whole); intro h' F' N'; (try k_sweep)))
  k_with "offI" => ((repeat' (first | exact List.forall_mem_nil _ | assumption | (refine List.forall_mem_cons.mpr ⟨by (refine neN ?_; (try dsimp only); (first | lia | omega)), ?_⟩))))
  k_with "bl get" => (first | (apply Fr.keep (by k_asm); assumption) | exact News.get (by k_asm) (by k_mem))
  k_with "subscriptTail" => ((k_here; (with_reducible show wpAny _ _ (subscriptTail _ _ (Value.ref _) (Value.int _ _)) _ _ _); k_dflt (refine' item_bl ?qzhl ?qzhv ?qza ?qzb ?qzz ?_; (case qzhv => with_reducible assumption); (case qzhl => walk_at "bl get"); (case qza => walk_at "side"); (case qzb => walk_at "side"); (case qzz => walk_at "side")); intro _ _))
  k_with "call builtin:len" => ((k_here; (with_reducible show wpAny _ _ (call (Value.builtin "len") [Value.ref _]) _ _ _); k_dflt (first | (refine' len_base ?qzhl ?qzF ?qzz ?_; (case qzhl => assumption); (case qzF => k_asm); (case qzz => walk_at "side")) | (refine' len_led ?qzN ?qzhm ?qzz ?_; (case qzN => k_asm); (case qzhm => k_mem); (case qzz => walk_at "side"))); intro _ _))
  k_with "binaryOp Add bytes bytes" => ((k_here; (with_reducible show wpAny _ _ (binaryOp Operator.Add (Value.bytes _ _) (Value.bytes _ _)) _ _ _); k_dflt (refine' KBy.add_bytes ?qzz ?_; (case qzz => walk_at "side")); intro _ _))
  k_with "call builtin:bytes.join" => ((k_here; (try dsimp only [List.cons_append, List.nil_append]); k_dflt (refine' join0 ?qzhl ?qzhv ?qzz ?_; (case qzhl => walk_at "bl get"); (case qzhv => walk_at "bytes are"); (case qzz => walk_at "side")); intro _ _))
  k_with "bytes are" => (first | with_reducible assumption | assumption | (repeat' (first | exact BytesAre.nil | refine BytesAre.cons ?_)))
  k_with "call builtin:bytes.split" => ((k_here; (try dsimp only [List.cons_append, List.nil_append]); k_dflt (refine' split1 ?qzF ?qzN ?qzc ?qza ?qzb ?_; (case qzF => k_asm); (case qzN => k_asm); (case qzc => rfl); (case qza => walk_at "side"); (case qzb => walk_at "side")); intro l' vs' h' k' hvs' F' N' hne'; (replace hne' := allNe_of9 hne'); (simp only [NeAll, and_true] at hne'); (try k_sweep)))
  k_with "call builtin:list.extend" => ((k_here; (with_reducible show wpAny _ _ (call (Value.builtin _) [Value.ref _, Value.ref _]) _ _ _); k_dflt (refine' ext_M ?qzF ?qzN ?qza ?qzb ?qzne ?qzU ?qzz ?_; (case qzF => k_asm); (case qzN => k_asm); (case qzb => k_mem); (case qzU => k_upd); (case qzne => walk_at "side"); (case qzz => walk_at "side"); (case qza => trivial)); intro h' F' N'; (try k_sweep)))
  k_with "subscriptTail Name Slice ref ref" => ((k_here; (with_reducible show wpAny _ _ (subscriptTail _ (PySem.Expr.Slice _ _ none _) (Value.ref _) (Value.ref _)) _ _ _); k_dflt (first
      | (refine' lslice_run (s := ⟨_, _, _, _, _⟩) ?qzF ?qzN ?qzhm ?qzhx ?qzhy ?qzhz ?_ ?qzhs ?qzht; (case qzF => k_asm); (case qzN => k_asm); (case qzhm => k_mem); (case qzhx => walk_at "side"); (case qzhy => walk_at "side"); (case qzhz => walk_at "side"); (case qzhs => with_unfolding_all rfl); (case qzht => kmk_pure))
      | (refine' lslice_to (s := ⟨_, _, _, _, _⟩) ?qzF ?qzN ?qzhm ?qzhy ?qzhz ?_ ?qzhs ?qzht; (case qzF => k_asm); (case qzN => k_asm); (case qzhm => k_mem); (case qzhy => walk_at "side"); (case qzhz => walk_at "side"); (case qzhs => with_unfolding_all rfl); (case qzht => kmk_pure))); intro D' h' F' N' l1; (try k_lt l1); (try k_sweep)))
  k_with "binaryOp LShift int int" => ((k_here; (with_reducible show wpAny _ _ (binaryOp Operator.LShift (Value.int _ _) (Value.int _ _)) _ _ _); k_dflt (refine' lshift_int_small ?qza ?qzb ?qzc ?_; (case qza => walk_at "side"); (case qzb => walk_at "side"); (case qzc => walk_at "side"))))
  k_with "binaryOp RShift int int" => ((k_here; (with_reducible show wpAny _ _ (binaryOp Operator.RShift (Value.int _ _) (Value.int _ _)) _ _ _); k_dflt (refine' rshift_int ?qza ?_; (case qza => walk_at "side"))))
  k_with "binaryOp BitAnd int int" => ((k_here; (with_reducible show wpAny _ _ (binaryOp Operator.BitAnd (Value.int _ _) (Value.int _ _)) _ _ _); k_dflt (first | (with_reducible refine and_63 ?_; intro _ _ hlo hhi) | (with_reducible refine and_255 ?_; intro _ _ hlo hhi) | (refine and_gen ?_; intro _ _ _))))
  k_with "comp range" => ((k_here; (with_reducible show wpAny _ _ (eval (PySem.Expr.ListComp _ [⟨PySem.Expr.Name _ _, _, [], _⟩] _ _) _) _ _ _); k_dflt (refine ListComp_RS (by k_asm) (by with_unfolding_all rfl) (by decide) (by rfl) (by decide) (by rfl) ?_)))
  k_with "eval ListComp" => (walk_at "comp range")
  k_with "RangeSrc" => ((refine park ?_))
  k_with "call ref" => ((k_here; (with_reducible show wpAny _ _ (call (Value.ref 24) _) _ _ _); k_dflt (refine' use_il (c_gc _ _ _ _ _ ?qza ?qzb ?qzc) ?qzX ?qzT ?qzF ?qzN ?qzd ?qzu ?_; (case qza => walk_at "side"); (case qzb => walk_at "side"); (case qzc => walk_at "side"); (case qzX => k_asm); (case qzT => k_asm); (case qzF => k_asm); (case qzN => k_asm); (case qzd => (first | lia | omega)); (case qzu => (first | lia | omega)); intro l' vs' n' h' tk' hvs' F' N' hne'; (have hlen' := IntsAre.length hvs'); (try simp only [List.length_cons, List.length_nil] at hlen'); (replace hne' := ne_all hne'); (simp only [NeAll, and_true] at hne'); (try k_sweep))))
  trivial
def partCodes (b a : Array UInt8) (k : Nat) : List Int := (List.range k).flatMap fun (i : Nat) => groupCodes (cut b (3 * i) (3 * i + 3)) a
theorem groupCodes_le (b a : Array UInt8) : (groupCodes b a).length = b.size + 1 := by unfold groupCodes; simp
theorem cut3_le (b : Array UInt8) (i : Nat) : (cut b (3 * i) (3 * i + 3)).size ≤ 3 := by unfold cut; simp; (first | lia | omega)
theorem partCodes_succ (b a : Array UInt8) (k : Nat) : partCodes b a (k + 1) = partCodes b a k ++ groupCodes (cut b (3 * k) (3 * k + 3)) a := by
  unfold partCodes
  rw [List.range_succ, List.flatMap_append]
  simp
theorem partCodes_le (b a : Array UInt8) (k : Nat) : (partCodes b a k).length ≤ 4 * k := by
  induction k with
  | zero => exact Nat.le_refl _
  | succ k ih =>
    rw [partCodes_succ, List.length_append, groupCodes_le]
    have := cut3_le b k
    (first | lia | omega)
theorem groupCodes_in (b a : Array UInt8) : KBa.In (groupCodes b a) := by
  intro x hx
  unfold groupCodes at hx
  obtain ⟨i, _, rfl⟩ := List.mem_map.mp hx
  exact ⟨at_lo _ _, at_hi _ _⟩
theorem partCodes_in (b a : Array UInt8) (k : Nat) : KBa.In (partCodes b a k) := by
  intro x hx
  unfold partCodes at hx
  obtain ⟨i, _, h⟩ := List.mem_flatMap.mp hx
  exact groupCodes_in _ _ x h
set_option maxHeartbeats 4000000 in
theorem c_part (w : World) (b a : Array UInt8) (tb ta : Tok) (hb : b.size ≤ 24) (ha : a.size = 64) : Ctr w 2 36 [.bytes b tb, .bytes a ta] (PBytes (byteArr (partCodes b a ((b.size + 2) / 3)))) := by
  refine' ctr_enter (binds := [(Str.ofString "octets", .bytes b tb), (Str.ofString "alphabet", .bytes a ta)]) ?ho ?hcd ?hlv ?hb ?hl ?hc ?h1 ?h2 ?h3 ?_
  walk_at "c enter"
  k_steps
  unfold Park
  refine' for_range (n := (b.size + 2) / 3) (fun i ps led => ∃ o ws k, IntsAre ws (partCodes b a i) ∧ ps = [(Str.ofString "octets", .bytes b tb), (Str.ofString "alphabet", .bytes a ta), (Str.ofString "codes", .ref o)] ∧ led = [(o, listOf ws.toArray k)]) [(Str.ofString "octets", .bytes b tb), (Str.ofString "alphabet", .bytes a ta), (Str.ofString "codes", .ref _)] [(_, _)] rfl (by assumption) ?small ?size (by k_asm) (by k_asm) ?led ?ps ?j ?turn ?done
  case ps => walk_at "ps"
  case led => walk_at "led"
  case small => exact small_3 (by (first | lia | omega)) (by (first | lia | omega))
  case size => (rw [rangeSize_pos (by decide) (by (first | lia | omega))]; (first | lia | omega))
  case j => exact ⟨_, _, _, .nil, rfl, rfl⟩
  case turn =>
    intro i k u ps led m I oI h tk hi hk hJ hI F N
    obtain ⟨o, ws, n, hw, rfl, rfl⟩ := hJ
    replace hI := ne_all (l := I) (fun q hq => Ne.symm (hI q hq))
    simp only [NeAll, and_true] at hI
    simp only [List.cons_append, List.nil_append] at N
    have hcs : (cut b k (k + 3)).size = min 3 (b.size - 3 * i) := by
      unfold cut
      have hl : b.toList.length = b.size := Array.length_toList
      rw [List.size_toArray, List.length_take, List.length_drop, hl]
      (first | lia | omega)
    have hwl := hw.length
    have hpl := partCodes_le b a i
    have hgl := groupCodes_le (cut b k (k + 3)) a
    k_steps
    ((rename News _ _ _ _ => N9); (try simp only [List.push_toArray] at N9); refine TurnEnd.intro [(Str.ofString "octets", .bytes b tb), (Str.ofString "alphabet", .bytes a ta), (Str.ofString "codes", .ref o)] [(o, _)] (by k_asm) N9 (by walk_at "led") (by k_mem) (by walk_at "offI") (by walk_at "ps") ?_)
    refine ⟨o, _, _, ?_, rfl, rfl⟩
    rw [partCodes_succ, show (3 * (i : Int)) = k by (first | lia | omega)]
    exact hw.append (by assumption)
  case done =>
    intro ps led m h tk hJ F N
    obtain ⟨o, ws, k, hw, rfl, rfl⟩ := hJ
    have hwl := hw.length
    have hpl := partCodes_le b a ((b.size + 2) / 3)
    have hin := partCodes_in b a ((b.size + 2) / 3)
    k_steps
    exact CEnd.flat (by k_asm) (pbytes rfl)

end
section
theorem zk_18 : True := by
  k_with_none
  k_with "side" => (first | with_reducible assumption | (first | lia | omega) | assumption | decide | ((simp (decide := true) only [Int.fdiv_eq_ediv_of_nonneg, Int.fmod_eq_emod_of_nonneg, List.size_toArray, List.length_cons, List.length_nil] at *); (first | lia | omega)))
  k_with "c enter" => (((case ho => k_is); (case hcd => k_is); (case hlv => decide); (case hb => first | exact (fun s X => BindsTo.of_eq rfl) | exact (fun s X => binds_K X rfl (by k_is) rfl rfl rfl)); (case hl => exact locs rfl); (case hc => decide); (case h1 => exact rfl); (case h2 => exact rfl); (case h3 => exact rfl); intro mean mg mb dp un gd fr s g L h₁ tk X T hd hu F N; (try dsimp only); (try k_fold)))
  k_with "c enterI" => (((case ho => k_is); (case hcd => k_is); (case hlv => decide); (case hb => first | exact (fun s X => BindsTo.of_eq rfl) | exact (fun s X => binds_K X rfl (by k_is) rfl rfl rfl)); (case hl => exact locs rfl); (case hc => decide); (case h1 => exact rfl); (case h2 => exact rfl); (case h3 => exact rfl); intro mean mg mb dp un gd fr s g L h₁ tk hI hIL X T hd hu F N; (replace hI := hI _ (List.Mem.head _)); (replace hIL := hIL _ (List.Mem.head _)); (try dsimp only at hI hIL); (try dsimp only); (try k_fold)))
  k_with "c enterC" => (((case ho => k_is); (case hcd => k_is); (case hlv => decide); (case hb => first | exact (fun s X => BindsTo.of_eq rfl) | exact (fun s X => binds_K X rfl (by k_is) rfl rfl rfl)); (case hl => exact rfl); (case hc => decide +kernel); (case h1 => exact rfl); (case h2 => exact rfl); (case h3 => exact rfl); intro mean mg mb dp un gd fr s g L h₁ tk cells X T hd hu F N Y; k_cells Y; (try simp only [List.cons_append, List.nil_append] at N); (try dsimp only); (try k_fold)))
  k_with "c enterIC" => (((case ho => k_is); (case hcd => k_is); (case hlv => decide); (case hb => first | exact (fun s X => BindsTo.of_eq rfl) | exact (fun s X => binds_K X rfl (by k_is) rfl rfl rfl)); (case hl => exact rfl); (case hc => decide +kernel); (case h1 => exact rfl); (case h2 => exact rfl); (case h3 => exact rfl); intro mean mg mb dp un gd fr s g L h₁ tk cells hI hIL X T hd hu F N Y; (replace hI := hI _ (List.Mem.head _)); (replace hIL := hIL _ (List.Mem.head _)); (try dsimp only at hI hIL); k_cells Y; (try simp only [List.cons_append, List.nil_append] at N); (try dsimp only); (try k_fold)))
  k_with "subscriptTail" => ((k_here; (with_reducible show wpAny _ _ (subscriptTail _ (Expr.Slice _ _ none _) (Value.bytes _ _) (Value.ref _)) _ _ _); (with_reducible rename Fr _ _ _ _ => F'); (with_reducible rename News _ _ _ _ => N'); k_dflt (first
      | ((with_reducible show wpAny _ _ (subscriptTail _ (Expr.Slice (some (Expr.UnaryOp _ _ _)) none none _) _ _) _ _ _); refine' slice_last (s := ⟨_, _, _, _, _⟩) F' N' ?qzz ?qze ?_; (case qze => first | rfl | decide); (case qzz => walk_at "side"); k_whole)
      | ((with_reducible show wpAny _ _ (subscriptTail _ (Expr.Slice (some _) (some _) none _) _ _) _ _ _); refine' slice_ss (s := ⟨_, _, _, _, _⟩) F' N' ?qza ?qzb ?qzz ?_; (case qza => walk_at "side"); (case qzb => walk_at "side"); (case qzz => walk_at "side"))
      | ((with_reducible show wpAny _ _ (subscriptTail _ (Expr.Slice (some _) none none _) _ _) _ _ _); refine' slice_sn (s := ⟨_, _, _, _, _⟩) F' N' ?qza ?qzz ?_; (case qza => walk_at "side"); (case qzz => walk_at "side"))
      | ((with_reducible show wpAny _ _ (subscriptTail _ (Expr.Slice none (some _) none _) _ _) _ _ _); refine' slice_ns (s := ⟨_, _, _, _, _⟩) F' N' ?qza ?qzz ?_; (case qza => walk_at "side"); (case qzz => walk_at "side"))); intro _ _ _ hcut F' N'))
  k_with "subscriptTail" => ((k_here; (with_reducible show wpAny _ _ (subscriptTail _ _ (Value.bytes _ _) (Value.int _ _)) _ _ _); k_dflt (refine' item_M ?qzz ?qza ?qzb ?_; (case qzz => walk_at "side"); (case qza => walk_at "side"); (case qzb => walk_at "side")); intro _ _ hlo hhi))
  k_with "getMethod bytes" => ((k_here; first | (with_reducible refine meth_join ?_) | (with_reducible refine meth_find ?_) | (with_reducible refine meth_split ?_) | (with_reducible refine meth_rstrip ?_)))
  k_with "call builtin:bytes.find" => ((k_here; k_dflt first | (refine' find4 ?qza ?qzb ?_; (case qza => walk_at "side"); (case qzb => walk_at "side"); intro _ _) | (refine' find3 ?qza ?_; (case qza => walk_at "side"); intro _ _)))
  k_with "call builtin:bytes.rstrip" => ((k_here; (try dsimp only [List.cons_append, List.nil_append]); k_dflt (refine' rstrip2 ?qza ?_; (case qza => walk_at "side")); intro r' t' k' hr' hrs'))
  k_with "exec For Name Name cons nil" => ((k_here; (rename Fr _ _ _ _ => lF'); (with_unfolding_all refine' For_invVF lF' ?qzk1 ?qzk2 ?_; (case qzk1 => exact rfl); (case qzk2 => exact rfl); k_whole)))
  k_with "exec For Name Call cons nil" => ((k_here; (rename Fr _ _ _ _ => lF'); (with_unfolding_all refine' For_invVF lF' ?qzk1 ?qzk2 ?_; (case qzk1 => exact rfl); (case qzk2 => exact rfl); k_whole)))
  k_with "pyIter bytes" => (((with_reducible show wpAny _ _ (pyIter (Value.bytes _ _)) (fun it s₂ => LoopAtV _ _ _ _ _ _ _ _ _ it s₂) _ _); refine park ?_))
  k_with "pyIter ref" => (((with_reducible show wpAny _ _ (pyIter (Value.ref _)) (fun it s₂ => LoopAtV _ _ _ _ _ _ _ _ _ it s₂) _ _); refine park ?_))
  k_with "exec While Compare cons nil" => ((k_here; refine park ?_))
  k_with "exec While Constant cons nil" => ((k_here; refine park ?_))
  k_with "ints" => (first | assumption | (repeat' (first | exact IntsAre.nil | refine IntsAre.cons _ _ ?_)))
  k_with "in256" => (first | assumption | exact in_nil | (refine in_cons ?qzia ?qzib ?qzic; (case qzia => walk_at "side"); (case qzib => walk_at "side"); (case qzic => walk_at "in256")))
  k_with "call type:bytes" => ((k_here; (with_reducible show wpAny _ _ (call (Value.type "bytes") [Value.ref _]) _ _ _); k_dflt (refine' KBa.make_K ?qzkbaF ?qzkbaN ?qzkbah ?qzkbal ?qzkbai ?qzkbar ?qzkban ?_; (case qzkbaF => k_asm); (case qzkbaN => k_asm); (case qzkbah => rfl); (case qzkbal => kba_isList); (case qzkbai => walk_at "ints"); (case qzkbar => walk_at "in256"); (case qzkban => walk_at "side")); intro _ _ _ F' N' kbaIn; (try k_sweep)))
  k_with "ps" => ((repeat' (first | exact List.forall_mem_nil _ | (refine List.forall_mem_cons.mpr ⟨by with_unfolding_all rfl, ?_⟩))))
  k_with "led" => ((repeat' (first | exact List.forall_mem_nil _ | (refine List.forall_mem_cons.mpr ⟨by k_mem, ?_⟩) | (intro p9 hp9; (repeat' (first | exact hp9 | refine List.Mem.tail _ ?_))))))
  k_with "lsize" => (first | size_fits | ((try rw [PySem.sizeLine_eq]); (simp only [List.size_toArray, Array.size_push]); (first | lia | omega)))
  k_with "call builtin:list.append" => ((k_here; (try dsimp only [List.cons_append, List.nil_append]); (with_reducible show wpAny _ _ (call (Value.builtin _) [Value.ref _, _]) _ _ _); k_dflt (refine' append_K ?qzk1 ?qzk2 ?qzk3 ?_ ?qzz; (case qzk1 => k_asm); (case qzk2 => k_asm); (case qzk3 => k_upd); (case qzz => walk_at "lsize"); k_whole); intro h' F' N'; (try k_sweep)))
  k_with "offI" => ((repeat' (first | exact List.forall_mem_nil _ | assumption | (refine List.forall_mem_cons.mpr ⟨by (refine neN ?_; (try dsimp only); (first | lia | omega)), ?_⟩))))
  k_with "bl get" => (first | (apply Fr.keep (by k_asm); assumption) | exact News.get (by k_asm) (by k_mem))
  k_with "subscriptTail" => ((k_here; (with_reducible show wpAny _ _ (subscriptTail _ _ (Value.ref _) (Value.int _ _)) _ _ _); k_dflt (refine' item_bl ?qzhl ?qzhv ?qza ?qzb ?qzz ?_; (case qzhv => with_reducible assumption); (case qzhl => walk_at "bl get"); (case qza => walk_at "side"); (case qzb => walk_at "side"); (case qzz => walk_at "side")); intro _ _))
  k_with "call builtin:len" => ((k_here; (with_reducible show wpAny _ _ (call (Value.builtin "len") [Value.ref _]) _ _ _); k_dflt (first | (refine' len_base ?qzhl ?qzF ?qzz ?_; (case qzhl => assumption); (case qzF => k_asm); (case qzz => walk_at "side")) | (refine' len_led ?qzN ?qzhm ?qzz ?_; (case qzN => k_asm); (case qzhm => k_mem); (case qzz => walk_at "side"))); intro _ _))
  k_with "binaryOp Add bytes bytes" => ((k_here; (with_reducible show wpAny _ _ (binaryOp Operator.Add (Value.bytes _ _) (Value.bytes _ _)) _ _ _); k_dflt (refine' KBy.add_bytes ?qzz ?_; (case qzz => walk_at "side")); intro _ _))
  k_with "call builtin:bytes.join" => ((k_here; (try dsimp only [List.cons_append, List.nil_append]); k_dflt (refine' join0 ?qzhl ?qzhv ?qzz ?_; (case qzhl => walk_at "bl get"); (case qzhv => walk_at "bytes are"); (case qzz => walk_at "side")); intro _ _))
  k_with "bytes are" => (first | with_reducible assumption | assumption | (repeat' (first | exact BytesAre.nil | refine BytesAre.cons ?_)))
  k_with "call builtin:bytes.split" => ((k_here; (try dsimp only [List.cons_append, List.nil_append]); k_dflt (refine' split1 ?qzF ?qzN ?qzc ?qza ?qzb ?_; (case qzF => k_asm); (case qzN => k_asm); (case qzc => rfl); (case qza => walk_at "side"); (case qzb => walk_at "side")); intro l' vs' h' k' hvs' F' N' hne'; (replace hne' := allNe_of9 hne'); (simp only [NeAll, and_true] at hne'); (try k_sweep)))
  k_with "call builtin:list.extend" => ((k_here; (with_reducible show wpAny _ _ (call (Value.builtin _) [Value.ref _, Value.ref _]) _ _ _); k_dflt (refine' ext_M ?qzF ?qzN ?qza ?qzb ?qzne ?qzU ?qzz ?_; (case qzF => k_asm); (case qzN => k_asm); (case qzb => k_mem); (case qzU => k_upd); (case qzne => walk_at "side"); (case qzz => walk_at "side"); (case qza => trivial)); intro h' F' N'; (try k_sweep)))
  k_with "subscriptTail Name Slice ref ref" => ((k_here; (with_reducible show wpAny _ _ (subscriptTail _ (PySem.Expr.Slice _ _ none _) (Value.ref _) (Value.ref _)) _ _ _); k_dflt (first
      | (refine' lslice_run (s := ⟨_, _, _, _, _⟩) ?qzF ?qzN ?qzhm ?qzhx ?qzhy ?qzhz ?_ ?qzhs ?qzht; (case qzF => k_asm); (case qzN => k_asm); (case qzhm => k_mem); (case qzhx => walk_at "side"); (case qzhy => walk_at "side"); (case qzhz => walk_at "side"); (case qzhs => with_unfolding_all rfl); (case qzht => kmk_pure))
      | (refine' lslice_to (s := ⟨_, _, _, _, _⟩) ?qzF ?qzN ?qzhm ?qzhy ?qzhz ?_ ?qzhs ?qzht; (case qzF => k_asm); (case qzN => k_asm); (case qzhm => k_mem); (case qzhy => walk_at "side"); (case qzhz => walk_at "side"); (case qzhs => with_unfolding_all rfl); (case qzht => kmk_pure))); intro D' h' F' N' l1; (try k_lt l1); (try k_sweep)))
  k_with "binaryOp LShift int int" => ((k_here; (with_reducible show wpAny _ _ (binaryOp Operator.LShift (Value.int _ _) (Value.int _ _)) _ _ _); k_dflt (refine' lshift_int_small ?qza ?qzb ?qzc ?_; (case qza => walk_at "side"); (case qzb => walk_at "side"); (case qzc => walk_at "side"))))
  k_with "binaryOp RShift int int" => ((k_here; (with_reducible show wpAny _ _ (binaryOp Operator.RShift (Value.int _ _) (Value.int _ _)) _ _ _); k_dflt (refine' rshift_int ?qza ?_; (case qza => walk_at "side"))))
  k_with "binaryOp BitAnd int int" => ((k_here; (with_reducible show wpAny _ _ (binaryOp Operator.BitAnd (Value.int _ _) (Value.int _ _)) _ _ _); k_dflt (first | (with_reducible refine and_63 ?_; intro _ _ hlo hhi) | (with_reducible refine and_255 ?_; intro _ _ hlo hhi) | (refine and_gen ?_; intro _ _ _))))
  k_with "comp range" => ((k_here; (with_reducible show wpAny _ _ (eval (PySem.Expr.ListComp _ [⟨PySem.Expr.Name _ _, _, [], _⟩] _ _) _) _ _ _); k_dflt (refine ListComp_RS (by k_asm) (by with_unfolding_all rfl) (by decide) (by rfl) (by decide) (by rfl) ?_)))
  k_with "eval ListComp" => (walk_at "comp range")
  k_with "RangeSrc" => ((refine park ?_))
  k_with "call ref" => ((k_here; (with_reducible show wpAny _ _ (call (Value.ref 36) _) _ _ _); k_dflt (refine' use_bytes (c_part _ _ _ _ _ ?qza ?qzb) ?qzX ?qzT ?qzF ?qzN ?qzd ?qzu ?_; (case qza => walk_at "side"); (case qzb => walk_at "side"); (case qzX => k_asm); (case qzT => k_asm); (case qzF => k_asm); (case qzN => k_asm); (case qzd => (first | lia | omega)); (case qzu => (first | lia | omega)); intro t' h' tk' F' N'; (try k_sweep))))
  trivial
def signs64 : Array UInt8 := #[65, 66, 67, 68, 69, 70, 71, 72, 73, 74, 75, 76, 77, 78, 79, 80, 81, 82, 83, 84, 85, 86, 87, 88, 89, 90, 97, 98, 99, 100, 101, 102, 103, 104, 105, 106, 107, 108, 109, 110, 111, 112, 113, 114, 115, 116, 117, 118, 119, 120, 121, 122, 48, 49, 50, 51, 52, 53, 54, 55, 56, 57, 43, 47]
def padOf (b : Array UInt8) : List Int := (List.replicate ((-(b.size : Int)).fmod 3).toNat [(61 : Int)]).flatten
theorem padOf_eq (b : Array UInt8) : padOf b = List.replicate ((3 - b.size % 3) % 3) 61 := by
  have h : ((-(b.size : Int)).fmod 3).toNat = (3 - b.size % 3) % 3 := by
    rw [Int.fmod_eq_emod_of_nonneg _ (by decide)]; (first | lia | omega)
  unfold padOf
  rw [h]
  generalize (3 - b.size % 3) % 3 = n
  induction n with
  | zero => rfl
  | succ n ih => rw [List.replicate_succ, List.flatten_cons, ih, List.replicate_succ]; rfl
theorem padOf_in (b : Array UInt8) : KBa.In (padOf b) := by
  rw [padOf_eq]
  intro x hx
  rw [List.eq_of_mem_replicate hx]
  decide
def oneOf (b : Array UInt8) : Array UInt8 := byteArr (partCodes b signs64 ((b.size + 2) / 3)) ++ byteArr (padOf b)
theorem byteArr_size (ns : List Int) : (byteArr ns).size = ns.length := by unfold byteArr; simp
theorem one_size1 (b : Array UInt8) (hb : b.size ≤ 24) : (byteArr (partCodes b signs64 ((b.size + 2) / 3))).size ≤ 32 := by
  rw [byteArr_size]
  have := partCodes_le b signs64 ((b.size + 2) / 3)
  (first | lia | omega)
theorem one_size2 (b : Array UInt8) : (byteArr (padOf b)).size ≤ 2 := by
  rw [byteArr_size, padOf_eq, List.length_replicate]
  (first | lia | omega)
theorem one_size (b : Array UInt8) (hb : b.size ≤ 24) : (oneOf b).size ≤ 34 := by
  have h1 := one_size1 b hb
  have h2 := one_size2 b
  unfold oneOf
  rw [Array.size_append]
  (first | lia | omega)
set_option maxHeartbeats 4000000 in
theorem c_one (w : World) (b : Array UInt8) (tb : Tok) (hb : b.size ≤ 24) : Ctr w 3 43 [.bytes b tb] (PBytes (oneOf b)) := by
  have hin : KBa.In (List.replicate ((-(b.size : Int)).fmod 3).toNat [(61 : Int)]).flatten := padOf_in b
  have hf3 : (-(b.size : Int)).fmod 3 < 3 ∧ 0 ≤ (-(b.size : Int)).fmod 3 := by rw [Int.fmod_eq_emod_of_nonneg _ (by decide)]; (first | lia | omega)
  have hz1 := one_size1 b hb
  have hz2 := one_size2 b
  unfold signs64 at hz1
  unfold padOf at hz2
  refine' ctr_enter (binds := [(Str.ofString "octets", .bytes b tb)]) ?ho ?hcd ?hlv ?hb ?hl ?hc ?h1 ?h2 ?h3 ?_
  walk_at "c enter"
  k_steps
  exact CEnd.flat (by k_asm) (pbytes rfl)

end
section
theorem zk_19 : True := by
  k_with_none
  k_with "side" => (first | with_reducible assumption | (first | lia | omega) | assumption | decide | ((simp (decide := true) only [Int.fdiv_eq_ediv_of_nonneg, Int.fmod_eq_emod_of_nonneg, List.size_toArray, List.length_cons, List.length_nil] at *); (first | lia | omega)))
  k_with "c enter" => (((case ho => k_is); (case hcd => k_is); (case hlv => decide); (case hb => first | exact (fun s X => BindsTo.of_eq rfl) | exact (fun s X => binds_K X rfl (by k_is) rfl rfl rfl)); (case hl => exact locs rfl); (case hc => decide); (case h1 => exact rfl); (case h2 => exact rfl); (case h3 => exact rfl); intro mean mg mb dp un gd fr s g L h₁ tk X T hd hu F N; (try dsimp only); (try k_fold)))
  k_with "c enterI" => (((case ho => k_is); (case hcd => k_is); (case hlv => decide); (case hb => first | exact (fun s X => BindsTo.of_eq rfl) | exact (fun s X => binds_K X rfl (by k_is) rfl rfl rfl)); (case hl => exact locs rfl); (case hc => decide); (case h1 => exact rfl); (case h2 => exact rfl); (case h3 => exact rfl); intro mean mg mb dp un gd fr s g L h₁ tk hI hIL X T hd hu F N; (replace hI := hI _ (List.Mem.head _)); (replace hIL := hIL _ (List.Mem.head _)); (try dsimp only at hI hIL); (try dsimp only); (try k_fold)))
  k_with "c enterC" => (((case ho => k_is); (case hcd => k_is); (case hlv => decide); (case hb => first | exact (fun s X => BindsTo.of_eq rfl) | exact (fun s X => binds_K X rfl (by k_is) rfl rfl rfl)); (case hl => exact rfl); (case hc => decide +kernel); (case h1 => exact rfl); (case h2 => exact rfl); (case h3 => exact rfl); intro mean mg mb dp un gd fr s g L h₁ tk cells X T hd hu F N Y; k_cells Y; (try simp only [List.cons_append, List.nil_append] at N); (try dsimp only); (try k_fold)))
  k_with "c enterIC" => (((case ho => k_is); (case hcd => k_is); (case hlv => decide); (case hb => first | exact (fun s X => BindsTo.of_eq rfl) | exact (fun s X => binds_K X rfl (by k_is) rfl rfl rfl)); (case hl => exact rfl); (case hc => decide +kernel); (case h1 => exact rfl); (case h2 => exact rfl); (case h3 => exact rfl); intro mean mg mb dp un gd fr s g L h₁ tk cells hI hIL X T hd hu F N Y; (replace hI := hI _ (List.Mem.head _)); (replace hIL := hIL _ (List.Mem.head _)); (try dsimp only at hI hIL); k_cells Y; (try simp only [List.cons_append, List.nil_append] at N); (try dsimp only); (try k_fold)))
  k_with "subscriptTail" => ((k_here; (with_reducible show wpAny _ _ (subscriptTail _ (Expr.Slice _ _ none _) (Value.bytes _ _) (Value.ref _)) _ _ _); (with_reducible rename Fr _ _ _ _ => F'); (with_reducible rename News _ _ _ _ => N'); k_dflt (first
      | ((with_reducible show wpAny _ _ (subscriptTail _ (Expr.Slice (some (Expr.UnaryOp _ _ _)) none none _) _ _) _ _ _); refine' slice_last (s := ⟨_, _, _, _, _⟩) F' N' ?qzz ?qze ?_; (case qze => first | rfl | decide); (case qzz => walk_at "side"); k_whole)
      | ((with_reducible show wpAny _ _ (subscriptTail _ (Expr.Slice (some _) (some _) none _) _ _) _ _ _); refine' slice_ss (s := ⟨_, _, _, _, _⟩) F' N' ?qza ?qzb ?qzz ?_; (case qza => walk_at "side"); (case qzb => walk_at "side"); (case qzz => walk_at "side"))
      | ((with_reducible show wpAny _ _ (subscriptTail _ (Expr.Slice (some _) none none _) _ _) _ _ _); refine' slice_sn (s := ⟨_, _, _, _, _⟩) F' N' ?qza ?qzz ?_; (case qza => walk_at "side"); (case qzz => walk_at "side"))
      | ((with_reducible show wpAny _ _ (subscriptTail _ (Expr.Slice none (some _) none _) _ _) _ _ _); refine' slice_ns (s := ⟨_, _, _, _, _⟩) F' N' ?qza ?qzz ?_; (case qza => walk_at "side"); (case qzz => walk_at "side"))); intro _ _ _ hcut F' N'))
  k_with "subscriptTail" => ((k_here; (with_reducible show wpAny _ _ (subscriptTail _ _ (Value.bytes _ _) (Value.int _ _)) _ _ _); k_dflt (refine' item_M ?qzz ?qza ?qzb ?_; (case qzz => walk_at "side"); (case qza => walk_at "side"); (case qzb => walk_at "side")); intro _ _ hlo hhi))
  k_with "getMethod bytes" => ((k_here; first | (with_reducible refine meth_join ?_) | (with_reducible refine meth_find ?_) | (with_reducible refine meth_split ?_) | (with_reducible refine meth_rstrip ?_)))
  k_with "call builtin:bytes.find" => ((k_here; k_dflt first | (refine' find4 ?qza ?qzb ?_; (case qza => walk_at "side"); (case qzb => walk_at "side"); intro _ _) | (refine' find3 ?qza ?_; (case qza => walk_at "side"); intro _ _)))
  k_with "call builtin:bytes.rstrip" => ((k_here; (try dsimp only [List.cons_append, List.nil_append]); k_dflt (refine' rstrip2 ?qza ?_; (case qza => walk_at "side")); intro r' t' k' hr' hrs'))
  k_with "exec For Name Name cons nil" => ((k_here; (rename Fr _ _ _ _ => lF'); (with_unfolding_all refine' For_invVF lF' ?qzk1 ?qzk2 ?_; (case qzk1 => exact rfl); (case qzk2 => exact rfl); k_whole)))
  k_with "exec For Name Call cons nil" => ((k_here; (rename Fr _ _ _ _ => lF'); (with_unfolding_all refine' For_invVF lF' ?qzk1 ?qzk2 ?_; (case qzk1 => exact rfl); (case qzk2 => exact rfl); k_whole)))
  k_with "pyIter bytes" => (((with_reducible show wpAny _ _ (pyIter (Value.bytes _ _)) (fun it s₂ => LoopAtV _ _ _ _ _ _ _ _ _ it s₂) _ _); refine park ?_))
  k_with "pyIter ref" => (((with_reducible show wpAny _ _ (pyIter (Value.ref _)) (fun it s₂ => LoopAtV _ _ _ _ _ _ _ _ _ it s₂) _ _); refine park ?_))
  k_with "exec While Compare cons nil" => ((k_here; refine park ?_))
  k_with "exec While Constant cons nil" => ((k_here; refine park ?_))
  k_with "ints" => (first | assumption | (repeat' (first | exact IntsAre.nil | refine IntsAre.cons _ _ ?_)))
  k_with "in256" => (first | assumption | exact in_nil | (refine in_cons ?qzia ?qzib ?qzic; (case qzia => walk_at "side"); (case qzib => walk_at "side"); (case qzic => walk_at "in256")))
  k_with "call type:bytes" => ((k_here; (with_reducible show wpAny _ _ (call (Value.type "bytes") [Value.ref _]) _ _ _); k_dflt (refine' KBa.make_K ?qzkbaF ?qzkbaN ?qzkbah ?qzkbal ?qzkbai ?qzkbar ?qzkban ?_; (case qzkbaF => k_asm); (case qzkbaN => k_asm); (case qzkbah => rfl); (case qzkbal => kba_isList); (case qzkbai => walk_at "ints"); (case qzkbar => walk_at "in256"); (case qzkban => walk_at "side")); intro _ _ _ F' N' kbaIn; (try k_sweep)))
  k_with "ps" => ((repeat' (first | exact List.forall_mem_nil _ | (refine List.forall_mem_cons.mpr ⟨by with_unfolding_all rfl, ?_⟩))))
  k_with "led" => ((repeat' (first | exact List.forall_mem_nil _ | (refine List.forall_mem_cons.mpr ⟨by k_mem, ?_⟩) | (intro p9 hp9; (repeat' (first | exact hp9 | refine List.Mem.tail _ ?_))))))
  k_with "lsize" => (first | size_fits | ((try rw [PySem.sizeLine_eq]); (simp only [List.size_toArray, Array.size_push]); (first | lia | omega)))
  k_with "call builtin:list.append" => ((k_here; (try dsimp only [List.cons_append, List.nil_append]); (with_reducible show wpAny _ _ (call (Value.builtin _) [Value.ref _, _]) _ _ _); k_dflt (refine' append_K ?qzk1 ?qzk2 ?qzk3 ?_ ?qzz; (case qzk1 => k_asm); (case qzk2 => k_asm); (case qzk3 => k_upd); (case qzz => walk_at "lsize"); k_whole); intro h' F' N'; (try k_sweep)))
  k_with "offI" => ((repeat' (first | exact List.forall_mem_nil _ | assumption | (refine List.forall_mem_cons.mpr ⟨by (refine neN ?_; (try dsimp only); (first | lia | omega)), ?_⟩))))
  k_with "bl get" => (first | (apply Fr.keep (by k_asm); assumption) | exact News.get (by k_asm) (by k_mem))
  k_with "subscriptTail" => ((k_here; (with_reducible show wpAny _ _ (subscriptTail _ _ (Value.ref _) (Value.int _ _)) _ _ _); k_dflt (refine' item_bl ?qzhl ?qzhv ?qza ?qzb ?qzz ?_; (case qzhv => with_reducible assumption); (case qzhl => walk_at "bl get"); (case qza => walk_at "side"); (case qzb => walk_at "side"); (case qzz => walk_at "side")); intro _ _))
  k_with "call builtin:len" => ((k_here; (with_reducible show wpAny _ _ (call (Value.builtin "len") [Value.ref _]) _ _ _); k_dflt (first | (refine' len_base ?qzhl ?qzF ?qzz ?_; (case qzhl => assumption); (case qzF => k_asm); (case qzz => walk_at "side")) | (refine' len_led ?qzN ?qzhm ?qzz ?_; (case qzN => k_asm); (case qzhm => k_mem); (case qzz => walk_at "side"))); intro _ _))
  k_with "binaryOp Add bytes bytes" => ((k_here; (with_reducible show wpAny _ _ (binaryOp Operator.Add (Value.bytes _ _) (Value.bytes _ _)) _ _ _); k_dflt (refine' KBy.add_bytes ?qzz ?_; (case qzz => walk_at "side")); intro _ _))
  k_with "call builtin:bytes.join" => ((k_here; (try dsimp only [List.cons_append, List.nil_append]); k_dflt (refine' join0 ?qzhl ?qzhv ?qzz ?_; (case qzhl => walk_at "bl get"); (case qzhv => walk_at "bytes are"); (case qzz => walk_at "side")); intro _ _))
  k_with "bytes are" => (first | with_reducible assumption | assumption | (repeat' (first | exact BytesAre.nil | refine BytesAre.cons ?_)))
  k_with "call builtin:bytes.split" => ((k_here; (try dsimp only [List.cons_append, List.nil_append]); k_dflt (refine' split1 ?qzF ?qzN ?qzc ?qza ?qzb ?_; (case qzF => k_asm); (case qzN => k_asm); (case qzc => rfl); (case qza => walk_at "side"); (case qzb => walk_at "side")); intro l' vs' h' k' hvs' F' N' hne'; (replace hne' := allNe_of9 hne'); (simp only [NeAll, and_true] at hne'); (try k_sweep)))
  k_with "call builtin:list.extend" => ((k_here; (with_reducible show wpAny _ _ (call (Value.builtin _) [Value.ref _, Value.ref _]) _ _ _); k_dflt (refine' ext_M ?qzF ?qzN ?qza ?qzb ?qzne ?qzU ?qzz ?_; (case qzF => k_asm); (case qzN => k_asm); (case qzb => k_mem); (case qzU => k_upd); (case qzne => walk_at "side"); (case qzz => walk_at "side"); (case qza => trivial)); intro h' F' N'; (try k_sweep)))
  k_with "subscriptTail Name Slice ref ref" => ((k_here; (with_reducible show wpAny _ _ (subscriptTail _ (PySem.Expr.Slice _ _ none _) (Value.ref _) (Value.ref _)) _ _ _); k_dflt (first
      | (refine' lslice_run (s := ⟨_, _, _, _, _⟩) ?qzF ?qzN ?qzhm ?qzhx ?qzhy ?qzhz ?_ ?qzhs ?qzht; (case qzF => k_asm); (case qzN => k_asm); (case qzhm => k_mem); (case qzhx => walk_at "side"); (case qzhy => walk_at "side"); (case qzhz => walk_at "side"); (case qzhs => with_unfolding_all rfl); (case qzht => kmk_pure))
      | (refine' lslice_to (s := ⟨_, _, _, _, _⟩) ?qzF ?qzN ?qzhm ?qzhy ?qzhz ?_ ?qzhs ?qzht; (case qzF => k_asm); (case qzN => k_asm); (case qzhm => k_mem); (case qzhy => walk_at "side"); (case qzhz => walk_at "side"); (case qzhs => with_unfolding_all rfl); (case qzht => kmk_pure))); intro D' h' F' N' l1; (try k_lt l1); (try k_sweep)))
  k_with "binaryOp LShift int int" => ((k_here; (with_reducible show wpAny _ _ (binaryOp Operator.LShift (Value.int _ _) (Value.int _ _)) _ _ _); k_dflt (refine' lshift_int_small ?qza ?qzb ?qzc ?_; (case qza => walk_at "side"); (case qzb => walk_at "side"); (case qzc => walk_at "side"))))
  k_with "binaryOp RShift int int" => ((k_here; (with_reducible show wpAny _ _ (binaryOp Operator.RShift (Value.int _ _) (Value.int _ _)) _ _ _); k_dflt (refine' rshift_int ?qza ?_; (case qza => walk_at "side"))))
  k_with "binaryOp BitAnd int int" => ((k_here; (with_reducible show wpAny _ _ (binaryOp Operator.BitAnd (Value.int _ _) (Value.int _ _)) _ _ _); k_dflt (first | (with_reducible refine and_63 ?_; intro _ _ hlo hhi) | (with_reducible refine and_255 ?_; intro _ _ hlo hhi) | (refine and_gen ?_; intro _ _ _))))
  k_with "comp range" => ((k_here; (with_reducible show wpAny _ _ (eval (PySem.Expr.ListComp _ [⟨PySem.Expr.Name _ _, _, [], _⟩] _ _) _) _ _ _); k_dflt (refine ListComp_RS (by k_asm) (by with_unfolding_all rfl) (by decide) (by rfl) (by decide) (by rfl) ?_)))
  k_with "eval ListComp" => (walk_at "comp range")
  k_with "RangeSrc" => ((refine park ?_))
  trivial
set_option maxHeartbeats 4000000 in
theorem c_lines (w : World) (b : Array UInt8) (tb t : Tok) (hb : b.size ≤ 76) : Ctr w 1 48 [.bytes b tb, .int 76 t] (PBytes b) := by
  refine' ctr_enterC (binds := [(Str.ofString "line", .bytes b tb), (Str.ofString "width", .int 76 t)]) ?ho ?hcd ?hlv ?hb ?hl ?hc ?h1 ?h2 ?h3 ?_
  walk_at "c enterC"
  rename_i o1 o2 d1 d2
  k_steps
  unfold Park
  refine' RangeSrc.mk' ((b.size + 75) / 76) (fun i ys news => ∃ (o p : Obj), o.data = .cell (some (.int 76 t)) ∧ p.data = .cell (some (.bytes b tb)) ∧ BytesAre ys (List.replicate i b) ∧ news = [(L + 1 + 1, o), (L + 1, p)]) rfl (by assumption) (by assumption) (by assumption) ?small ?size ?n ?j ?turn ?done
  case small => exact small_76 (by (first | lia | omega)) (by (first | lia | omega))
  case size => rw [rangeSize_pos (by decide) (by (first | lia | omega))]; (first | lia | omega)
  case n => (first | lia | omega)
  case j => exact ⟨_, _, d1, d2, .nil, rfl⟩
  case turn =>
    intro i k t' I oI C oC D m₂ ys news g h tk E' hi hk hJ hC hx F N off ne
    obtain ⟨o, p, do', dp', hy, rfl⟩ := hJ
    obtain rfl : i = 0 := by (first | lia | omega)
    obtain rfl : k = 0 := by (first | lia | omega)
    k_steps
    refine EltEnd.intro [(L + 1 + 1, o), (L + 1, p)] (by k_asm) (by k_asm) (by walk_at "led") (by assumption) ?_
    refine ⟨_, _, do', dp', ?_, rfl⟩
    have hcb : cut b 0 (0 + 76) = b := by
      unfold cut
      have hl : b.toList.length = b.size := Array.length_toList
      refine Array.ext' ?_
      show List.take 76 (b.toList.drop 0) = b.toList
      rw [List.drop_zero, List.take_of_length_le (by (first | lia | omega))]
    cases hy
    rw [hcb]
    exact .one
  case done =>
    intro D ys news h tk hJ F N off
    obtain ⟨o, p, do', dp', hy, rfl⟩ := hJ
    rcases (show (b.size + 75) / 76 = 0 ∨ (b.size + 75) / 76 = 1 by (first | lia | omega)) with e | e
    · rw [e] at hy
      cases hy
      have hb0 : b = #[] := Array.eq_empty_of_size_eq_zero (by (first | lia | omega))
      subst hb0
      k_steps
      refine join1 (bs := []) (News.get (by k_asm) (by k_mem)) rfl rfl .nil (by decide) (by decide) fun t' k => ?_
      k_steps
      exact CEnd.flat (by k_asm) (pbytes rfl)
    · rw [e] at hy
      k_steps
      refine join1 (bs := [b]) (News.get (by k_asm) (by k_mem)) rfl rfl hy (by simp; (first | lia | omega)) (by rw [joined_one]; (first | lia | omega)) fun t' k => ?_
      rw [joined_one]
      k_steps
      exact CEnd.flat (by k_asm) (pbytes rfl)

end
section
theorem zk_20 : True := by
  k_with_none
  k_with "side" => (first | with_reducible assumption | (first | lia | omega) | assumption | decide | ((simp (decide := true) only [Int.fdiv_eq_ediv_of_nonneg, Int.fmod_eq_emod_of_nonneg, List.size_toArray, List.length_cons, List.length_nil] at *); (first | lia | omega)))
  k_with "c enter" => (((case ho => k_is); (case hcd => k_is); (case hlv => decide); (case hb => first | exact (fun s X => BindsTo.of_eq rfl) | exact (fun s X => binds_K X rfl (by k_is) rfl rfl rfl)); (case hl => exact locs rfl); (case hc => decide); (case h1 => exact rfl); (case h2 => exact rfl); (case h3 => exact rfl); intro mean mg mb dp un gd fr s g L h₁ tk X T hd hu F N; (try dsimp only); (try k_fold)))
  k_with "c enterI" => (((case ho => k_is); (case hcd => k_is); (case hlv => decide); (case hb => first | exact (fun s X => BindsTo.of_eq rfl) | exact (fun s X => binds_K X rfl (by k_is) rfl rfl rfl)); (case hl => exact locs rfl); (case hc => decide); (case h1 => exact rfl); (case h2 => exact rfl); (case h3 => exact rfl); intro mean mg mb dp un gd fr s g L h₁ tk hI hIL X T hd hu F N; (replace hI := hI _ (List.Mem.head _)); (replace hIL := hIL _ (List.Mem.head _)); (try dsimp only at hI hIL); (try dsimp only); (try k_fold)))
  k_with "c enterC" => (((case ho => k_is); (case hcd => k_is); (case hlv => decide); (case hb => first | exact (fun s X => BindsTo.of_eq rfl) | exact (fun s X => binds_K X rfl (by k_is) rfl rfl rfl)); (case hl => exact rfl); (case hc => decide +kernel); (case h1 => exact rfl); (case h2 => exact rfl); (case h3 => exact rfl); intro mean mg mb dp un gd fr s g L h₁ tk cells X T hd hu F N Y; k_cells Y; (try simp only [List.cons_append, List.nil_append] at N); (try dsimp only); (try k_fold)))
  k_with "c enterIC" => (((case ho => k_is); (case hcd => k_is); (case hlv => decide); (case hb => first | exact (fun s X => BindsTo.of_eq rfl) | exact (fun s X => binds_K X rfl (by k_is) rfl rfl rfl)); (case hl => exact rfl); (case hc => decide +kernel); (case h1 => exact rfl); (case h2 => exact rfl); (case h3 => exact rfl); intro mean mg mb dp un gd fr s g L h₁ tk cells hI hIL X T hd hu F N Y; (replace hI := hI _ (List.Mem.head _)); (replace hIL := hIL _ (List.Mem.head _)); (try dsimp only at hI hIL); k_cells Y; (try simp only [List.cons_append, List.nil_append] at N); (try dsimp only); (try k_fold)))
  k_with "subscriptTail" => ((k_here; (with_reducible show wpAny _ _ (subscriptTail _ (Expr.Slice _ _ none _) (Value.bytes _ _) (Value.ref _)) _ _ _); (with_reducible rename Fr _ _ _ _ => F'); (with_reducible rename News _ _ _ _ => N'); k_dflt (first
      | ((with_reducible show wpAny _ _ (subscriptTail _ (Expr.Slice (some (Expr.UnaryOp _ _ _)) none none _) _ _) _ _ _); refine' slice_last (s := ⟨_, _, _, _, _⟩) F' N' ?qzz ?qze ?_; (case qze => first | rfl | decide); (case qzz => walk_at "side"); k_whole)
      | ((with_reducible show wpAny _ _ (subscriptTail _ (Expr.Slice (some _) (some _) none _) _ _) _ _ _); refine' slice_ss (s := ⟨_, _, _, _, _⟩) F' N' ?qza ?qzb ?qzz ?_; (case qza => walk_at "side"); (case qzb => walk_at "side"); (case qzz => walk_at "side"))
      | ((with_reducible show wpAny _ _ (subscriptTail _ (Expr.Slice (some _) none none _) _ _) _ _ _); refine' slice_sn (s := ⟨_, _, _, _, _⟩) F' N' ?qza ?qzz ?_; (case qza => walk_at "side"); (case qzz => walk_at "side"))
      | ((with_reducible show wpAny _ _ (subscriptTail _ (Expr.Slice none (some _) none _) _ _) _ _ _); refine' slice_ns (s := ⟨_, _, _, _, _⟩) F' N' ?qza ?qzz ?_; (case qza => walk_at "side"); (case qzz => walk_at "side"))); intro _ _ _ hcut F' N'))
  k_with "subscriptTail" => ((k_here; (with_reducible show wpAny _ _ (subscriptTail _ _ (Value.bytes _ _) (Value.int _ _)) _ _ _); k_dflt (refine' item_M ?qzz ?qza ?qzb ?_; (case qzz => walk_at "side"); (case qza => walk_at "side"); (case qzb => walk_at "side")); intro _ _ hlo hhi))
  k_with "getMethod bytes" => ((k_here; first | (with_reducible refine meth_join ?_) | (with_reducible refine meth_find ?_) | (with_reducible refine meth_split ?_) | (with_reducible refine meth_rstrip ?_)))
  k_with "call builtin:bytes.find" => ((k_here; k_dflt first | (refine' find4 ?qza ?qzb ?_; (case qza => walk_at "side"); (case qzb => walk_at "side"); intro _ _) | (refine' find3 ?qza ?_; (case qza => walk_at "side"); intro _ _)))
  k_with "call builtin:bytes.rstrip" => ((k_here; (try dsimp only [List.cons_append, List.nil_append]); k_dflt (refine' rstrip2 ?qza ?_; (case qza => walk_at "side")); intro r' t' k' hr' hrs'))
  k_with "exec For Name Name cons nil" => ((k_here; (rename Fr _ _ _ _ => lF'); (with_unfolding_all refine' For_invVF lF' ?qzk1 ?qzk2 ?_; (case qzk1 => exact rfl); (case qzk2 => exact rfl); k_whole)))
  k_with "exec For Name Call cons nil" => ((k_here; (rename Fr _ _ _ _ => lF'); (with_unfolding_all refine' For_invVF lF' ?qzk1 ?qzk2 ?_; (case qzk1 => exact rfl); (case qzk2 => exact rfl); k_whole)))
  k_with "pyIter bytes" => (((with_reducible show wpAny _ _ (pyIter (Value.bytes _ _)) (fun it s₂ => LoopAtV _ _ _ _ _ _ _ _ _ it s₂) _ _); refine park ?_))
  k_with "pyIter ref" => (((with_reducible show wpAny _ _ (pyIter (Value.ref _)) (fun it s₂ => LoopAtV _ _ _ _ _ _ _ _ _ it s₂) _ _); refine park ?_))
  k_with "exec While Compare cons nil" => ((k_here; refine park ?_))
  k_with "exec While Constant cons nil" => ((k_here; refine park ?_))
  k_with "ints" => (first | assumption | (repeat' (first | exact IntsAre.nil | refine IntsAre.cons _ _ ?_)))
  k_with "in256" => (first | assumption | exact in_nil | (refine in_cons ?qzia ?qzib ?qzic; (case qzia => walk_at "side"); (case qzib => walk_at "side"); (case qzic => walk_at "in256")))
  k_with "call type:bytes" => ((k_here; (with_reducible show wpAny _ _ (call (Value.type "bytes") [Value.ref _]) _ _ _); k_dflt (refine' KBa.make_K ?qzkbaF ?qzkbaN ?qzkbah ?qzkbal ?qzkbai ?qzkbar ?qzkban ?_; (case qzkbaF => k_asm); (case qzkbaN => k_asm); (case qzkbah => rfl); (case qzkbal => kba_isList); (case qzkbai => walk_at "ints"); (case qzkbar => walk_at "in256"); (case qzkban => walk_at "side")); intro _ _ _ F' N' kbaIn; (try k_sweep)))
  k_with "ps" => ((repeat' (first | exact List.forall_mem_nil _ | (refine List.forall_mem_cons.mpr ⟨by with_unfolding_all rfl, ?_⟩))))
  k_with "led" => ((repeat' (first | exact List.forall_mem_nil _ | (refine List.forall_mem_cons.mpr ⟨by k_mem, ?_⟩) | (intro p9 hp9; (repeat' (first | exact hp9 | refine List.Mem.tail _ ?_))))))
  k_with "lsize" => (first | size_fits | ((try rw [PySem.sizeLine_eq]); (simp only [List.size_toArray, Array.size_push]); (first | lia | omega)))
  k_with "call builtin:list.append" => ((k_here; (try dsimp only [List.cons_append, List.nil_append]); (with_reducible show wpAny _ _ (call (Value.builtin _) [Value.ref _, _]) _ _ _); k_dflt (refine' append_K ?qzk1 ?qzk2 ?qzk3 ?_ ?qzz; (case qzk1 => k_asm); (case qzk2 => k_asm); (case qzk3 => k_upd); (case qzz => walk_at "lsize"); k_whole); intro h' F' N'; (try k_sweep)))
  k_with "offI" => ((repeat' (first | exact List.forall_mem_nil _ | assumption | (refine List.forall_mem_cons.mpr ⟨by (refine neN ?_; (try dsimp only); (first | lia | omega)), ?_⟩))))
  k_with "bl get" => (first | (apply Fr.keep (by k_asm); assumption) | exact News.get (by k_asm) (by k_mem))
  k_with "subscriptTail" => ((k_here; (with_reducible show wpAny _ _ (subscriptTail _ _ (Value.ref _) (Value.int _ _)) _ _ _); k_dflt (refine' item_bl ?qzhl ?qzhv ?qza ?qzb ?qzz ?_; (case qzhv => with_reducible assumption); (case qzhl => walk_at "bl get"); (case qza => walk_at "side"); (case qzb => walk_at "side"); (case qzz => walk_at "side")); intro _ _))
  k_with "call builtin:len" => ((k_here; (with_reducible show wpAny _ _ (call (Value.builtin "len") [Value.ref _]) _ _ _); k_dflt (first | (refine' len_base ?qzhl ?qzF ?qzz ?_; (case qzhl => assumption); (case qzF => k_asm); (case qzz => walk_at "side")) | (refine' len_led ?qzN ?qzhm ?qzz ?_; (case qzN => k_asm); (case qzhm => k_mem); (case qzz => walk_at "side"))); intro _ _))
  k_with "binaryOp Add bytes bytes" => ((k_here; (with_reducible show wpAny _ _ (binaryOp Operator.Add (Value.bytes _ _) (Value.bytes _ _)) _ _ _); k_dflt (refine' KBy.add_bytes ?qzz ?_; (case qzz => walk_at "side")); intro _ _))
  k_with "call builtin:bytes.join" => ((k_here; (try dsimp only [List.cons_append, List.nil_append]); k_dflt (refine' join0 ?qzhl ?qzhv ?qzz ?_; (case qzhl => walk_at "bl get"); (case qzhv => walk_at "bytes are"); (case qzz => walk_at "side")); intro _ _))
  k_with "bytes are" => (first | with_reducible assumption | assumption | (repeat' (first | exact BytesAre.nil | refine BytesAre.cons ?_)))
  k_with "call builtin:bytes.split" => ((k_here; (try dsimp only [List.cons_append, List.nil_append]); k_dflt (refine' split1 ?qzF ?qzN ?qzc ?qza ?qzb ?_; (case qzF => k_asm); (case qzN => k_asm); (case qzc => rfl); (case qza => walk_at "side"); (case qzb => walk_at "side")); intro l' vs' h' k' hvs' F' N' hne'; (replace hne' := allNe_of9 hne'); (simp only [NeAll, and_true] at hne'); (try k_sweep)))
  k_with "call builtin:list.extend" => ((k_here; (with_reducible show wpAny _ _ (call (Value.builtin _) [Value.ref _, Value.ref _]) _ _ _); k_dflt (refine' ext_M ?qzF ?qzN ?qza ?qzb ?qzne ?qzU ?qzz ?_; (case qzF => k_asm); (case qzN => k_asm); (case qzb => k_mem); (case qzU => k_upd); (case qzne => walk_at "side"); (case qzz => walk_at "side"); (case qza => trivial)); intro h' F' N'; (try k_sweep)))
  k_with "subscriptTail Name Slice ref ref" => ((k_here; (with_reducible show wpAny _ _ (subscriptTail _ (PySem.Expr.Slice _ _ none _) (Value.ref _) (Value.ref _)) _ _ _); k_dflt (first
      | (refine' lslice_run (s := ⟨_, _, _, _, _⟩) ?qzF ?qzN ?qzhm ?qzhx ?qzhy ?qzhz ?_ ?qzhs ?qzht; (case qzF => k_asm); (case qzN => k_asm); (case qzhm => k_mem); (case qzhx => walk_at "side"); (case qzhy => walk_at "side"); (case qzhz => walk_at "side"); (case qzhs => with_unfolding_all rfl); (case qzht => kmk_pure))
      | (refine' lslice_to (s := ⟨_, _, _, _, _⟩) ?qzF ?qzN ?qzhm ?qzhy ?qzhz ?_ ?qzhs ?qzht; (case qzF => k_asm); (case qzN => k_asm); (case qzhm => k_mem); (case qzhy => walk_at "side"); (case qzhz => walk_at "side"); (case qzhs => with_unfolding_all rfl); (case qzht => kmk_pure))); intro D' h' F' N' l1; (try k_lt l1); (try k_sweep)))
  k_with "binaryOp LShift int int" => ((k_here; (with_reducible show wpAny _ _ (binaryOp Operator.LShift (Value.int _ _) (Value.int _ _)) _ _ _); k_dflt (refine' lshift_int_small ?qza ?qzb ?qzc ?_; (case qza => walk_at "side"); (case qzb => walk_at "side"); (case qzc => walk_at "side"))))
  k_with "binaryOp RShift int int" => ((k_here; (with_reducible show wpAny _ _ (binaryOp Operator.RShift (Value.int _ _) (Value.int _ _)) _ _ _); k_dflt (refine' rshift_int ?qza ?_; (case qza => walk_at "side"))))
  k_with "binaryOp BitAnd int int" => ((k_here; (with_reducible show wpAny _ _ (binaryOp Operator.BitAnd (Value.int _ _) (Value.int _ _)) _ _ _); k_dflt (first | (with_reducible refine and_63 ?_; intro _ _ hlo hhi) | (with_reducible refine and_255 ?_; intro _ _ hlo hhi) | (refine and_gen ?_; intro _ _ _))))
  k_with "comp range" => ((k_here; (with_reducible show wpAny _ _ (eval (PySem.Expr.ListComp _ [⟨PySem.Expr.Name _ _, _, [], _⟩] _ _) _) _ _ _); k_dflt (refine ListComp_RS (by k_asm) (by with_unfolding_all rfl) (by decide) (by rfl) (by decide) (by rfl) ?_)))
  k_with "eval ListComp" => (walk_at "comp range")
  k_with "RangeSrc" => ((refine park ?_))
  k_with "call ref" => ((k_here; (with_reducible show wpAny _ _ (call (Value.ref 43) _) _ _ _); k_dflt (refine' use_bytes (c_one _ _ _ ?qza) ?qzX ?qzT ?qzF ?qzN ?qzd ?qzu ?_; (case qza => walk_at "side"); (case qzX => k_asm); (case qzT => k_asm); (case qzF => k_asm); (case qzN => k_asm); (case qzd => (first | lia | omega)); (case qzu => (first | lia | omega)); intro t' h' tk' F' N'; (try k_sweep))))
  k_with "call ref" => ((k_here; (with_reducible show wpAny _ _ (call (Value.ref 48) _) _ _ _); k_dflt (refine' use_bytes (c_lines _ _ _ _ ?qza) ?qzX ?qzT ?qzF ?qzN ?qzd ?qzu ?_; (case qza => walk_at "side"); (case qzX => k_asm); (case qzT => k_asm); (case qzF => k_asm); (case qzN => k_asm); (case qzd => (first | lia | omega)); (case qzu => (first | lia | omega)); intro t' h' tk' F' N'; (try k_sweep))))
  trivial
set_option maxHeartbeats 4000000 in
theorem c_enc (w : World) (b : Array UInt8) (tb : Tok) (hb : b.size ≤ 24) : Ctr w 4 56 [.bytes b tb] (PBytes (oneOf b)) := by
  have ho := one_size b hb
  refine' ctr_enter (binds := [(Str.ofString "octets", .bytes b tb), (Str.ofString "width", .int 76 236)]) ?ho ?hcd ?hlv ?hb ?hl ?hc ?h1 ?h2 ?h3 ?_
  walk_at "c enter"
  k_steps
  exact CEnd.flat (by k_asm) (pbytes rfl)

end
section
section
variable {prog : Program} {w : World} {A : Around} {E : Value → Shared → Prop} {s : Shared}
theorem plain_dul : plainId "dict.update.loop" = true := by decide +kernel
theorem entry_dul : entryFor table "dict.update.loop" = some Builtin.«dict.update.loop» := entryFor_of_tree (by kernel_rfl)
theorem list_keys_miss : typeLookup (.type "list") "keys" = pure none := by rw [typeLookup_type, builtinLookup_eq_fast]; kernel_rfl
theorem keys_none {a : Addr} {xs : Array Value} {k : Nat} {sl : Array (Option Value)} {Q : Option Value → Shared → Prop} (hx : s.heap.get? a = some { cls := .type "list", dict := none, data := .seq xs k, slots := sl }) (hA : A.handled = none)
    (h : ∀ h' tk, (∀ b o, s.heap.get? b = some o → h'.get? b = some o) → Q none { s with heap := h', toks := tk }) :
    wpAny (model prog w) A (getAttr? (.ref a) "keys") Q E s := by
  obtain ⟨hp, g, d, tk, os⟩ := s
  have hT : ∀ tk', (⟨hp, g, d, tk', os⟩ : Shared).TypeIs (.ref a) "list" := fun _ => ⟨_, hx, rfl⟩
  have f1 := sub_AttributeError
  have f3 := F.slot_list_getattribute.lookup
  have f4 := F.slot_list_getattribute.bind (.ref a)
  have f5 := am_list_getattr_none
  unfold getAttr? getAttrBy? getAttrBy
  repeat' (first | assumption | exact hT _ | ((with_reducible show wpAny _ _ (call (Value.builtin "list.__getattribute__") _ _) _ _ _); refine call_meets F.slot_list_getattribute (hT _) am_entry_list_getattribute (F.args_list_getattribute_2 _ _) (meets_getattribute_miss_list a xs k sl "keys" _ list_keys_miss (by decide) (by decide +kernel)) ⟨hx, hA, fun h' tk' e hx' => ?_⟩) | wp_step)
  obtain ⟨t', u', he⟩ := hx'.there
  show wpAny _ _ (getattributeRaised _ _ _ _ _ _ _) _ _ _
  unfold getattributeRaised
  repeat' (first | assumption | wp_step)
  all_goals exact h _ _ hx'.keeps
end

end
section
section
variable {prog : Program} {w : World} {A : Around} {E : Value → Shared → Prop} {s : Shared} {R : Result → Shared → Prop} {I : Addr} {fp wr : List Addr} {G : Array GenState → Array GenState → Prop} {n : Nat} {P : Nat → Value → Prop} {St : Nat → Shared → Prop}
theorem stored_new {kvs : List (Int × Value)} {i : Nat} {kv : Int × Value} (hn : (kvs.map (·.1)).Nodup) (h : kvs[i]? = some kv) : stored (kvs.take i) kv.1 kv.2 = kvs.take (i + 1) := by
  unfold stored
  rw [List.take_add_one, h, if_neg]
  · rfl
  · intro q
    obtain ⟨x, hx, e⟩ := List.any_eq_true.mp q
    obtain ⟨hi, hkv⟩ := List.getElem?_eq_some_iff.mp h
    obtain ⟨j, hj, hxj⟩ := List.mem_iff_getElem.mp hx
    rw [List.length_take] at hj
    rw [List.getElem_take] at hxj
    have e := of_decide_eq_true e
    refine List.pairwise_iff_getElem.mp hn j i (by rw [List.length_map]; (first | lia | omega)) (by rw [List.length_map]; exact hi) (by (first | lia | omega)) ?_
    rw [List.getElem_map, List.getElem_map, hxj, hkv]
    exact e
def PairObj (kv : Int × Value) (o : Obj) : Prop := ∃ t n0, o = { cls := .type "tuple", data := .seq #[.int kv.1 t, kv.2] n0 }
theorem pair_items {T : Addr} {o : Obj} {kv : Int × Value} {Q : List Value → Shared → Prop} (ho : s.heap.get? T = some o) (hp : PairObj kv o) (h : ∀ t, Q [.int kv.1 t, kv.2] s) :
    wpAny (model prog w) A (Builtin.Dict.pairItems (.ref T)) Q E s := by
  obtain ⟨t, n0, rfl⟩ := hp
  obtain ⟨hp, g, d, tk, os⟩ := s
  unfold Builtin.Dict.pairItems
  have hT : (⟨hp, g, d, tk, os⟩ : Shared).TypeIs (.ref T) "tuple" := ⟨_, ho, rfl⟩
  refine wpAny_bind (wpAny_typeOf hT ?_)
  rw [if_pos (by decide)]
  refine wpAny_bind (wpAny_seqItems ho rfl ?_)
  exact wpAny_pure (h t)
theorem dict_loop (W : WalksS prog w A.in1 I fp wr G n P St) (d : Addr) (hdf : d ∉ fp) (kvs : List (Int × Value)) (hl : kvs.length = n) (hb : n ≤ 16777216) (hnd : (kvs.map (·.1)).Nodup) (h0 : Heap)
    (hval : ∀ i v, P i v → ∃ T o kv, kvs[i]? = some kv ∧ v = .ref T ∧ T ≠ d ∧ T ∉ wr ∧ h0.get? T = some o ∧ PairObj kv o) :
    ∀ (k i : Nat) (s : Shared) (tt : Tok), n - i = k → i ≤ n → St i s → (∀ b o, b ≠ d → b ∉ wr → h0.get? b = some o → s.heap.get? b = some o) → s.heap.DictOf (intKind prog w) d (kvs.take i) →
      (∀ s', Moved (d :: wr) G s s' → s'.heap.DictOf (intKind prog w) d kvs → R (.ok (.ret .none)) s') →
      codeAny (model prog w) A (.builtin "dict.update.loop" ⟨[.ref d, .ref I, .int i tt, .none], []⟩) R s := by
  have hdw : d ∉ wr := fun h => hdf (W.sub _ h)
  have hsub : ∀ b ∈ wr, b ∈ d :: wr := fun b hb => List.mem_cons_of_mem _ hb
  intro k
  induction k with
  | zero =>
    intro i s tt hk hi hst hkp hS hR
    have hin : i = n := by (first | lia | omega)
    subst hin
    refine codeAny_builtin entry_dul ?_
    rw [Around.under_plainId plain_dul _]
    show wpAny _ A.in1 (pyNext (.ref I) >>= _) _ _ s
    refine wpAny_bind (W.done s _ _ hst fun s' hm => ?_)
    show wpAny _ A.in1 (pure () >>= fun _ => ret Value.none) _ _ s'
    refine wpAny_bind (wpAny_pure (wpAny_pure (hR s' (hm.mono hsub) ?_)))
    rw [← hl, List.take_length] at hS
    obtain ⟨o, es, ep, ho, rest⟩ := hS
    exact ⟨o, es, ep, hm.heap d _ hdw ho, rest⟩
  | succ k ih =>
    intro i s tt hk hi hst hkp hS hR
    have hlt : i < n := by (first | lia | omega)
    refine codeAny_builtin entry_dul ?_
    rw [Around.under_plainId plain_dul _]
    show wpAny _ A.in1 (pyNext (.ref I) >>= _) _ _ s
    refine wpAny_bind (W.item i s _ _ hlt hst fun v s' hP hst' hm => ?_)
    obtain ⟨T, o, kv, hkv, rfl, hTd, hTw, hTo, hpo⟩ := hval i v hP
    have hTo' := hm.heap T _ hTw (hkp T o hTd hTw hTo)
    have hS' : s'.heap.DictOf (intKind prog w) d (kvs.take i) := by
      obtain ⟨o, es, ep, ho, rest⟩ := hS
      exact ⟨o, es, ep, hm.heap d _ hdw ho, rest⟩
    refine wpAny_bind (wpAny_holding ?_)
    refine wpAny_bind (wpAny_tryCatch (pair_items hTo' hpo fun t => ?_))
    show wpAny _ A.in1 (holding [Value.int kv.1 t, kv.2] (dictSet d (.int kv.1 t) kv.2)) _ _ s'
    refine wpAny_holding (wpAny_dictSet_pairs (knd := intKind prog w) (k := kv.1) (intKind_is _ _ _ _) hS' (fun h' hd' hs' => ?_) (by rw [sizeLine_eq, List.length_take]; (first | lia | omega)))
    rw [stored_new hnd hkv] at hd'
    show wpAny _ A.in1 (pure _) _ _ _
    refine wpAny_pure ⟨plainId_quiet plain_dul _, ih (i + 1) _ _ (by (first | lia | omega)) hlt (W.frame _ s' _ _ hst' (Nat.le_succ _) fun b hb o e => ?_) (fun b o hb hw e => ?_) hd' fun s'' hm'' hS'' => ?_⟩
    · show h'.get? b = some o
      rw [hs'.2 b (fun h : b = d => hdf (by rw [← h]; exact hb))]; exact e
    · show h'.get? b = some o
      rw [hs'.2 b hb]; exact hm.heap b _ hw (hkp b o hb hw e)
    · refine hR s'' (Moved.trans W.gtrans ((hm.mono hsub).then_heap (Nat.le_succ _) fun b o hb e => ?_) hm'') hS''
      rw [hs'.2 b (fun h : b = d => hb (by rw [h]; exact List.mem_cons_self))]; exact e
theorem call_dict_pairs {l : Addr} {vs : List Value} {n0 : Nat} {kvs : List (Int × Value)} {Q : Value → Shared → Prop} (hh : A.handled = none) (ho : s.heap.get? l = some (listOf vs.toArray n0)) (hlen : vs.length = kvs.length) (hb : kvs.length ≤ 16777216) (hnd : (kvs.map (·.1)).Nodup)
    (hv : ∀ (i : Nat) v kv, vs[i]? = some v → kvs[i]? = some kv → ∃ T o, v = .ref T ∧ s.heap.get? T = some o ∧ PairObj kv o)
    (h : ∀ (h' : Heap) (tk : Nat), h'.DictOf (intKind prog w) s.heap.objs.size kvs → (∀ b o, s.heap.get? b = some o → h'.get? b = some o) → Q (.ref s.heap.objs.size) { s with heap := h', toks := tk }) :
    wpAny (model prog w) A (call (.type "dict") [.ref l]) Q E s := by
  refine callType_codes (Q₁ := fun obj s₁ => obj = .ref s.heap.objs.size ∧ s₁ = { s with heap := s.heap.push { cls := .type "dict", data := .dict #[] } }) F.kt_called_dict (F.kt_typeCall_dict_1 _) F.entry_dict_init (kt_code_dict_new _ ⟨rfl, rfl⟩) ?_
  rintro obj s₁ ⟨rfl, rfl⟩
  have hnew : (s.heap.push { cls := .type "dict", data := .dict #[] }).DictOf (intKind prog w) s.heap.objs.size [] := Heap.DictOf.new s.heap
  have ho' : (s.heap.push { cls := .type "dict", data := .dict #[] }).get? l = some (listOf vs.toArray n0) := Heap.get?_push_of_some _ ho
  have hlS : l < s.heap.objs.size := Heap.lt_size ho
  refine ⟨hnew.typeIs, F.args_dict_init_2 _ _, ?_⟩
  unfold Builtin.«dict.__init__»
  refine wpAny_bind ?_
  unfold Builtin.Dict.selfAndRest
  refine wpAny_bind (wpAny_notOrdered_dict hnew.typeIs ?_)
  show wpAny _ _ (pure (s.heap.objs.size, [Value.ref l])) _ _ _
  refine wpAny_pure ?_
  show wpAny _ _ (Builtin.Dict.updateFrom "dict.__init__" s.heap.objs.size (.ref l) [] .none) _ _ _
  unfold Builtin.Dict.updateFrom
  have hT : Shared.TypeIs { s with heap := s.heap.push { cls := .type "dict", data := .dict #[] } } (.ref l) "list" := ⟨_, ho', rfl⟩
  refine wpAny_bind (wpAny_typeOf hT ?_)
  rw [if_pos (by decide)]
  refine wpAny_bind (keys_none (s := { s with heap := s.heap.push { cls := .type "dict", data := .dict #[] } }) ho' (by simp [hh]) fun h1 tk1 hk1 => ?_)
  rw [if_pos (show (none : Option Value).isNone = true from rfl)]
  refine wpAny_bind (wpAny_rule ?_)
  have hl1 : h1.IsList l vs.toArray := ⟨_, hk1 _ _ ho', rfl, n0, rfl⟩
  have hD1 : h1.get? s.heap.objs.size = some { cls := .type "dict", data := .dict #[] } := hk1 _ _ (Heap.get?_push_size _ rfl)
  refine wpAny_bind (wpAny_pyIter_list (s := { s with heap := h1, toks := tk1 }) hl1 ?_)
  have hlt1 : s.heap.objs.size < h1.objs.size := Heap.lt_size hD1
  have hne1 : l ≠ h1.objs.size := Nat.ne_of_lt (Nat.lt_trans hlS hlt1)
  have hneD : s.heap.objs.size ≠ h1.objs.size := Nat.ne_of_lt hlt1
  have hh3 : A.in1.in1.handled = none := by simp [hh]
  refine wpAny_pure ⟨plainId_quiet plain_dul _, dict_loop ((Walks.list hh3 _ l hne1 vs.toArray).toS) s.heap.objs.size ?_ kvs (by simpa using hlen.symm) (by simpa using (by (first | lia | omega) : vs.length ≤ 16777216)) hnd h1 ?_ _ 0 _ _ rfl (Nat.zero_le _) ⟨⟨_, Heap.get?_push_size _ rfl, rfl, rfl⟩, hl1.push _⟩ (fun b o _ _ e => Heap.get?_push_of_some _ e) ?_ ?_⟩
  · simp only [List.mem_cons, List.not_mem_nil, or_false, not_or]
    exact ⟨hneD, Nat.ne_of_gt hlS⟩
  · intro i v hP
    have hi : vs[i]? = some v := by simpa using hP
    obtain ⟨hi', _⟩ := List.getElem?_eq_some_iff.mp hi
    obtain ⟨T, o, rfl, hTo, hp⟩ := hv i v kvs[i] hi (List.getElem?_eq_getElem (by (first | lia | omega)))
    have hTs := Heap.lt_size hTo
    exact ⟨T, o, _, List.getElem?_eq_getElem (by (first | lia | omega)), rfl, Nat.ne_of_lt hTs, by simp only [List.mem_cons, List.not_mem_nil, or_false]; exact Nat.ne_of_lt (Nat.lt_trans hTs hlt1), hk1 _ _ (Heap.get?_push_of_some _ hTo), hp⟩
  · obtain ⟨o, es, ep, ho, rest⟩ := hnew
    exact ⟨o, es, ep, Heap.get?_push_of_some _ (hk1 _ _ ho), rest⟩
  · intro s' hm hd'
    obtain ⟨h', g', d', tk', os'⟩ := s'
    have eg : g' = s.gens := hm.gens
    have ed : d' = s.drawn := hm.drawn
    have eo : os' = s.os := hm.os
    subst eg; subst ed; subst eo
    refine ⟨rfl, h h' tk' hd' fun b o e => hm.heap b o ?_ (Heap.get?_push_of_some _ (hk1 _ _ (Heap.get?_push_of_some _ e)))⟩
    have hbs := Heap.lt_size e
    simp only [List.mem_cons, List.not_mem_nil, or_false, not_or]
    exact ⟨Nat.ne_of_lt hbs, Nat.ne_of_lt (Nat.lt_trans hbs hlt1)⟩
end

end
section
theorem zk_21 : True := by
  k_with_none
  k_with "side" => (first | with_reducible assumption | (first | lia | omega) | assumption | decide | ((simp (decide := true) only [Int.fdiv_eq_ediv_of_nonneg, Int.fmod_eq_emod_of_nonneg, List.size_toArray, List.length_cons, List.length_nil] at *); (first | lia | omega)))
  k_with "c enter" => (((case ho => k_is); (case hcd => k_is); (case hlv => decide); (case hb => first | exact (fun s X => BindsTo.of_eq rfl) | exact (fun s X => binds_K X rfl (by k_is) rfl rfl rfl)); (case hl => exact locs rfl); (case hc => decide); (case h1 => exact rfl); (case h2 => exact rfl); (case h3 => exact rfl); intro mean mg mb dp un gd fr s g L h₁ tk X T hd hu F N; (try dsimp only); (try k_fold)))
  k_with "c enterI" => (((case ho => k_is); (case hcd => k_is); (case hlv => decide); (case hb => first | exact (fun s X => BindsTo.of_eq rfl) | exact (fun s X => binds_K X rfl (by k_is) rfl rfl rfl)); (case hl => exact locs rfl); (case hc => decide); (case h1 => exact rfl); (case h2 => exact rfl); (case h3 => exact rfl); intro mean mg mb dp un gd fr s g L h₁ tk hI hIL X T hd hu F N; (replace hI := hI _ (List.Mem.head _)); (replace hIL := hIL _ (List.Mem.head _)); (try dsimp only at hI hIL); (try dsimp only); (try k_fold)))
  k_with "c enterC" => (((case ho => k_is); (case hcd => k_is); (case hlv => decide); (case hb => first | exact (fun s X => BindsTo.of_eq rfl) | exact (fun s X => binds_K X rfl (by k_is) rfl rfl rfl)); (case hl => exact rfl); (case hc => decide +kernel); (case h1 => exact rfl); (case h2 => exact rfl); (case h3 => exact rfl); intro mean mg mb dp un gd fr s g L h₁ tk cells X T hd hu F N Y; k_cells Y; (try simp only [List.cons_append, List.nil_append] at N); (try dsimp only); (try k_fold)))
  k_with "c enterIC" => (((case ho => k_is); (case hcd => k_is); (case hlv => decide); (case hb => first | exact (fun s X => BindsTo.of_eq rfl) | exact (fun s X => binds_K X rfl (by k_is) rfl rfl rfl)); (case hl => exact rfl); (case hc => decide +kernel); (case h1 => exact rfl); (case h2 => exact rfl); (case h3 => exact rfl); intro mean mg mb dp un gd fr s g L h₁ tk cells hI hIL X T hd hu F N Y; (replace hI := hI _ (List.Mem.head _)); (replace hIL := hIL _ (List.Mem.head _)); (try dsimp only at hI hIL); k_cells Y; (try simp only [List.cons_append, List.nil_append] at N); (try dsimp only); (try k_fold)))
  k_with "subscriptTail" => ((k_here; (with_reducible show wpAny _ _ (subscriptTail _ (Expr.Slice _ _ none _) (Value.bytes _ _) (Value.ref _)) _ _ _); (with_reducible rename Fr _ _ _ _ => F'); (with_reducible rename News _ _ _ _ => N'); k_dflt (first
      | ((with_reducible show wpAny _ _ (subscriptTail _ (Expr.Slice (some (Expr.UnaryOp _ _ _)) none none _) _ _) _ _ _); refine' slice_last (s := ⟨_, _, _, _, _⟩) F' N' ?qzz ?qze ?_; (case qze => first | rfl | decide); (case qzz => walk_at "side"); k_whole)
      | ((with_reducible show wpAny _ _ (subscriptTail _ (Expr.Slice (some _) (some _) none _) _ _) _ _ _); refine' slice_ss (s := ⟨_, _, _, _, _⟩) F' N' ?qza ?qzb ?qzz ?_; (case qza => walk_at "side"); (case qzb => walk_at "side"); (case qzz => walk_at "side"))
      | ((with_reducible show wpAny _ _ (subscriptTail _ (Expr.Slice (some _) none none _) _ _) _ _ _); refine' slice_sn (s := ⟨_, _, _, _, _⟩) F' N' ?qza ?qzz ?_; (case qza => walk_at "side"); (case qzz => walk_at "side"))
      | ((with_reducible show wpAny _ _ (subscriptTail _ (Expr.Slice none (some _) none _) _ _) _ _ _); refine' slice_ns (s := ⟨_, _, _, _, _⟩) F' N' ?qza ?qzz ?_; (case qza => walk_at "side"); (case qzz => walk_at "side"))); intro _ _ _ hcut F' N'))
  k_with "subscriptTail" => ((k_here; (with_reducible show wpAny _ _ (subscriptTail _ _ (Value.bytes _ _) (Value.int _ _)) _ _ _); k_dflt (refine' item_M ?qzz ?qza ?qzb ?_; (case qzz => walk_at "side"); (case qza => walk_at "side"); (case qzb => walk_at "side")); intro _ _ hlo hhi))
  k_with "getMethod bytes" => ((k_here; first | (with_reducible refine meth_join ?_) | (with_reducible refine meth_find ?_) | (with_reducible refine meth_split ?_) | (with_reducible refine meth_rstrip ?_)))
  k_with "call builtin:bytes.find" => ((k_here; k_dflt first | (refine' find4 ?qza ?qzb ?_; (case qza => walk_at "side"); (case qzb => walk_at "side"); intro _ _) | (refine' find3 ?qza ?_; (case qza => walk_at "side"); intro _ _)))
  k_with "call builtin:bytes.rstrip" => ((k_here; (try dsimp only [List.cons_append, List.nil_append]); k_dflt (refine' rstrip2 ?qza ?_; (case qza => walk_at "side")); intro r' t' k' hr' hrs'))
  k_with "exec For Name Name cons nil" => ((k_here; (rename Fr _ _ _ _ => lF'); (with_unfolding_all refine' For_invVF lF' ?qzk1 ?qzk2 ?_; (case qzk1 => exact rfl); (case qzk2 => exact rfl); k_whole)))
  k_with "exec For Name Call cons nil" => ((k_here; (rename Fr _ _ _ _ => lF'); (with_unfolding_all refine' For_invVF lF' ?qzk1 ?qzk2 ?_; (case qzk1 => exact rfl); (case qzk2 => exact rfl); k_whole)))
  k_with "pyIter bytes" => (((with_reducible show wpAny _ _ (pyIter (Value.bytes _ _)) (fun it s₂ => LoopAtV _ _ _ _ _ _ _ _ _ it s₂) _ _); refine park ?_))
  k_with "pyIter ref" => (((with_reducible show wpAny _ _ (pyIter (Value.ref _)) (fun it s₂ => LoopAtV _ _ _ _ _ _ _ _ _ it s₂) _ _); refine park ?_))
  k_with "exec While Compare cons nil" => ((k_here; refine park ?_))
  k_with "exec While Constant cons nil" => ((k_here; refine park ?_))
  k_with "ints" => (first | assumption | (repeat' (first | exact IntsAre.nil | refine IntsAre.cons _ _ ?_)))
  k_with "in256" => (first | assumption | exact in_nil | (refine in_cons ?qzia ?qzib ?qzic; (case qzia => walk_at "side"); (case qzib => walk_at "side"); (case qzic => walk_at "in256")))
  k_with "call type:bytes" => ((k_here; (with_reducible show wpAny _ _ (call (Value.type "bytes") [Value.ref _]) _ _ _); k_dflt (refine' KBa.make_K ?qzkbaF ?qzkbaN ?qzkbah ?qzkbal ?qzkbai ?qzkbar ?qzkban ?_; (case qzkbaF => k_asm); (case qzkbaN => k_asm); (case qzkbah => rfl); (case qzkbal => kba_isList); (case qzkbai => walk_at "ints"); (case qzkbar => walk_at "in256"); (case qzkban => walk_at "side")); intro _ _ _ F' N' kbaIn; (try k_sweep)))
  k_with "ps" => ((repeat' (first | exact List.forall_mem_nil _ | (refine List.forall_mem_cons.mpr ⟨by with_unfolding_all rfl, ?_⟩))))
  k_with "led" => ((repeat' (first | exact List.forall_mem_nil _ | (refine List.forall_mem_cons.mpr ⟨by k_mem, ?_⟩) | (intro p9 hp9; (repeat' (first | exact hp9 | refine List.Mem.tail _ ?_))))))
  k_with "lsize" => (first | size_fits | ((try rw [PySem.sizeLine_eq]); (simp only [List.size_toArray, Array.size_push]); (first | lia | omega)))
  k_with "call builtin:list.append" => ((k_here; (try dsimp only [List.cons_append, List.nil_append]); (with_reducible show wpAny _ _ (call (Value.builtin _) [Value.ref _, _]) _ _ _); k_dflt (refine' append_K ?qzk1 ?qzk2 ?qzk3 ?_ ?qzz; (case qzk1 => k_asm); (case qzk2 => k_asm); (case qzk3 => k_upd); (case qzz => walk_at "lsize"); k_whole); intro h' F' N'; (try k_sweep)))
  k_with "offI" => ((repeat' (first | exact List.forall_mem_nil _ | assumption | (refine List.forall_mem_cons.mpr ⟨by (refine neN ?_; (try dsimp only); (first | lia | omega)), ?_⟩))))
  k_with "bl get" => (first | (apply Fr.keep (by k_asm); assumption) | exact News.get (by k_asm) (by k_mem))
  k_with "subscriptTail" => ((k_here; (with_reducible show wpAny _ _ (subscriptTail _ _ (Value.ref _) (Value.int _ _)) _ _ _); k_dflt (refine' item_bl ?qzhl ?qzhv ?qza ?qzb ?qzz ?_; (case qzhv => with_reducible assumption); (case qzhl => walk_at "bl get"); (case qza => walk_at "side"); (case qzb => walk_at "side"); (case qzz => walk_at "side")); intro _ _))
  k_with "call builtin:len" => ((k_here; (with_reducible show wpAny _ _ (call (Value.builtin "len") [Value.ref _]) _ _ _); k_dflt (first | (refine' len_base ?qzhl ?qzF ?qzz ?_; (case qzhl => assumption); (case qzF => k_asm); (case qzz => walk_at "side")) | (refine' len_led ?qzN ?qzhm ?qzz ?_; (case qzN => k_asm); (case qzhm => k_mem); (case qzz => walk_at "side"))); intro _ _))
  k_with "binaryOp Add bytes bytes" => ((k_here; (with_reducible show wpAny _ _ (binaryOp Operator.Add (Value.bytes _ _) (Value.bytes _ _)) _ _ _); k_dflt (refine' KBy.add_bytes ?qzz ?_; (case qzz => walk_at "side")); intro _ _))
  k_with "call builtin:bytes.join" => ((k_here; (try dsimp only [List.cons_append, List.nil_append]); k_dflt (refine' join0 ?qzhl ?qzhv ?qzz ?_; (case qzhl => walk_at "bl get"); (case qzhv => walk_at "bytes are"); (case qzz => walk_at "side")); intro _ _))
  k_with "bytes are" => (first | with_reducible assumption | assumption | (repeat' (first | exact BytesAre.nil | refine BytesAre.cons ?_)))
  k_with "call builtin:bytes.split" => ((k_here; (try dsimp only [List.cons_append, List.nil_append]); k_dflt (refine' split1 ?qzF ?qzN ?qzc ?qza ?qzb ?_; (case qzF => k_asm); (case qzN => k_asm); (case qzc => rfl); (case qza => walk_at "side"); (case qzb => walk_at "side")); intro l' vs' h' k' hvs' F' N' hne'; (replace hne' := allNe_of9 hne'); (simp only [NeAll, and_true] at hne'); (try k_sweep)))
  k_with "call builtin:list.extend" => ((k_here; (with_reducible show wpAny _ _ (call (Value.builtin _) [Value.ref _, Value.ref _]) _ _ _); k_dflt (refine' ext_M ?qzF ?qzN ?qza ?qzb ?qzne ?qzU ?qzz ?_; (case qzF => k_asm); (case qzN => k_asm); (case qzb => k_mem); (case qzU => k_upd); (case qzne => walk_at "side"); (case qzz => walk_at "side"); (case qza => trivial)); intro h' F' N'; (try k_sweep)))
  k_with "subscriptTail Name Slice ref ref" => ((k_here; (with_reducible show wpAny _ _ (subscriptTail _ (PySem.Expr.Slice _ _ none _) (Value.ref _) (Value.ref _)) _ _ _); k_dflt (first
      | (refine' lslice_run (s := ⟨_, _, _, _, _⟩) ?qzF ?qzN ?qzhm ?qzhx ?qzhy ?qzhz ?_ ?qzhs ?qzht; (case qzF => k_asm); (case qzN => k_asm); (case qzhm => k_mem); (case qzhx => walk_at "side"); (case qzhy => walk_at "side"); (case qzhz => walk_at "side"); (case qzhs => with_unfolding_all rfl); (case qzht => kmk_pure))
      | (refine' lslice_to (s := ⟨_, _, _, _, _⟩) ?qzF ?qzN ?qzhm ?qzhy ?qzhz ?_ ?qzhs ?qzht; (case qzF => k_asm); (case qzN => k_asm); (case qzhm => k_mem); (case qzhy => walk_at "side"); (case qzhz => walk_at "side"); (case qzhs => with_unfolding_all rfl); (case qzht => kmk_pure))); intro D' h' F' N' l1; (try k_lt l1); (try k_sweep)))
  k_with "binaryOp LShift int int" => ((k_here; (with_reducible show wpAny _ _ (binaryOp Operator.LShift (Value.int _ _) (Value.int _ _)) _ _ _); k_dflt (refine' lshift_int_small ?qza ?qzb ?qzc ?_; (case qza => walk_at "side"); (case qzb => walk_at "side"); (case qzc => walk_at "side"))))
  k_with "binaryOp RShift int int" => ((k_here; (with_reducible show wpAny _ _ (binaryOp Operator.RShift (Value.int _ _) (Value.int _ _)) _ _ _); k_dflt (refine' rshift_int ?qza ?_; (case qza => walk_at "side"))))
  k_with "binaryOp BitAnd int int" => ((k_here; (with_reducible show wpAny _ _ (binaryOp Operator.BitAnd (Value.int _ _) (Value.int _ _)) _ _ _); k_dflt (first | (with_reducible refine and_63 ?_; intro _ _ hlo hhi) | (with_reducible refine and_255 ?_; intro _ _ hlo hhi) | (refine and_gen ?_; intro _ _ _))))
  k_with "comp range" => ((k_here; (with_reducible show wpAny _ _ (eval (PySem.Expr.ListComp _ [⟨PySem.Expr.Name _ _, _, [], _⟩] _ _) _) _ _ _); k_dflt (refine ListComp_RS (by k_asm) (by with_unfolding_all rfl) (by decide) (by rfl) (by decide) (by rfl) ?_)))
  k_with "eval ListComp" => (walk_at "comp range")
  k_with "RangeSrc" => ((refine park ?_))
  trivial
def TabOk (w : World) (d : Addr) (o : Obj) (D : List (PyData × PyData)) : Prop := (d == sysModules) = false ∧ ∃ kvs, o.IsDictOf (intKind PG w) kvs ∧ PyProof.V.FlatPairs PyData.int kvs D
abbrev PTab (w : World) (D : List (PyData × PyData)) (r : Value) (ad : List (Addr × Obj)) : Prop := ∃ d o, r = .ref d ∧ ad = [(d, o)] ∧ TabOk w d o D
def PairsIn (tups : List (Addr × Obj)) (ys : List Value) (kvs : List (Int × Value)) : Prop := ys.length = kvs.length ∧ ∀ (j : Nat) v kv, ys[j]? = some v → kvs[j]? = some kv → ∃ T o, v = .ref T ∧ (T, o) ∈ tups ∧ PairObj kv o
theorem PairsIn.snoc {tups : List (Addr × Obj)} {ys : List Value} {kvs : List (Int × Value)} {T : Addr} {o : Obj} {kv : Int × Value} (h : PairsIn tups ys kvs) (hp : PairObj kv o) : PairsIn ((T, o) :: tups) (ys ++ [.ref T]) (kvs ++ [kv]) := by
  refine ⟨by simp [h.1], fun j v kv' hv hk => ?_⟩
  rcases Nat.lt_or_ge j ys.length with hj | hj
  · rw [List.getElem?_append_left hj] at hv
    rw [List.getElem?_append_left (by rw [← h.1]; exact hj)] at hk
    obtain ⟨T', o', e, hm, hp'⟩ := h.2 j v kv' hv hk
    exact ⟨T', o', e, .tail _ hm, hp'⟩
  · rw [List.getElem?_append_right hj] at hv
    rw [List.getElem?_append_right (by rw [← h.1]; exact hj), ← h.1] at hk
    have e : j - ys.length = 0 := by
      rcases Nat.eq_zero_or_pos (j - ys.length) with e | e
      · exact e
      · rw [List.getElem?_eq_none (by simp; (first | lia | omega))] at hv; cases hv
    rw [e] at hv hk
    cases hv; cases hk
    exact ⟨T, o, rfl, .head _, hp⟩
def worthTab (a : Array UInt8) (n : Nat) : List (PyData × PyData) := (List.range n).map fun (i : Nat) => (.int (at_ a i), .int i)
theorem fp_snoc {kvs : List (Int × Value)} {D : List (PyData × PyData)} {k : Int} {v : Value} {d : PyData} (h : PyProof.V.FlatPairs PyData.int kvs D) (hv : PyProof.V.Flat v d) : PyProof.V.FlatPairs PyData.int (kvs ++ [(k, v)]) (D ++ [(.int k, d)]) := by
  induction h with
  | nil => exact .cons hv .nil
  | cons a _ ih => exact .cons a ih
def FPW (kvs : List (Int × Value)) (a : Array UInt8) (i : Nat) : Prop := PyProof.V.FlatPairs PyData.int kvs (worthTab a i)
theorem worth_snoc {kvs : List (Int × Value)} {a : Array UInt8} {i : Nat} {k : Int} {t : Tok} (h : FPW kvs a i) (e : k = (i : Nat)) : FPW (kvs ++ [(at_ a k, .int k t)]) a (i + 1) := by
  subst e
  unfold FPW worthTab at *
  rw [List.range_succ, List.map_append]
  exact fp_snoc h (.int _ _)
set_option maxHeartbeats 4000000 in
theorem c_worth (w : World) (a : Array UInt8) (ta : Tok) (ha : a.size ≤ 64) (hnd : ((List.range a.size).map fun (i : Nat) => at_ a i).Nodup) : Ctr w 1 19 [.bytes a ta] (PTab w (worthTab a a.size)) := by
  refine' ctr_enterC (binds := [(Str.ofString "alphabet", .bytes a ta)]) ?ho ?hcd ?hlv ?hb ?hl ?hc ?h1 ?h2 ?h3 ?_
  walk_at "c enterC"
  rename_i o1 d1
  k_steps
  unfold Park
  refine' RangeSrc.mk' (a.size) (fun i ys news => ∃ (o : Obj) (tups : List (Addr × Obj)) (kvs : List (Int × Value)), o.data = .cell (some (.bytes a ta)) ∧ PairsIn tups ys kvs ∧ FPW kvs a i ∧ kvs.map (·.1) = (List.range i).map (fun (i : Nat) => at_ a i) ∧ news = (L + 1, o) :: tups) rfl (by assumption) (by assumption) (by assumption) ?small ?size ?n ?j ?turn ?done
  case small => exact small_one (by (first | lia | omega)) (by (first | lia | omega)) (by (first | lia | omega)) (by (first | lia | omega))
  case size => rw [rangeSize_nat]; (first | lia | omega)
  case n => (first | lia | omega)
  case j => exact ⟨_, [], [], d1, ⟨rfl, fun j v kv hv => nomatch hv⟩, PyProof.V.FlatPairs.nil, rfl, rfl⟩
  case turn =>
    intro i k t I oI C oC D m₂ ys news g h tk E' hi hk hJ hC hx F N off ne
    obtain ⟨o, tups, kvs, do', hp, hf, hkk, rfl⟩ := hJ
    k_steps
    rename_i l9
    obtain ⟨q1, q2, q3, q4⟩ := l9
    refine EltEnd.intro ((L + 1, o) :: (_, _) :: tups) (by k_asm) (by k_asm) (by walk_at "led") (List.forall_mem_cons.mpr ⟨off _ (.head _), List.forall_mem_cons.mpr ⟨⟨Nat.ne_of_gt q1, Nat.ne_of_gt q2, Nat.ne_of_gt q3⟩, fun p hp => off p (.tail _ hp)⟩⟩) ?_
    refine ⟨o, _, _, do', hp.snoc (kv := (at_ a k, .int k t)) ⟨_, _, rfl⟩, worth_snoc hf (by (first | lia | omega)), ?_, rfl⟩
    rw [List.map_append, hkk, List.range_succ, List.map_append, show k = ((i : Nat) : Int) by (first | lia | omega)]
    rfl
  case done =>
    intro D ys news h tk hJ F N off
    obtain ⟨o, tups, kvs, do', hp, hf, hkk, rfl⟩ := hJ
    k_steps
    refine call_dict_pairs (kvs := kvs) rfl (N _ (.head _)).1 hp.1 ?_ (by rw [hkk]; exact hnd) ?_ ?_
    · have := congrArg List.length hkk
      simp at this
      (first | lia | omega)
    · intro i v kv hv hk
      obtain ⟨T, o', rfl, hm, hpo⟩ := hp.2 i v kv hv hk
      exact ⟨T, o', rfl, (N _ (.tail _ (.tail _ hm))).1, hpo⟩
    · intro h' tk' hd' hk'
      obtain ⟨o', ho', hd''⟩ := Heap.dictOf_iff.mp hd'
      have hlo := F.notModules (modules_low T.nolimit)
      have N1 := News.push F N { cls := .type "dict", data := .dict #[] }
      have F2 := F.keeps hk'
      have N2 : News g L h' [(h.objs.size, o')] := by
        intro p hp
        cases List.mem_singleton.mp hp
        exact ⟨ho', (N1 _ (.head _)).2⟩
      clear N N1 F
      k_steps
      exact CEnd.intro (ad := [_]) (by k_asm) (by k_asm) (by walk_at "led") ⟨_, _, rfl, rfl, hlo, _, hd'', hf⟩

end
section
section
variable {prog : Program} {w : World} {A : Around} {E : Value → Shared → Prop} {s : Shared} {env : Env} {h₀ : Heap} {L : Addr} {x : Str} {body : List Stmt} {Q : Flow → Shared → Prop}
def TurnPostB (h₀ : Heap) (L I : Addr) (oI : Obj) (J Jf : List (Str × Value) → List (Addr × Obj) → Prop) (s₁ : Shared) (Q : Flow → Shared → Prop) (f : Flow) (s₂ : Shared) : Prop :=
  match f with
  | .ret v => Q (.ret v) s₂
  | .brk => TurnEnd h₀ L I oI Jf s₁ s₂
  | _ => TurnEnd h₀ L I oI J s₁ s₂
theorem for_bytesB {b : Array UInt8} {t : Tok} {m₀ : Str → Option Value} {news : List (Addr × Obj)} (J : Nat → List (Str × Value) → List (Addr × Obj) → Prop) (Jf : List (Str × Value) → List (Addr × Obj) → Prop) (ps₀ : List (Str × Value)) (led₀ : List (Addr × Obj))
    (hh : A.handled = none) (F : Fr h₀ env.locals s.heap m₀) (N : News h₀ env.locals s.heap news) (hled : ∀ p ∈ led₀, p ∈ news) (hps : ∀ p ∈ ps₀, m₀ p.1 = some p.2) (hj : J 0 ps₀ led₀) (hjf : ∀ ps led, J b.size ps led → Jf ps led)
    (turn : ∀ i (c : UInt8) u ps led m I oI h tk, i < b.size → b[i]? = some c → J i ps led → (∀ p ∈ led, p.1 ≠ I) → Fr h₀ env.locals h (fun y => if y = x then some (.int (c.toNat : Int) u) else kstB m ps y) → News h₀ env.locals h (led ++ [(I, oI)]) →
      wpAny (model prog w) A (execs body env) (TurnPostB h₀ env.locals I oI (J (i + 1)) Jf { s with heap := h, toks := tk } Q) E { s with heap := h, toks := tk })
    (done : ∀ ps led m h tk, Jf ps led → Fr h₀ env.locals h (kstB m ps) → News h₀ env.locals h led → Q .next { s with heap := h, toks := tk }) :
    wpAny (model prog w) A (pyIter (.bytes b t)) (fun it s₂ => LoopAtV prog w A h₀ env x body Q E it s₂) E s := by
  refine for_bytes J ps₀ led₀ hh F N hled hps hj (fun i c u ps led m I oI h tk hi hc hJ hI F' N' => ?_) fun ps led m h tk hJ F' N' => done ps led m h tk (hjf _ _ hJ) F' N'
  refine wpAny_mono (turn i c u ps led m I oI h tk hi hc hJ hI F' N') (fun f s₂ hf => ?_) fun _ _ e => e
  cases f with
  | ret v => exact hf
  | brk =>
    obtain ⟨h', tk', m', news', ps', led', rfl, F2, N2, hl, _, _, hp, hj'⟩ := hf
    exact done ps' led' m' h' tk' hj' (fr_ps hp F2) fun p hp => N2 p (hl p hp)
  | next => exact hf
  | cont => exact hf
end
section
variable {w : World} {A : Around} {E : Value → Shared → Prop} {s : Shared} {h₀ : Heap} {L : Addr} {news : List (Addr × Obj)} {d : Addr} {o : Obj} {D : List (PyData × PyData)} {i : Int} {t : Tok}
theorem TabOk.tab (T : TabOk w d o D) (hd : s.heap.get? d = some o) : IntTab PG w s.heap d D :=
  let ⟨lo, _, hk, hf⟩ := T; TabAt.ofObj lo hd hk hf
def widx (c : Int) : Option Int := ((List.range 64).find? fun (i : Nat) => at_ signs64 i = c).map fun (i : Nat) => (i : Int)
theorem widx_lo {c v : Int} (h : widx c = some v) : 0 ≤ v ∧ v < 64 := by
  unfold widx at h
  obtain ⟨i, hi, rfl⟩ := Option.map_eq_some_iff.mp h
  have := List.mem_range.mp (List.mem_of_find?_eq_some hi)
  (first | lia | omega)
theorem lookup_map (f : Nat → Int) (c : Int) : ∀ l : List Nat, PySem.Spec.lookup (.int c) (l.map fun (i : Nat) => (PyData.int (f i), PyData.int i)) = (l.find? fun i => f i = c).map fun (i : Nat) => PyData.int i
  | [] => rfl
  | i :: l => by
    rw [List.map_cons, List.find?_cons]
    simp only [PySem.Spec.lookup, PyProof.V.same_int]
    by_cases h : f i = c
    · rw [if_pos (by simpa using h)]
      simp [h]
    · rw [if_neg (by simpa using h), lookup_map f c l]
      simp [h]
theorem lookup_worth (c : Int) : PySem.Spec.lookup (.int c) (worthTab signs64 64) = (widx c).map PyData.int := by
  unfold worthTab widx
  rw [lookup_map (fun i => at_ signs64 i) c, Option.map_map]
  rfl
theorem in_T {Q : Value → Shared → Prop} (N : News h₀ L s.heap news) (hm : (d, o) ∈ news) (T : TabOk w d o (worthTab signs64 64)) (h : Q (.bool (widx i).isSome) { s with toks := s.toks + 1 }) :
    wpAny (model PG w) A (compareOp .In (.int i t) (.ref d)) Q E s := by
  refine in_intTab (T.tab (N _ hm).1) ?_
  rw [lookup_worth, Option.isSome_map]
  exact h
theorem item_T {value slice : PySem.Expr} {Q : Value → Shared → Prop} (N : News h₀ L s.heap news) (hm : (d, o) ∈ news) (T : TabOk w d o (worthTab signs64 64)) (hs : (widx i).isSome = true) (h : ∀ t', Q (.int ((widx i).getD 0) t') { s with toks := s.toks + 1 })
    (hs1 : subscripted slice false (.ref d) (.int i t) = operate [.ref d, .int i t] (getItem (.ref d) (.int i t)) := by with_unfolding_all rfl) (hg : ∀ r, letTemporaryGo value (.ref d) r = pure () := by intro _; with_unfolding_all rfl) :
    wpAny (model PG w) A (subscriptTail value slice (.ref d) (.int i t)) Q E s := by
  obtain ⟨v, hv⟩ := Option.isSome_iff_exists.mp hs
  refine item_intTab (T.tab (N _ hm).1) (dv := .int v) (by rw [lookup_worth, hv]; rfl) (fun v' hf => ?_) hs1 hg
  rw [hv] at h
  obtain ⟨t', rfl⟩ := hf.int_inv
  exact h _
end
section
variable {w : World} {lv : Nat} {f : Addr} {args : List Value} {inp : List (Addr × Obj)} {mean : ExcName → Option Value} {mg mb : Str → Option Value} {dp un : Nat} {gd : Option (List Code)} {fr : List Env} {s : Shared} {Q E : Value → Shared → Prop} {h₀ : Heap} {L : Addr} {m : Str → Option Value} {news : List (Addr × Obj)}
theorem use_tab {D : List (PyData × PyData)} (C : Ctr w lv f args (PTab w D)) (X : (hd.heap_1 w.params).In h₀) (T : Top PP LO mean mg mb h₀) (F : Fr h₀ L s.heap m) (N : News h₀ L s.heap news) (hd : dp + lv < recursionLimit) (hu : un + 8 * lv < cLine)
    (h : ∀ d o h' tk', TabOk w d o D → Fr h₀ L h' m → News h₀ L h' ((d, o) :: news) → (∀ q ∈ news, d ≠ q.1) → Q (.ref d) { s with heap := h', toks := tk' }) : wpAny (model PG w) (mkA dp un gd fr) (call (.ref f) args) Q E s :=
  ctr_use C X T F N hd hu fun _ _ h' tk' hp F' N' hne => by obtain ⟨d, o, rfl, rfl, hv⟩ := hp; exact h d o h' tk' hv F' N' (hne _ (List.mem_singleton.mpr rfl))
theorem usei_oct {x : Array UInt8} (C : CtrI w lv f args inp (POct x)) (X : (hd.heap_1 w.params).In h₀) (T : Top PP LO mean mg mb h₀) (F : Fr h₀ L s.heap m) (N : News h₀ L s.heap news) (hin : ∀ p ∈ inp, p ∈ news) (hd : dp + lv < recursionLimit) (hu : un + 8 * lv < cLine)
    (h : ∀ T t1 k t2 n0 h' tk', Fr h₀ L h' m → News h₀ L h' ((T, ({ cls := .type "tuple", data := .seq #[.bytes x t1, .int k t2] n0 } : Obj)) :: news) → (∀ q ∈ news, T ≠ q.1) → Q (.ref T) { s with heap := h', toks := tk' }) : wpAny (model PG w) (mkA dp un gd fr) (call (.ref f) args) Q E s :=
  ctri_use C X T F N hin hd hu fun _ _ h' tk' hp F' N' hne => by obtain ⟨T, t1, k, t2, n0, rfl, rfl⟩ := hp; exact h T t1 k t2 n0 h' tk' F' N' (hne _ (List.mem_singleton.mpr rfl))
end

end
section
theorem zk_22 : True := by
  k_with_none
  k_with "side" => (first | with_reducible assumption | (first | lia | omega) | assumption | decide | ((simp (decide := true) only [Int.fdiv_eq_ediv_of_nonneg, Int.fmod_eq_emod_of_nonneg, List.size_toArray, List.length_cons, List.length_nil] at *); (first | lia | omega)))
  k_with "c enter" => (((case ho => k_is); (case hcd => k_is); (case hlv => decide); (case hb => first | exact (fun s X => BindsTo.of_eq rfl) | exact (fun s X => binds_K X rfl (by k_is) rfl rfl rfl)); (case hl => exact locs rfl); (case hc => decide); (case h1 => exact rfl); (case h2 => exact rfl); (case h3 => exact rfl); intro mean mg mb dp un gd fr s g L h₁ tk X T hd hu F N; (try dsimp only); (try k_fold)))
  k_with "c enterI" => (((case ho => k_is); (case hcd => k_is); (case hlv => decide); (case hb => first | exact (fun s X => BindsTo.of_eq rfl) | exact (fun s X => binds_K X rfl (by k_is) rfl rfl rfl)); (case hl => exact locs rfl); (case hc => decide); (case h1 => exact rfl); (case h2 => exact rfl); (case h3 => exact rfl); intro mean mg mb dp un gd fr s g L h₁ tk hI hIL X T hd hu F N; (replace hI := hI _ (List.Mem.head _)); (replace hIL := hIL _ (List.Mem.head _)); (try dsimp only at hI hIL); (try dsimp only); (try k_fold)))
  k_with "c enterC" => (((case ho => k_is); (case hcd => k_is); (case hlv => decide); (case hb => first | exact (fun s X => BindsTo.of_eq rfl) | exact (fun s X => binds_K X rfl (by k_is) rfl rfl rfl)); (case hl => exact rfl); (case hc => decide +kernel); (case h1 => exact rfl); (case h2 => exact rfl); (case h3 => exact rfl); intro mean mg mb dp un gd fr s g L h₁ tk cells X T hd hu F N Y; k_cells Y; (try simp only [List.cons_append, List.nil_append] at N); (try dsimp only); (try k_fold)))
  k_with "c enterIC" => (((case ho => k_is); (case hcd => k_is); (case hlv => decide); (case hb => first | exact (fun s X => BindsTo.of_eq rfl) | exact (fun s X => binds_K X rfl (by k_is) rfl rfl rfl)); (case hl => exact rfl); (case hc => decide +kernel); (case h1 => exact rfl); (case h2 => exact rfl); (case h3 => exact rfl); intro mean mg mb dp un gd fr s g L h₁ tk cells hI hIL X T hd hu F N Y; (replace hI := hI _ (List.Mem.head _)); (replace hIL := hIL _ (List.Mem.head _)); (try dsimp only at hI hIL); k_cells Y; (try simp only [List.cons_append, List.nil_append] at N); (try dsimp only); (try k_fold)))
  k_with "subscriptTail" => ((k_here; (with_reducible show wpAny _ _ (subscriptTail _ (Expr.Slice _ _ none _) (Value.bytes _ _) (Value.ref _)) _ _ _); (with_reducible rename Fr _ _ _ _ => F'); (with_reducible rename News _ _ _ _ => N'); k_dflt (first
      | ((with_reducible show wpAny _ _ (subscriptTail _ (Expr.Slice (some (Expr.UnaryOp _ _ _)) none none _) _ _) _ _ _); refine' slice_last (s := ⟨_, _, _, _, _⟩) F' N' ?qzz ?qze ?_; (case qze => first | rfl | decide); (case qzz => walk_at "side"); k_whole)
      | ((with_reducible show wpAny _ _ (subscriptTail _ (Expr.Slice (some _) (some _) none _) _ _) _ _ _); refine' slice_ss (s := ⟨_, _, _, _, _⟩) F' N' ?qza ?qzb ?qzz ?_; (case qza => walk_at "side"); (case qzb => walk_at "side"); (case qzz => walk_at "side"))
      | ((with_reducible show wpAny _ _ (subscriptTail _ (Expr.Slice (some _) none none _) _ _) _ _ _); refine' slice_sn (s := ⟨_, _, _, _, _⟩) F' N' ?qza ?qzz ?_; (case qza => walk_at "side"); (case qzz => walk_at "side"))
      | ((with_reducible show wpAny _ _ (subscriptTail _ (Expr.Slice none (some _) none _) _ _) _ _ _); refine' slice_ns (s := ⟨_, _, _, _, _⟩) F' N' ?qza ?qzz ?_; (case qza => walk_at "side"); (case qzz => walk_at "side"))); intro _ _ _ hcut F' N'))
  k_with "subscriptTail" => ((k_here; (with_reducible show wpAny _ _ (subscriptTail _ _ (Value.bytes _ _) (Value.int _ _)) _ _ _); k_dflt (refine' item_M ?qzz ?qza ?qzb ?_; (case qzz => walk_at "side"); (case qza => walk_at "side"); (case qzb => walk_at "side")); intro _ _ hlo hhi))
  k_with "getMethod bytes" => ((k_here; first | (with_reducible refine meth_join ?_) | (with_reducible refine meth_find ?_) | (with_reducible refine meth_split ?_) | (with_reducible refine meth_rstrip ?_)))
  k_with "call builtin:bytes.find" => ((k_here; k_dflt first | (refine' find4 ?qza ?qzb ?_; (case qza => walk_at "side"); (case qzb => walk_at "side"); intro _ _) | (refine' find3 ?qza ?_; (case qza => walk_at "side"); intro _ _)))
  k_with "call builtin:bytes.rstrip" => ((k_here; (try dsimp only [List.cons_append, List.nil_append]); k_dflt (refine' rstrip2 ?qza ?_; (case qza => walk_at "side")); intro r' t' k' hr' hrs'))
  k_with "exec For Name Name cons nil" => ((k_here; (rename Fr _ _ _ _ => lF'); (with_unfolding_all refine' For_invVF lF' ?qzk1 ?qzk2 ?_; (case qzk1 => exact rfl); (case qzk2 => exact rfl); k_whole)))
  k_with "exec For Name Call cons nil" => ((k_here; (rename Fr _ _ _ _ => lF'); (with_unfolding_all refine' For_invVF lF' ?qzk1 ?qzk2 ?_; (case qzk1 => exact rfl); (case qzk2 => exact rfl); k_whole)))
  k_with "pyIter bytes" => (((with_reducible show wpAny _ _ (pyIter (Value.bytes _ _)) (fun it s₂ => LoopAtV _ _ _ _ _ _ _ _ _ it s₂) _ _); refine park ?_))
  k_with "pyIter ref" => (((with_reducible show wpAny _ _ (pyIter (Value.ref _)) (fun it s₂ => LoopAtV _ _ _ _ _ _ _ _ _ it s₂) _ _); refine park ?_))
  k_with "exec While Compare cons nil" => ((k_here; refine park ?_))
  k_with "exec While Constant cons nil" => ((k_here; refine park ?_))
  k_with "ints" => (first | assumption | (repeat' (first | exact IntsAre.nil | refine IntsAre.cons _ _ ?_)))
  k_with "in256" => (first | assumption | exact in_nil | (refine in_cons ?qzia ?qzib ?qzic; (case qzia => walk_at "side"); (case qzib => walk_at "side"); (case qzic => walk_at "in256")))
  k_with "call type:bytes" => ((k_here; (with_reducible show wpAny _ _ (call (Value.type "bytes") [Value.ref _]) _ _ _); k_dflt (refine' KBa.make_K ?qzkbaF ?qzkbaN ?qzkbah ?qzkbal ?qzkbai ?qzkbar ?qzkban ?_; (case qzkbaF => k_asm); (case qzkbaN => k_asm); (case qzkbah => rfl); (case qzkbal => kba_isList); (case qzkbai => walk_at "ints"); (case qzkbar => walk_at "in256"); (case qzkban => walk_at "side")); intro _ _ _ F' N' kbaIn; (try k_sweep)))
  k_with "ps" => ((repeat' (first | exact List.forall_mem_nil _ | (refine List.forall_mem_cons.mpr ⟨by with_unfolding_all rfl, ?_⟩))))
  k_with "led" => ((repeat' (first | exact List.forall_mem_nil _ | (refine List.forall_mem_cons.mpr ⟨by k_mem, ?_⟩) | (intro p9 hp9; (repeat' (first | exact hp9 | refine List.Mem.tail _ ?_))))))
  k_with "lsize" => (first | size_fits | ((try rw [PySem.sizeLine_eq]); (simp only [List.size_toArray, Array.size_push]); (first | lia | omega)))
  k_with "call builtin:list.append" => ((k_here; (try dsimp only [List.cons_append, List.nil_append]); (with_reducible show wpAny _ _ (call (Value.builtin _) [Value.ref _, _]) _ _ _); k_dflt (refine' append_K ?qzk1 ?qzk2 ?qzk3 ?_ ?qzz; (case qzk1 => k_asm); (case qzk2 => k_asm); (case qzk3 => k_upd); (case qzz => walk_at "lsize"); k_whole); intro h' F' N'; (try k_sweep)))
  k_with "offI" => ((repeat' (first | exact List.forall_mem_nil _ | assumption | (refine List.forall_mem_cons.mpr ⟨by (refine neN ?_; (try dsimp only); (first | lia | omega)), ?_⟩))))
  k_with "bl get" => (first | (apply Fr.keep (by k_asm); assumption) | exact News.get (by k_asm) (by k_mem))
  k_with "subscriptTail" => ((k_here; (with_reducible show wpAny _ _ (subscriptTail _ _ (Value.ref _) (Value.int _ _)) _ _ _); k_dflt (refine' item_bl ?qzhl ?qzhv ?qza ?qzb ?qzz ?_; (case qzhv => with_reducible assumption); (case qzhl => walk_at "bl get"); (case qza => walk_at "side"); (case qzb => walk_at "side"); (case qzz => walk_at "side")); intro _ _))
  k_with "call builtin:len" => ((k_here; (with_reducible show wpAny _ _ (call (Value.builtin "len") [Value.ref _]) _ _ _); k_dflt (first | (refine' len_base ?qzhl ?qzF ?qzz ?_; (case qzhl => assumption); (case qzF => k_asm); (case qzz => walk_at "side")) | (refine' len_led ?qzN ?qzhm ?qzz ?_; (case qzN => k_asm); (case qzhm => k_mem); (case qzz => walk_at "side"))); intro _ _))
  k_with "binaryOp Add bytes bytes" => ((k_here; (with_reducible show wpAny _ _ (binaryOp Operator.Add (Value.bytes _ _) (Value.bytes _ _)) _ _ _); k_dflt (refine' KBy.add_bytes ?qzz ?_; (case qzz => walk_at "side")); intro _ _))
  k_with "call builtin:bytes.join" => ((k_here; (try dsimp only [List.cons_append, List.nil_append]); k_dflt (refine' join0 ?qzhl ?qzhv ?qzz ?_; (case qzhl => walk_at "bl get"); (case qzhv => walk_at "bytes are"); (case qzz => walk_at "side")); intro _ _))
  k_with "bytes are" => (first | with_reducible assumption | assumption | (repeat' (first | exact BytesAre.nil | refine BytesAre.cons ?_)))
  k_with "call builtin:bytes.split" => ((k_here; (try dsimp only [List.cons_append, List.nil_append]); k_dflt (refine' split1 ?qzF ?qzN ?qzc ?qza ?qzb ?_; (case qzF => k_asm); (case qzN => k_asm); (case qzc => rfl); (case qza => walk_at "side"); (case qzb => walk_at "side")); intro l' vs' h' k' hvs' F' N' hne'; (replace hne' := allNe_of9 hne'); (simp only [NeAll, and_true] at hne'); (try k_sweep)))
  k_with "call builtin:list.extend" => ((k_here; (with_reducible show wpAny _ _ (call (Value.builtin _) [Value.ref _, Value.ref _]) _ _ _); k_dflt (refine' ext_M ?qzF ?qzN ?qza ?qzb ?qzne ?qzU ?qzz ?_; (case qzF => k_asm); (case qzN => k_asm); (case qzb => k_mem); (case qzU => k_upd); (case qzne => walk_at "side"); (case qzz => walk_at "side"); (case qza => trivial)); intro h' F' N'; (try k_sweep)))
  k_with "subscriptTail Name Slice ref ref" => ((k_here; (with_reducible show wpAny _ _ (subscriptTail _ (PySem.Expr.Slice _ _ none _) (Value.ref _) (Value.ref _)) _ _ _); k_dflt (first
      | (refine' lslice_run (s := ⟨_, _, _, _, _⟩) ?qzF ?qzN ?qzhm ?qzhx ?qzhy ?qzhz ?_ ?qzhs ?qzht; (case qzF => k_asm); (case qzN => k_asm); (case qzhm => k_mem); (case qzhx => walk_at "side"); (case qzhy => walk_at "side"); (case qzhz => walk_at "side"); (case qzhs => with_unfolding_all rfl); (case qzht => kmk_pure))
      | (refine' lslice_to (s := ⟨_, _, _, _, _⟩) ?qzF ?qzN ?qzhm ?qzhy ?qzhz ?_ ?qzhs ?qzht; (case qzF => k_asm); (case qzN => k_asm); (case qzhm => k_mem); (case qzhy => walk_at "side"); (case qzhz => walk_at "side"); (case qzhs => with_unfolding_all rfl); (case qzht => kmk_pure))); intro D' h' F' N' l1; (try k_lt l1); (try k_sweep)))
  k_with "binaryOp LShift int int" => ((k_here; (with_reducible show wpAny _ _ (binaryOp Operator.LShift (Value.int _ _) (Value.int _ _)) _ _ _); k_dflt (refine' lshift_int_small ?qza ?qzb ?qzc ?_; (case qza => walk_at "side"); (case qzb => walk_at "side"); (case qzc => walk_at "side"))))
  k_with "binaryOp RShift int int" => ((k_here; (with_reducible show wpAny _ _ (binaryOp Operator.RShift (Value.int _ _) (Value.int _ _)) _ _ _); k_dflt (refine' rshift_int ?qza ?_; (case qza => walk_at "side"))))
  k_with "binaryOp BitAnd int int" => ((k_here; (with_reducible show wpAny _ _ (binaryOp Operator.BitAnd (Value.int _ _) (Value.int _ _)) _ _ _); k_dflt (first | (with_reducible refine and_63 ?_; intro _ _ hlo hhi) | (with_reducible refine and_255 ?_; intro _ _ hlo hhi) | (refine and_gen ?_; intro _ _ _))))
  k_with "comp range" => ((k_here; (with_reducible show wpAny _ _ (eval (PySem.Expr.ListComp _ [⟨PySem.Expr.Name _ _, _, [], _⟩] _ _) _) _ _ _); k_dflt (refine ListComp_RS (by k_asm) (by with_unfolding_all rfl) (by decide) (by rfl) (by decide) (by rfl) ?_)))
  k_with "eval ListComp" => (walk_at "comp range")
  k_with "RangeSrc" => ((refine park ?_))
  k_with "call ref" => ((k_here; (with_reducible show wpAny _ _ (call (Value.ref 19) _) _ _ _); k_dflt (refine' use_tab (c_worth _ _ _ ?qza ?qzb) ?qzX ?qzT ?qzF ?qzN ?qzd ?qzu ?_; (case qza => walk_at "side"); (case qzb => walk_at "side"); (case qzX => k_asm); (case qzT => k_asm); (case qzF => k_asm); (case qzN => k_asm); (case qzd => (first | lia | omega)); (case qzu => (first | lia | omega)); intro d' o' h' tk' hd' F' N' hne'; (replace hne' := ne_all hne'); (simp only [NeAll, and_true] at hne'); (try k_sweep))))
  k_with "call ref" => ((k_here; (with_reducible show wpAny _ _ (call (Value.ref 29) _) _ _ _); k_dflt (refine' usei_oct (c_go _ _ _ _ _ ?qza ?qzb ?qzc ?qze) ?qzX ?qzT ?qzF ?qzN ?qzhin ?qzd ?qzu ?_; (case qzF => k_asm); (case qzN => k_asm); (case qzhin => walk_at "led"); (case qza => walk_at "side"); (case qzb => walk_at "side"); (case qzc => walk_at "side"); (case qze => walk_at "side"); (case qzX => k_asm); (case qzT => k_asm); (case qzd => (first | lia | omega)); (case qzu => (first | lia | omega)); intro T' t1' k1' t2' n0' h' tk' F' N' hne'; (replace hne' := ne_all hne'); (simp only [NeAll, and_true] at hne'); (try k_sweep))))
  k_with "compareOp In int ref" => ((k_here; (with_reducible show wpAny _ _ (compareOp CmpOp.In (Value.int _ _) (Value.ref _)) _ _ _); k_dflt (refine' in_T ?qzN ?qzhm ?qzT ?_; (case qzN => k_asm); (case qzhm => k_mem); (case qzT => k_asm))))
  k_with "subscriptTail" => ((k_here; (with_reducible show wpAny _ _ (subscriptTail _ _ (Value.ref _) (Value.int _ _)) _ _ _); k_dflt (refine' item_T ?qzN ?qzhm ?qzT ?qzhs ?_; (case qzhs => assumption); (case qzN => k_asm); (case qzT => k_asm); (case qzhm => k_mem)); intro _))
  trivial
def wl : List UInt8 → List Int
  | [] => []
  | c :: r => if (c.toNat : Int) = 61 then [] else match widx c.toNat with
    | some v => v :: wl r
    | none => wl r
def decParts (ns : List Int) (i : Nat) : List (Array UInt8) := (List.range i).filterMap fun (j : Nat) => if ns.length > 4 * j + 1 then some (byteArr (groupOcts ((ns.drop (4 * j)).take 4))) else none
def decB (b : Array UInt8) : Array UInt8 := flat (decParts (wl b.toList) (((wl b.toList).length + 3) / 4))
theorem wl_le : ∀ l : List UInt8, (wl l).length ≤ l.length
  | [] => Nat.le_refl _
  | c :: r => by
    have := wl_le r
    rw [wl]
    split
    · simp
    · split
      · simp; (first | lia | omega)
      · simp; (first | lia | omega)
theorem wl_in : ∀ (l : List UInt8), ∀ x ∈ wl l, 0 ≤ x ∧ x < 64
  | [], x, h => nomatch h
  | c :: r, x, h => by
    rw [wl] at h
    split at h
    · cases h
    · split at h
      · rename_i v hv
        rcases List.mem_cons.mp h with rfl | h
        · exact widx_lo hv
        · exact wl_in r x h
      · exact wl_in r x h
theorem bytes_snoc {vs : List Value} {bs : List (Array UInt8)} {x : Array UInt8} {t : Tok} (h : BytesAre vs bs) : BytesAre (vs ++ [.bytes x t]) (bs ++ [x]) := h.append .one
theorem decParts_yes {ns : List Int} {i : Nat} (h : ns.length > 4 * i + 1) : decParts ns (i + 1) = decParts ns i ++ [byteArr (groupOcts ((ns.drop (4 * i)).take 4))] := by
  unfold decParts
  rw [List.range_succ, List.filterMap_append]
  simp [h]
theorem decParts_no {ns : List Int} {i : Nat} (h : ¬ ns.length > 4 * i + 1) : decParts ns (i + 1) = decParts ns i := by
  unfold decParts
  rw [List.range_succ, List.filterMap_append]
  simp [h]
theorem decParts_le (ns : List Int) (i : Nat) : (decParts ns i).length ≤ i ∧ (flat (decParts ns i)).size ≤ 3 * i := by
  induction i with
  | zero => exact ⟨Nat.le_refl _, Nat.le_refl _⟩
  | succ i ih =>
    by_cases h : ns.length > 4 * i + 1
    · rw [decParts_yes h, flat_append, Array.size_append, List.length_append]
      have hf1 : (flat [byteArr (groupOcts ((ns.drop (4 * i)).take 4))]).size ≤ 3 := by
        rw [flat_one, byteArr_size]
        unfold groupOcts
        simp
        (first | lia | omega)
      simp only [List.length_cons, List.length_nil]
      (first | lia | omega)
    · rw [decParts_no h]
      (first | lia | omega)
set_option maxHeartbeats 4000000 in
theorem c_dec (w : World) (b : Array UInt8) (tb : Tok) (hb : b.size ≤ 100) : Ctr w 2 63 [.bytes b tb] (PBytes (decB b)) := by
  have hnd : ((List.range 64).map fun (i : Nat) => at_ signs64 i).Nodup := by decide
  have hl64 : signs64.size = 64 := rfl
  refine' ctr_enter (binds := [(Str.ofString "data", .bytes b tb)]) ?ho ?hcd ?hlv ?hb ?hl ?hc ?h1 ?h2 ?h3 ?_
  walk_at "c enter"
  k_steps
  rename Obj => od0
  unfold Park
  refine' for_bytesB (fun i ps led => ∃ (o d : Addr) (od : Obj) (ws : List Value) (k : Nat) (ns : List Int), TabOk w d od (worthTab signs64 64) ∧ IntsAre ws ns ∧ ns ++ wl (b.toList.drop i) = wl b.toList ∧ ns.length ≤ i ∧ ps = [(Str.ofString "data", .bytes b tb), (Str.ofString "worths", .ref d), (Str.ofString "worth_row", .ref o)] ∧ led = [(o, listOf ws.toArray k), (d, od)] ∧ @Ne Nat o d) (fun ps led => ∃ (o d : Addr) (od : Obj) (ws : List Value) (k : Nat), TabOk w d od (worthTab signs64 64) ∧ IntsAre ws (wl b.toList) ∧ ps = [(Str.ofString "data", .bytes b tb), (Str.ofString "worths", .ref d), (Str.ofString "worth_row", .ref o)] ∧ led = [(o, listOf ws.toArray k), (d, od)] ∧ @Ne Nat o d) [(Str.ofString "data", .bytes b tb), (Str.ofString "worths", .ref _), (Str.ofString "worth_row", .ref _)] [(_, _), (_, od0)] rfl (by k_asm) (by k_asm) ?led ?ps ?j ?jf ?turn ?done
  case ps => walk_at "ps"
  case led => walk_at "led"
  case j => exact ⟨_, _, _, [], _, [], (by assumption), .nil, rfl, Nat.le_refl _, rfl, rfl, by (first | lia | omega)⟩
  case jf =>
    rintro ps led ⟨o, d, od, ws, k, ns, hT, hw, hu, _, rfl, rfl, hne⟩
    rw [List.drop_of_length_le (by rw [Array.length_toList]; exact Nat.le_refl _), wl, List.append_nil] at hu
    exact ⟨o, d, od, ws, k, hT, hu ▸ hw, rfl, rfl, hne⟩
  case turn =>
    intro i c u ps led m I oI h tk hi hc hJ hI F N
    obtain ⟨o, d, od, ws, k, ns, hT, hw, hu, hnl, rfl, rfl, hne⟩ := hJ
    replace hI := ne_all (l := I) (fun q hq => Ne.symm (hI q hq))
    simp only [NeAll, and_true] at hI
    simp only [List.cons_append, List.nil_append] at N
    have hwl := hw.length
    have hc' : b.toList[i]? = some c := by simpa using hc
    obtain ⟨hi', hce⟩ := List.getElem?_eq_some_iff.mp hc'
    rw [List.drop_eq_getElem_cons hi', hce] at hu
    k_steps
    · rw [wl, if_pos (by assumption), List.append_nil] at hu
      ((rename News _ _ _ _ => N9); (try simp only [List.push_toArray] at N9); refine TurnEnd.intro [(Str.ofString "data", .bytes b tb), (Str.ofString "worths", .ref d), (Str.ofString "worth_row", .ref o)] [(o, _), (d, od)] (by k_asm) N9 (by walk_at "led") (by k_mem) (by walk_at "offI") (by walk_at "ps") ?_)
      exact ⟨o, d, od, _, _, hT, hu ▸ hw, rfl, rfl, hne⟩
    · rw [wl, if_neg (by assumption)] at hu
      rename (widx _).isSome = true => hs
      obtain ⟨v, hv⟩ := Option.isSome_iff_exists.mp hs
      rw [hv] at hu
      ((rename News _ _ _ _ => N9); (try simp only [List.push_toArray] at N9); refine TurnEnd.intro [(Str.ofString "data", .bytes b tb), (Str.ofString "worths", .ref d), (Str.ofString "worth_row", .ref o)] [(o, _), (d, od)] (by k_asm) N9 (by walk_at "led") (by k_mem) (by walk_at "offI") (by walk_at "ps") ?_)
      refine ⟨o, d, od, _, _, _, hT, ints_snoc hw, ?_, by simp; (first | lia | omega), rfl, rfl, hne⟩
      rw [hv, List.append_assoc]
      exact hu
    · rw [wl, if_neg (by assumption)] at hu
      rename (widx _).isSome = false => hs
      have hv : widx c.toNat = none := by simpa using hs
      rw [hv] at hu
      ((rename News _ _ _ _ => N9); (try simp only [List.push_toArray] at N9); refine TurnEnd.intro [(Str.ofString "data", .bytes b tb), (Str.ofString "worths", .ref d), (Str.ofString "worth_row", .ref o)] [(o, _), (d, od)] (by k_asm) N9 (by walk_at "led") (by k_mem) (by walk_at "offI") (by walk_at "ps") ?_)
      exact ⟨o, d, od, _, _, ns, hT, hw, hu, by (first | lia | omega), rfl, rfl, hne⟩
  case done =>
    intro ps led m h tk hJ F N
    obtain ⟨o, d, od, ws, k, hT, hw, rfl, rfl, hne⟩ := hJ
    have hwl := hw.length
    have hwb : (wl b.toList).length ≤ b.size := by have := wl_le b.toList; rwa [Array.length_toList] at this
    have hwi := wl_in b.toList
    k_steps
    generalize hns : wl b.toList = ns at *
    unfold Park
    refine' for_range (n := (ns.length + 3) / 4) (fun i ps led => ∃ (f : Addr) (fs : List Value) (n : Nat), BytesAre fs (decParts ns i) ∧ ps = [(Str.ofString "worth_row", .ref o), (Str.ofString "found", .ref f)] ∧ led = [(f, listOf fs.toArray n), (o, listOf ws.toArray k)] ∧ @Ne Nat f o) [(Str.ofString "worth_row", .ref o), (Str.ofString "found", .ref _)] [(_, _), (o, _)] rfl (by assumption) ?small ?size (by k_asm) (by k_asm) ?led ?ps ?j ?turn ?done
    case ps => walk_at "ps"
    case led => walk_at "led"
    case small => exact small_4 (by (first | lia | omega)) (by (first | lia | omega))
    case size => (rw [rangeSize_pos (by decide) (by (first | lia | omega))]; (first | lia | omega))
    case j => exact ⟨_, [], _, .nil, rfl, rfl, by (first | lia | omega)⟩
    case turn =>
      intro i k2 u ps led m I oI h tk hi hk hJ hI F N
      obtain ⟨f, fs, n, hf, rfl, rfl, hne2⟩ := hJ
      replace hI := ne_all (l := I) (fun q hq => Ne.symm (hI q hq))
      simp only [NeAll, and_true] at hI
      simp only [List.cons_append, List.nil_append] at N
      have hvI : IntsAre ((ws.drop k2.toNat).take ((k2 + 4).toNat - k2.toNat)) ((ns.drop (4 * i)).take 4) := by
        rw [show k2.toNat = 4 * i by (first | lia | omega), show (k2 + 4).toNat - 4 * i = 4 by (first | lia | omega)]
        exact (hw.drop _).take _
      have hsl : ((ns.drop (4 * i)).take 4).length = min 4 (ns.length - 4 * i) := by rw [List.length_take, List.length_drop]
      have hsr : ∀ x ∈ (ns.drop (4 * i)).take 4, 0 ≤ x ∧ x < 64 := fun x hx => hwi x (List.mem_of_mem_drop (List.mem_of_mem_take hx))
      have hfl := hf.length
      have hdl := decParts_le ns i
      k_steps
      · ((rename News _ _ _ _ => N9); (try simp only [List.push_toArray] at N9); refine TurnEnd.intro [(Str.ofString "worth_row", .ref o), (Str.ofString "found", .ref f)] [(f, _), (o, _)] (by k_asm) N9 (by walk_at "led") (by k_mem) (by walk_at "offI") (by walk_at "ps") ?_)
        refine ⟨f, _, _, ?_, rfl, rfl, hne2⟩
        rw [decParts_yes (by (first | lia | omega))]
        exact bytes_snoc hf
      · ((rename News _ _ _ _ => N9); (try simp only [List.push_toArray] at N9); refine TurnEnd.intro [(Str.ofString "worth_row", .ref o), (Str.ofString "found", .ref f)] [(f, _), (o, _)] (by k_asm) N9 (by walk_at "led") (by k_mem) (by walk_at "offI") (by walk_at "ps") ?_)
        exact ⟨f, _, _, by rw [decParts_no (by (first | lia | omega))]; exact hf, rfl, rfl, hne2⟩
    case done =>
      intro ps led m h tk hJ F N
      obtain ⟨f, fs, n, hf, rfl, rfl, hne2⟩ := hJ
      have hdl := decParts_le ns ((ns.length + 3) / 4)
      k_steps
      exact CEnd.flat (by k_asm) (pbytes (by unfold decB; rw [hns]))

end
section
theorem zk_23 : True := by
  k_with_none
  k_with "side" => (first | with_reducible assumption | (first | lia | omega) | assumption | decide | ((simp (decide := true) only [Int.fdiv_eq_ediv_of_nonneg, Int.fmod_eq_emod_of_nonneg, List.size_toArray, List.length_cons, List.length_nil] at *); (first | lia | omega)))
  k_with "c enter" => (((case ho => k_is); (case hcd => k_is); (case hlv => decide); (case hb => first | exact (fun s X => BindsTo.of_eq rfl) | exact (fun s X => binds_K X rfl (by k_is) rfl rfl rfl)); (case hl => exact locs rfl); (case hc => decide); (case h1 => exact rfl); (case h2 => exact rfl); (case h3 => exact rfl); intro mean mg mb dp un gd fr s g L h₁ tk X T hd hu F N; (try dsimp only); (try k_fold)))
  k_with "c enterI" => (((case ho => k_is); (case hcd => k_is); (case hlv => decide); (case hb => first | exact (fun s X => BindsTo.of_eq rfl) | exact (fun s X => binds_K X rfl (by k_is) rfl rfl rfl)); (case hl => exact locs rfl); (case hc => decide); (case h1 => exact rfl); (case h2 => exact rfl); (case h3 => exact rfl); intro mean mg mb dp un gd fr s g L h₁ tk hI hIL X T hd hu F N; (replace hI := hI _ (List.Mem.head _)); (replace hIL := hIL _ (List.Mem.head _)); (try dsimp only at hI hIL); (try dsimp only); (try k_fold)))
  k_with "c enterC" => (((case ho => k_is); (case hcd => k_is); (case hlv => decide); (case hb => first | exact (fun s X => BindsTo.of_eq rfl) | exact (fun s X => binds_K X rfl (by k_is) rfl rfl rfl)); (case hl => exact rfl); (case hc => decide +kernel); (case h1 => exact rfl); (case h2 => exact rfl); (case h3 => exact rfl); intro mean mg mb dp un gd fr s g L h₁ tk cells X T hd hu F N Y; k_cells Y; (try simp only [List.cons_append, List.nil_append] at N); (try dsimp only); (try k_fold)))
  k_with "c enterIC" => (((case ho => k_is); (case hcd => k_is); (case hlv => decide); (case hb => first | exact (fun s X => BindsTo.of_eq rfl) | exact (fun s X => binds_K X rfl (by k_is) rfl rfl rfl)); (case hl => exact rfl); (case hc => decide +kernel); (case h1 => exact rfl); (case h2 => exact rfl); (case h3 => exact rfl); intro mean mg mb dp un gd fr s g L h₁ tk cells hI hIL X T hd hu F N Y; (replace hI := hI _ (List.Mem.head _)); (replace hIL := hIL _ (List.Mem.head _)); (try dsimp only at hI hIL); k_cells Y; (try simp only [List.cons_append, List.nil_append] at N); (try dsimp only); (try k_fold)))
  k_with "subscriptTail" => ((k_here; (with_reducible show wpAny _ _ (subscriptTail _ (Expr.Slice _ _ none _) (Value.bytes _ _) (Value.ref _)) _ _ _); (with_reducible rename Fr _ _ _ _ => F'); (with_reducible rename News _ _ _ _ => N'); k_dflt (first
      | ((with_reducible show wpAny _ _ (subscriptTail _ (Expr.Slice (some (Expr.UnaryOp _ _ _)) none none _) _ _) _ _ _); refine' slice_last (s := ⟨_, _, _, _, _⟩) F' N' ?qzz ?qze ?_; (case qze => first | rfl | decide); (case qzz => walk_at "side"); k_whole)
      | ((with_reducible show wpAny _ _ (subscriptTail _ (Expr.Slice (some _) (some _) none _) _ _) _ _ _); refine' slice_ss (s := ⟨_, _, _, _, _⟩) F' N' ?qza ?qzb ?qzz ?_; (case qza => walk_at "side"); (case qzb => walk_at "side"); (case qzz => walk_at "side"))
      | ((with_reducible show wpAny _ _ (subscriptTail _ (Expr.Slice (some _) none none _) _ _) _ _ _); refine' slice_sn (s := ⟨_, _, _, _, _⟩) F' N' ?qza ?qzz ?_; (case qza => walk_at "side"); (case qzz => walk_at "side"))
      | ((with_reducible show wpAny _ _ (subscriptTail _ (Expr.Slice none (some _) none _) _ _) _ _ _); refine' slice_ns (s := ⟨_, _, _, _, _⟩) F' N' ?qza ?qzz ?_; (case qza => walk_at "side"); (case qzz => walk_at "side"))); intro _ _ _ hcut F' N'))
  k_with "subscriptTail" => ((k_here; (with_reducible show wpAny _ _ (subscriptTail _ _ (Value.bytes _ _) (Value.int _ _)) _ _ _); k_dflt (refine' item_M ?qzz ?qza ?qzb ?_; (case qzz => walk_at "side"); (case qza => walk_at "side"); (case qzb => walk_at "side")); intro _ _ hlo hhi))
  k_with "getMethod bytes" => ((k_here; first | (with_reducible refine meth_join ?_) | (with_reducible refine meth_find ?_) | (with_reducible refine meth_split ?_) | (with_reducible refine meth_rstrip ?_)))
  k_with "call builtin:bytes.find" => ((k_here; k_dflt first | (refine' find4 ?qza ?qzb ?_; (case qza => walk_at "side"); (case qzb => walk_at "side"); intro _ _) | (refine' find3 ?qza ?_; (case qza => walk_at "side"); intro _ _)))
  k_with "call builtin:bytes.rstrip" => ((k_here; (try dsimp only [List.cons_append, List.nil_append]); k_dflt (refine' rstrip2 ?qza ?_; (case qza => walk_at "side")); intro r' t' k' hr' hrs'))
  k_with "exec For Name Name cons nil" => ((k_here; (rename Fr _ _ _ _ => lF'); (with_unfolding_all refine' For_invVF lF' ?qzk1 ?qzk2 ?_; (case qzk1 => exact rfl); (case qzk2 => exact rfl); k_whole)))
  k_with "exec For Name Call cons nil" => ((k_here; (rename Fr _ _ _ _ => lF'); (with_unfolding_all refine' For_invVF lF' ?qzk1 ?qzk2 ?_; (case qzk1 => exact rfl); (case qzk2 => exact rfl); k_whole)))
  k_with "pyIter bytes" => (((with_reducible show wpAny _ _ (pyIter (Value.bytes _ _)) (fun it s₂ => LoopAtV _ _ _ _ _ _ _ _ _ it s₂) _ _); refine park ?_))
  k_with "pyIter ref" => (((with_reducible show wpAny _ _ (pyIter (Value.ref _)) (fun it s₂ => LoopAtV _ _ _ _ _ _ _ _ _ it s₂) _ _); refine park ?_))
  k_with "exec While Compare cons nil" => ((k_here; refine park ?_))
  k_with "exec While Constant cons nil" => ((k_here; refine park ?_))
  k_with "ints" => (first | assumption | (repeat' (first | exact IntsAre.nil | refine IntsAre.cons _ _ ?_)))
  k_with "in256" => (first | assumption | exact in_nil | (refine in_cons ?qzia ?qzib ?qzic; (case qzia => walk_at "side"); (case qzib => walk_at "side"); (case qzic => walk_at "in256")))
  k_with "call type:bytes" => ((k_here; (with_reducible show wpAny _ _ (call (Value.type "bytes") [Value.ref _]) _ _ _); k_dflt (refine' KBa.make_K ?qzkbaF ?qzkbaN ?qzkbah ?qzkbal ?qzkbai ?qzkbar ?qzkban ?_; (case qzkbaF => k_asm); (case qzkbaN => k_asm); (case qzkbah => rfl); (case qzkbal => kba_isList); (case qzkbai => walk_at "ints"); (case qzkbar => walk_at "in256"); (case qzkban => walk_at "side")); intro _ _ _ F' N' kbaIn; (try k_sweep)))
  k_with "ps" => ((repeat' (first | exact List.forall_mem_nil _ | (refine List.forall_mem_cons.mpr ⟨by with_unfolding_all rfl, ?_⟩))))
  k_with "led" => ((repeat' (first | exact List.forall_mem_nil _ | (refine List.forall_mem_cons.mpr ⟨by k_mem, ?_⟩) | (intro p9 hp9; (repeat' (first | exact hp9 | refine List.Mem.tail _ ?_))))))
  k_with "lsize" => (first | size_fits | ((try rw [PySem.sizeLine_eq]); (simp only [List.size_toArray, Array.size_push]); (first | lia | omega)))
  k_with "call builtin:list.append" => ((k_here; (try dsimp only [List.cons_append, List.nil_append]); (with_reducible show wpAny _ _ (call (Value.builtin _) [Value.ref _, _]) _ _ _); k_dflt (refine' append_K ?qzk1 ?qzk2 ?qzk3 ?_ ?qzz; (case qzk1 => k_asm); (case qzk2 => k_asm); (case qzk3 => k_upd); (case qzz => walk_at "lsize"); k_whole); intro h' F' N'; (try k_sweep)))
  k_with "offI" => ((repeat' (first | exact List.forall_mem_nil _ | assumption | (refine List.forall_mem_cons.mpr ⟨by (refine neN ?_; (try dsimp only); (first | lia | omega)), ?_⟩))))
  k_with "bl get" => (first | (apply Fr.keep (by k_asm); assumption) | exact News.get (by k_asm) (by k_mem))
  k_with "subscriptTail" => ((k_here; (with_reducible show wpAny _ _ (subscriptTail _ _ (Value.ref _) (Value.int _ _)) _ _ _); k_dflt (refine' item_bl ?qzhl ?qzhv ?qza ?qzb ?qzz ?_; (case qzhv => with_reducible assumption); (case qzhl => walk_at "bl get"); (case qza => walk_at "side"); (case qzb => walk_at "side"); (case qzz => walk_at "side")); intro _ _))
  k_with "call builtin:len" => ((k_here; (with_reducible show wpAny _ _ (call (Value.builtin "len") [Value.ref _]) _ _ _); k_dflt (first | (refine' len_base ?qzhl ?qzF ?qzz ?_; (case qzhl => assumption); (case qzF => k_asm); (case qzz => walk_at "side")) | (refine' len_led ?qzN ?qzhm ?qzz ?_; (case qzN => k_asm); (case qzhm => k_mem); (case qzz => walk_at "side"))); intro _ _))
  k_with "binaryOp Add bytes bytes" => ((k_here; (with_reducible show wpAny _ _ (binaryOp Operator.Add (Value.bytes _ _) (Value.bytes _ _)) _ _ _); k_dflt (refine' KBy.add_bytes ?qzz ?_; (case qzz => walk_at "side")); intro _ _))
  k_with "call builtin:bytes.join" => ((k_here; (try dsimp only [List.cons_append, List.nil_append]); k_dflt (refine' join0 ?qzhl ?qzhv ?qzz ?_; (case qzhl => walk_at "bl get"); (case qzhv => walk_at "bytes are"); (case qzz => walk_at "side")); intro _ _))
  k_with "bytes are" => (first | with_reducible assumption | assumption | (repeat' (first | exact BytesAre.nil | refine BytesAre.cons ?_)))
  k_with "call builtin:bytes.split" => ((k_here; (try dsimp only [List.cons_append, List.nil_append]); k_dflt (refine' split1 ?qzF ?qzN ?qzc ?qza ?qzb ?_; (case qzF => k_asm); (case qzN => k_asm); (case qzc => rfl); (case qza => walk_at "side"); (case qzb => walk_at "side")); intro l' vs' h' k' hvs' F' N' hne'; (replace hne' := allNe_of9 hne'); (simp only [NeAll, and_true] at hne'); (try k_sweep)))
  k_with "call builtin:list.extend" => ((k_here; (with_reducible show wpAny _ _ (call (Value.builtin _) [Value.ref _, Value.ref _]) _ _ _); k_dflt (refine' ext_M ?qzF ?qzN ?qza ?qzb ?qzne ?qzU ?qzz ?_; (case qzF => k_asm); (case qzN => k_asm); (case qzb => k_mem); (case qzU => k_upd); (case qzne => walk_at "side"); (case qzz => walk_at "side"); (case qza => trivial)); intro h' F' N'; (try k_sweep)))
  k_with "subscriptTail Name Slice ref ref" => ((k_here; (with_reducible show wpAny _ _ (subscriptTail _ (PySem.Expr.Slice _ _ none _) (Value.ref _) (Value.ref _)) _ _ _); k_dflt (first
      | (refine' lslice_run (s := ⟨_, _, _, _, _⟩) ?qzF ?qzN ?qzhm ?qzhx ?qzhy ?qzhz ?_ ?qzhs ?qzht; (case qzF => k_asm); (case qzN => k_asm); (case qzhm => k_mem); (case qzhx => walk_at "side"); (case qzhy => walk_at "side"); (case qzhz => walk_at "side"); (case qzhs => with_unfolding_all rfl); (case qzht => kmk_pure))
      | (refine' lslice_to (s := ⟨_, _, _, _, _⟩) ?qzF ?qzN ?qzhm ?qzhy ?qzhz ?_ ?qzhs ?qzht; (case qzF => k_asm); (case qzN => k_asm); (case qzhm => k_mem); (case qzhy => walk_at "side"); (case qzhz => walk_at "side"); (case qzhs => with_unfolding_all rfl); (case qzht => kmk_pure))); intro D' h' F' N' l1; (try k_lt l1); (try k_sweep)))
  k_with "binaryOp LShift int int" => ((k_here; (with_reducible show wpAny _ _ (binaryOp Operator.LShift (Value.int _ _) (Value.int _ _)) _ _ _); k_dflt (refine' lshift_int_small ?qza ?qzb ?qzc ?_; (case qza => walk_at "side"); (case qzb => walk_at "side"); (case qzc => walk_at "side"))))
  k_with "binaryOp RShift int int" => ((k_here; (with_reducible show wpAny _ _ (binaryOp Operator.RShift (Value.int _ _) (Value.int _ _)) _ _ _); k_dflt (refine' rshift_int ?qza ?_; (case qza => walk_at "side"))))
  k_with "binaryOp BitAnd int int" => ((k_here; (with_reducible show wpAny _ _ (binaryOp Operator.BitAnd (Value.int _ _) (Value.int _ _)) _ _ _); k_dflt (first | (with_reducible refine and_63 ?_; intro _ _ hlo hhi) | (with_reducible refine and_255 ?_; intro _ _ hlo hhi) | (refine and_gen ?_; intro _ _ _))))
  k_with "comp range" => ((k_here; (with_reducible show wpAny _ _ (eval (PySem.Expr.ListComp _ [⟨PySem.Expr.Name _ _, _, [], _⟩] _ _) _) _ _ _); k_dflt (refine ListComp_RS (by k_asm) (by with_unfolding_all rfl) (by decide) (by rfl) (by decide) (by rfl) ?_)))
  k_with "eval ListComp" => (walk_at "comp range")
  k_with "RangeSrc" => ((refine park ?_))
  trivial
def spanDat (t : Int × Int × Int) : Dat := .tuple [.int t.1, .int t.2.1, .int t.2.2]
def spanLen (t : Int × Int × Int) : Int := t.2.1 - t.1
def lens (l : List UInt8) : List Int := (lineParts l []).map fun p => (p.1.length : Int)
abbrev PSpans (b : Array UInt8) (r : Value) (ad : List (Addr × Obj)) : Prop := ∃ (l : Addr) (vs : List Value) (n : Nat) (tups : List (Addr × Obj)) (rows : List (Int × Int × Int)), r = .ref l ∧ ad = (l, listOf vs.toArray n) :: tups ∧ DatAll tups vs (rows.map spanDat) ∧ (rows.map spanLen = lens b.toList ∨ rows.map spanLen ++ [0] = lens b.toList)
theorem dat_span {news : List (Addr × Obj)} {T : Addr} {x y z : Int} {tx ty tz : Tok} {n0 : Nat} (hm : (T, ({ cls := .type "tuple", data := .seq #[.int x tx, .int y ty, .int z tz] n0 } : Obj)) ∈ news) : DatIn news (.ref T) (spanDat (x, y, z)) := by
  unfold spanDat
  exact DatIn.tuple (vs := [.int x tx, .int y ty, .int z tz]) (n := n0) hm (.cons (.int x tx) (.cons (.int y ty) (.cons (.int z tz) .nil)))
theorem lens_end (l : List UInt8) (h : ∀ c ∈ l, c ≠ 10) : lens l = [(l.length : Int)] := by
  unfold lens
  rw [lineParts_end _ _ h]
  rfl
theorem lens_nil : lens [] = [0] := rfl
theorem cut_len {b : Array UInt8} {i : Int} {n : Nat} (h1 : i.toNat ≤ n) (h2 : n ≤ b.toList.length) : ((cut b i n).toList.length : Int) = n - i.toNat := by
  rw [cut_toList, List.length_take, List.length_drop]
  (first | lia | omega)
theorem span_step {rows : List (Int × Int × Int)} {R : List Int} {x y z : Int} {v : Int} {r : List Int} (hu : rows.map spanLen ++ v :: r = R) (e : y - x = v) : (rows ++ [(x, y, z)]).map spanLen ++ r = R := by
  rw [List.map_append, List.append_assoc, ← hu, ← e]
  rfl
theorem spans_end {g h' : Heap} {s₀ : Shared} {L l : Addr} {m : Str → Option Value} {tk' : Nat} {n : Nat} {vs : List Value} {tups : List (Addr × Obj)} {b : Array UInt8} {rows : List (Int × Int × Int)}
    (F : Fr g L h' m) (N : News g L h' ((l, listOf vs.toArray n) :: tups))
    (hd : DatAll tups vs (rows.map spanDat)) (hu : rows.map spanLen = lens b.toList ∨ rows.map spanLen ++ [0] = lens b.toList) : CEnd g (PSpans b) s₀ (.ret (.ref l)) { s₀ with heap := h', toks := tk' } :=
  CEnd.intro (ad := (l, listOf vs.toArray n) :: tups) F N (fun _ h => h) ⟨_, _, _, _, _, rfl, rfl, hd, hu⟩
set_option maxHeartbeats 4000000 in
theorem c_spans (w : World) (b : Array UInt8) (tb : Tok) (hb : b.size ≤ 2000) : Ctr w 1 71 [.bytes b tb] (PSpans b) := by
  have hlb : b.toList.length = b.size := Array.length_toList
  refine' ctr_enter (binds := [(Str.ofString "data", .bytes b tb), (Str.ofString "at", .int 0 261), (Str.ofString "end", .int (-1) 263)]) ?ho ?hcd ?hlv ?hb ?hl ?hc ?h1 ?h2 ?h3 ?_
  walk_at "c enter"
  k_steps
  unfold Park
  refine' while_J (fun k ps led => ∃ (i : Int) (o : Addr) (vs : List Value) (n : Nat) (rows : List (Int × Int × Int)) (tups : List (Addr × Obj)) (t t2 : Tok), ps = [(Str.ofString "data", .bytes b tb), (Str.ofString "behind", .int b.size t2), (Str.ofString "found", .ref o), (Str.ofString "begin", .int i t)] ∧ led = (o, listOf vs.toArray n) :: tups ∧ DatAll tups vs (rows.map spanDat) ∧ (∀ p ∈ tups, p.1 ≠ o) ∧ 0 ≤ i ∧ i ≤ b.size ∧ (k : Int) = b.size - i + 1 ∧ rows.length ≤ i ∧ rows.map spanLen ++ lens (b.toList.drop i.toNat) = lens b.toList) (b.size + 1) [(Str.ofString "data", .bytes b tb), (Str.ofString "behind", .int b.size _), (Str.ofString "found", .ref _), (Str.ofString "begin", .int 0 _)] [(_, listOf #[] 0)] (by k_asm) (by k_asm) ?led ?ps ?j ?pass ?turn
  case ps => walk_at "ps"
  case led => walk_at "led"
  case pass => passes_own
  case j => exact ⟨0, _, [], _, [], [], _, _, rfl, rfl, .nil, (fun _ h => nomatch h), by (first | lia | omega), by (first | lia | omega), by (first | lia | omega), by simp, rfl⟩
  case turn =>
    intro k ps led m h tk hJ F N
    obtain ⟨i, o, vs, n, rows, tups, t, t2, rfl, rfl, hd, hto, h0, h1, hk, hrl, hu⟩ := hJ
    have hvl := hd.length
    rw [List.length_map] at hvl
    have hmin : Min.min (b.size : Int) (b.size : Int) = b.size := by (first | lia | omega)
    rcases (by (first | lia | omega) : i < b.size ∨ (b.size : Int) ≤ i) with hib | hib
    · rcases findNL h0 h1 with ⟨hf, hno⟩ | ⟨n', hf, g1, g2, g3, g4⟩
      · rw [← hmin] at hf
        k_steps
        rename News _ _ _ _ => NN
        dsimp only at NN
        refine CEnd.intro (ad := (o, _) :: (_, _) :: tups) (by k_asm) NN (by walk_at "led") ⟨_, _, _, _, rows ++ [(i, (b.size : Int), (b.size : Int))], rfl, rfl, ?_, Or.inl ?_⟩
        · rw [List.map_append, List.concat_eq_append]
          exact (hd.mono fun _ h => .tail _ h).append (.one (dat_span (.head _)))
        · rw [lens_end _ hno] at hu
          have := span_step (r := []) (x := i) (y := (b.size : Int)) (z := (b.size : Int)) hu (by rw [List.length_drop]; (first | lia | omega))
          rwa [List.append_nil] at this
      · have hl9 := lineParts_row _ [] (b.toList.drop (n' + 1)) g4
        rw [← drop_at g1 g2 g3, List.nil_append] at hl9
        have hlens : lens (b.toList.drop i.toNat) = ((rowOf ((b.toList.drop i.toNat).take (n' - i.toNat))).1.length : Int) :: lens (b.toList.drop (n' + 1)) := by
          unfold lens; rw [hl9]; rfl
        rw [hlens] at hu
        rw [← hmin] at hf
        k_steps
        · rename News _ _ _ _ => NN
          dsimp only at NN
          ((rename News _ _ _ _ => N9); (try simp only [List.push_toArray] at N9); refine WhPost.intro [(Str.ofString "data", .bytes b tb), (Str.ofString "behind", .int b.size _), (Str.ofString "found", .ref o), (Str.ofString "begin", .int _ _)] ((o, _) :: (_, _) :: tups) (k - (n' + 1 - i.toNat)) (by k_asm) N9 (by walk_at "led") (by walk_at "ps") ?_ ?_)
          · (first | lia | omega)
          · refine ⟨_, o, _, _, rows ++ [(i, findAt b #[10] i (Min.min (b.size : Int) (b.size : Int)) - 1, findAt b #[10] i (Min.min (b.size : Int) (b.size : Int)) + 1)], _, _, _, rfl, rfl, ?_, List.forall_mem_cons.mpr ⟨by (refine neN ?_; dsimp only; (first | lia | omega)), hto⟩, by rw [hf]; (first | lia | omega), by rw [hf]; (first | lia | omega), by rw [hf]; (first | lia | omega), by rw [List.length_append, hf]; simp only [List.length_cons, List.length_nil]; (first | lia | omega), ?_⟩
            · rw [List.map_append]
              exact (hd.mono fun _ h => .tail _ h).append (.one (dat_span (.head _)))
            · rw [show (findAt b #[10] i (Min.min (b.size : Int) (b.size : Int)) + 1).toNat = n' + 1 by rw [hf]; (first | lia | omega)]
              refine span_step hu ?_
              rename i < _ => q1
              rename at_ b _ = 13 => q2
              rw [hf] at q1 q2
              rw [row_13 h0 g2 q1 q2, show ((n' : Int) - 1) = ((n' - 1 : Nat) : Int) by (first | lia | omega), cut_len (by (first | lia | omega)) (by (first | lia | omega)), hf]
              (first | lia | omega)
        · rename News _ _ _ _ => NN
          dsimp only at NN
          ((rename News _ _ _ _ => N9); (try simp only [List.push_toArray] at N9); refine WhPost.intro [(Str.ofString "data", .bytes b tb), (Str.ofString "behind", .int b.size _), (Str.ofString "found", .ref o), (Str.ofString "begin", .int _ _)] ((o, _) :: (_, _) :: tups) (k - (n' + 1 - i.toNat)) (by k_asm) N9 (by walk_at "led") (by walk_at "ps") ?_ ?_)
          · (first | lia | omega)
          · refine ⟨_, o, _, _, rows ++ [(i, findAt b #[10] i (Min.min (b.size : Int) (b.size : Int)), findAt b #[10] i (Min.min (b.size : Int) (b.size : Int)) + 1)], _, _, _, rfl, rfl, ?_, List.forall_mem_cons.mpr ⟨by (refine neN ?_; dsimp only; (first | lia | omega)), hto⟩, by rw [hf]; (first | lia | omega), by rw [hf]; (first | lia | omega), by rw [hf]; (first | lia | omega), by rw [List.length_append, hf]; simp only [List.length_cons, List.length_nil]; (first | lia | omega), ?_⟩
            · rw [List.map_append]
              exact (hd.mono fun _ h => .tail _ h).append (.one (dat_span (.head _)))
            · rw [show (findAt b #[10] i (Min.min (b.size : Int) (b.size : Int)) + 1).toNat = n' + 1 by rw [hf]; (first | lia | omega)]
              refine span_step hu ?_
              rename at_ b _ ≠ 13 => q2
              rw [hf] at q2
              rw [row_no h0 g1 g2 (fun q => q2 q.2), cut_len (by (first | lia | omega)) (by (first | lia | omega)), hf]
              (first | lia | omega)
        · rename News _ _ _ _ => NN
          dsimp only at NN
          ((rename News _ _ _ _ => N9); (try simp only [List.push_toArray] at N9); refine WhPost.intro [(Str.ofString "data", .bytes b tb), (Str.ofString "behind", .int b.size _), (Str.ofString "found", .ref o), (Str.ofString "begin", .int _ _)] ((o, _) :: (_, _) :: tups) (k - (n' + 1 - i.toNat)) (by k_asm) N9 (by walk_at "led") (by walk_at "ps") ?_ ?_)
          · (first | lia | omega)
          · refine ⟨_, o, _, _, rows ++ [(i, findAt b #[10] i (Min.min (b.size : Int) (b.size : Int)), findAt b #[10] i (Min.min (b.size : Int) (b.size : Int)) + 1)], _, _, _, rfl, rfl, ?_, List.forall_mem_cons.mpr ⟨by (refine neN ?_; dsimp only; (first | lia | omega)), hto⟩, by rw [hf]; (first | lia | omega), by rw [hf]; (first | lia | omega), by rw [hf]; (first | lia | omega), by rw [List.length_append, hf]; simp only [List.length_cons, List.length_nil]; (first | lia | omega), ?_⟩
            · rw [List.map_append]
              exact (hd.mono fun _ h => .tail _ h).append (.one (dat_span (.head _)))
            · rw [show (findAt b #[10] i (Min.min (b.size : Int) (b.size : Int)) + 1).toNat = n' + 1 by rw [hf]; (first | lia | omega)]
              refine span_step hu ?_
              rename ¬ i < _ => q2
              rw [hf] at q2
              rw [row_no h0 g1 g2 (fun q => q2 q.1), cut_len (by (first | lia | omega)) (by (first | lia | omega)), hf]
              (first | lia | omega)
    · have e : b.toList.drop i.toNat = [] := List.drop_eq_nil_of_le (by (first | lia | omega))
      rw [e, lens_nil] at hu
      k_steps
      exact spans_end (by k_asm) (by k_asm) hd (Or.inr hu)

end
section
section
variable {w : World} {lv : Nat} {f : Addr} {args : List Value} {mean : ExcName → Option Value} {mg mb : Str → Option Value} {dp un : Nat} {gd : Option (List Code)} {fr : List Env} {s : Shared} {Q E : Value → Shared → Prop} {h₀ : Heap} {L : Addr} {m : Str → Option Value} {news : List (Addr × Obj)}
theorem use_sp {b : Array UInt8} (C : Ctr w lv f args (PSpans b)) (X : (hd.heap_1 w.params).In h₀) (T : Top PP LO mean mg mb h₀) (F : Fr h₀ L s.heap m) (N : News h₀ L s.heap news) (hd : dp + lv < recursionLimit) (hu : un + 8 * lv < cLine)
    (h : ∀ l vs n tups (rows : List (Int × Int × Int)) h' tk', DatAll tups vs (rows.map spanDat) → (rows.map spanLen = lens b.toList ∨ rows.map spanLen ++ [0] = lens b.toList) → Fr h₀ L h' m → News h₀ L h' ((l, listOf vs.toArray n) :: tups ++ news) → (∀ p ∈ (l, listOf vs.toArray n) :: tups, ∀ q ∈ news, p.1 ≠ q.1) → Q (.ref l) { s with heap := h', toks := tk' }) : wpAny (model PG w) (mkA dp un gd fr) (call (.ref f) args) Q E s :=
  ctr_use C X T F N hd hu fun _ _ h' tk' hp F' N' hne => by obtain ⟨l, vs, n, tups, rows, rfl, rfl, hda, hro⟩ := hp; exact h l vs n tups rows h' tk' hda hro F' N' hne
end

end
section
theorem zk_24 : True := by
  k_with_none
  k_with "side" => (first | with_reducible assumption | (first | lia | omega) | assumption | decide | ((simp (decide := true) only [Int.fdiv_eq_ediv_of_nonneg, Int.fmod_eq_emod_of_nonneg, List.size_toArray, List.length_cons, List.length_nil] at *); (first | lia | omega)))
  k_with "c enter" => (((case ho => k_is); (case hcd => k_is); (case hlv => decide); (case hb => first | exact (fun s X => BindsTo.of_eq rfl) | exact (fun s X => binds_K X rfl (by k_is) rfl rfl rfl)); (case hl => exact locs rfl); (case hc => decide); (case h1 => exact rfl); (case h2 => exact rfl); (case h3 => exact rfl); intro mean mg mb dp un gd fr s g L h₁ tk X T hd hu F N; (try dsimp only); (try k_fold)))
  k_with "c enterI" => (((case ho => k_is); (case hcd => k_is); (case hlv => decide); (case hb => first | exact (fun s X => BindsTo.of_eq rfl) | exact (fun s X => binds_K X rfl (by k_is) rfl rfl rfl)); (case hl => exact locs rfl); (case hc => decide); (case h1 => exact rfl); (case h2 => exact rfl); (case h3 => exact rfl); intro mean mg mb dp un gd fr s g L h₁ tk hI hIL X T hd hu F N; (replace hI := hI _ (List.Mem.head _)); (replace hIL := hIL _ (List.Mem.head _)); (try dsimp only at hI hIL); (try dsimp only); (try k_fold)))
  k_with "c enterC" => (((case ho => k_is); (case hcd => k_is); (case hlv => decide); (case hb => first | exact (fun s X => BindsTo.of_eq rfl) | exact (fun s X => binds_K X rfl (by k_is) rfl rfl rfl)); (case hl => exact rfl); (case hc => decide +kernel); (case h1 => exact rfl); (case h2 => exact rfl); (case h3 => exact rfl); intro mean mg mb dp un gd fr s g L h₁ tk cells X T hd hu F N Y; k_cells Y; (try simp only [List.cons_append, List.nil_append] at N); (try dsimp only); (try k_fold)))
  k_with "c enterIC" => (((case ho => k_is); (case hcd => k_is); (case hlv => decide); (case hb => first | exact (fun s X => BindsTo.of_eq rfl) | exact (fun s X => binds_K X rfl (by k_is) rfl rfl rfl)); (case hl => exact rfl); (case hc => decide +kernel); (case h1 => exact rfl); (case h2 => exact rfl); (case h3 => exact rfl); intro mean mg mb dp un gd fr s g L h₁ tk cells hI hIL X T hd hu F N Y; (replace hI := hI _ (List.Mem.head _)); (replace hIL := hIL _ (List.Mem.head _)); (try dsimp only at hI hIL); k_cells Y; (try simp only [List.cons_append, List.nil_append] at N); (try dsimp only); (try k_fold)))
  k_with "subscriptTail" => ((k_here; (with_reducible show wpAny _ _ (subscriptTail _ (Expr.Slice _ _ none _) (Value.bytes _ _) (Value.ref _)) _ _ _); (with_reducible rename Fr _ _ _ _ => F'); (with_reducible rename News _ _ _ _ => N'); k_dflt (first
      | ((with_reducible show wpAny _ _ (subscriptTail _ (Expr.Slice (some (Expr.UnaryOp _ _ _)) none none _) _ _) _ _ _); refine' slice_last (s := ⟨_, _, _, _, _⟩) F' N' ?qzz ?qze ?_; (case qze => first | rfl | decide); (case qzz => walk_at "side"); k_whole)
      | ((with_reducible show wpAny _ _ (subscriptTail _ (Expr.Slice (some _) (some _) none _) _ _) _ _ _); refine' slice_ss (s := ⟨_, _, _, _, _⟩) F' N' ?qza ?qzb ?qzz ?_; (case qza => walk_at "side"); (case qzb => walk_at "side"); (case qzz => walk_at "side"))
      | ((with_reducible show wpAny _ _ (subscriptTail _ (Expr.Slice (some _) none none _) _ _) _ _ _); refine' slice_sn (s := ⟨_, _, _, _, _⟩) F' N' ?qza ?qzz ?_; (case qza => walk_at "side"); (case qzz => walk_at "side"))
      | ((with_reducible show wpAny _ _ (subscriptTail _ (Expr.Slice none (some _) none _) _ _) _ _ _); refine' slice_ns (s := ⟨_, _, _, _, _⟩) F' N' ?qza ?qzz ?_; (case qza => walk_at "side"); (case qzz => walk_at "side"))); intro _ _ _ hcut F' N'))
  k_with "subscriptTail" => ((k_here; (with_reducible show wpAny _ _ (subscriptTail _ _ (Value.bytes _ _) (Value.int _ _)) _ _ _); k_dflt (refine' item_M ?qzz ?qza ?qzb ?_; (case qzz => walk_at "side"); (case qza => walk_at "side"); (case qzb => walk_at "side")); intro _ _ hlo hhi))
  k_with "getMethod bytes" => ((k_here; first | (with_reducible refine meth_join ?_) | (with_reducible refine meth_find ?_) | (with_reducible refine meth_split ?_) | (with_reducible refine meth_rstrip ?_)))
  k_with "call builtin:bytes.find" => ((k_here; k_dflt first | (refine' find4 ?qza ?qzb ?_; (case qza => walk_at "side"); (case qzb => walk_at "side"); intro _ _) | (refine' find3 ?qza ?_; (case qza => walk_at "side"); intro _ _)))
  k_with "call builtin:bytes.rstrip" => ((k_here; (try dsimp only [List.cons_append, List.nil_append]); k_dflt (refine' rstrip2 ?qza ?_; (case qza => walk_at "side")); intro r' t' k' hr' hrs'))
  k_with "exec For Name Name cons nil" => ((k_here; (rename Fr _ _ _ _ => lF'); (with_unfolding_all refine' For_invVF lF' ?qzk1 ?qzk2 ?_; (case qzk1 => exact rfl); (case qzk2 => exact rfl); k_whole)))
  k_with "exec For Name Call cons nil" => ((k_here; (rename Fr _ _ _ _ => lF'); (with_unfolding_all refine' For_invVF lF' ?qzk1 ?qzk2 ?_; (case qzk1 => exact rfl); (case qzk2 => exact rfl); k_whole)))
  k_with "pyIter bytes" => (((with_reducible show wpAny _ _ (pyIter (Value.bytes _ _)) (fun it s₂ => LoopAtV _ _ _ _ _ _ _ _ _ it s₂) _ _); refine park ?_))
  k_with "pyIter ref" => (((with_reducible show wpAny _ _ (pyIter (Value.ref _)) (fun it s₂ => LoopAtV _ _ _ _ _ _ _ _ _ it s₂) _ _); refine park ?_))
  k_with "exec While Compare cons nil" => ((k_here; refine park ?_))
  k_with "exec While Constant cons nil" => ((k_here; refine park ?_))
  k_with "ints" => (first | assumption | (repeat' (first | exact IntsAre.nil | refine IntsAre.cons _ _ ?_)))
  k_with "in256" => (first | assumption | exact in_nil | (refine in_cons ?qzia ?qzib ?qzic; (case qzia => walk_at "side"); (case qzib => walk_at "side"); (case qzic => walk_at "in256")))
  k_with "call type:bytes" => ((k_here; (with_reducible show wpAny _ _ (call (Value.type "bytes") [Value.ref _]) _ _ _); k_dflt (refine' KBa.make_K ?qzkbaF ?qzkbaN ?qzkbah ?qzkbal ?qzkbai ?qzkbar ?qzkban ?_; (case qzkbaF => k_asm); (case qzkbaN => k_asm); (case qzkbah => rfl); (case qzkbal => kba_isList); (case qzkbai => walk_at "ints"); (case qzkbar => walk_at "in256"); (case qzkban => walk_at "side")); intro _ _ _ F' N' kbaIn; (try k_sweep)))
  k_with "ps" => ((repeat' (first | exact List.forall_mem_nil _ | (refine List.forall_mem_cons.mpr ⟨by with_unfolding_all rfl, ?_⟩))))
  k_with "led" => ((repeat' (first | exact List.forall_mem_nil _ | (refine List.forall_mem_cons.mpr ⟨by k_mem, ?_⟩) | (intro p9 hp9; (repeat' (first | exact hp9 | refine List.Mem.tail _ ?_))))))
  k_with "lsize" => (first | size_fits | ((try rw [PySem.sizeLine_eq]); (simp only [List.size_toArray, Array.size_push]); (first | lia | omega)))
  k_with "call builtin:list.append" => ((k_here; (try dsimp only [List.cons_append, List.nil_append]); (with_reducible show wpAny _ _ (call (Value.builtin _) [Value.ref _, _]) _ _ _); k_dflt (refine' append_K ?qzk1 ?qzk2 ?qzk3 ?_ ?qzz; (case qzk1 => k_asm); (case qzk2 => k_asm); (case qzk3 => k_upd); (case qzz => walk_at "lsize"); k_whole); intro h' F' N'; (try k_sweep)))
  k_with "offI" => ((repeat' (first | exact List.forall_mem_nil _ | assumption | (refine List.forall_mem_cons.mpr ⟨by (refine neN ?_; (try dsimp only); (first | lia | omega)), ?_⟩))))
  k_with "bl get" => (first | (apply Fr.keep (by k_asm); assumption) | exact News.get (by k_asm) (by k_mem))
  k_with "subscriptTail" => ((k_here; (with_reducible show wpAny _ _ (subscriptTail _ _ (Value.ref _) (Value.int _ _)) _ _ _); k_dflt (refine' item_bl ?qzhl ?qzhv ?qza ?qzb ?qzz ?_; (case qzhv => with_reducible assumption); (case qzhl => walk_at "bl get"); (case qza => walk_at "side"); (case qzb => walk_at "side"); (case qzz => walk_at "side")); intro _ _))
  k_with "call builtin:len" => ((k_here; (with_reducible show wpAny _ _ (call (Value.builtin "len") [Value.ref _]) _ _ _); k_dflt (first | (refine' len_base ?qzhl ?qzF ?qzz ?_; (case qzhl => assumption); (case qzF => k_asm); (case qzz => walk_at "side")) | (refine' len_led ?qzN ?qzhm ?qzz ?_; (case qzN => k_asm); (case qzhm => k_mem); (case qzz => walk_at "side"))); intro _ _))
  k_with "binaryOp Add bytes bytes" => ((k_here; (with_reducible show wpAny _ _ (binaryOp Operator.Add (Value.bytes _ _) (Value.bytes _ _)) _ _ _); k_dflt (refine' KBy.add_bytes ?qzz ?_; (case qzz => walk_at "side")); intro _ _))
  k_with "call builtin:bytes.join" => ((k_here; (try dsimp only [List.cons_append, List.nil_append]); k_dflt (refine' join0 ?qzhl ?qzhv ?qzz ?_; (case qzhl => walk_at "bl get"); (case qzhv => walk_at "bytes are"); (case qzz => walk_at "side")); intro _ _))
  k_with "bytes are" => (first | with_reducible assumption | assumption | (repeat' (first | exact BytesAre.nil | refine BytesAre.cons ?_)))
  k_with "call builtin:bytes.split" => ((k_here; (try dsimp only [List.cons_append, List.nil_append]); k_dflt (refine' split1 ?qzF ?qzN ?qzc ?qza ?qzb ?_; (case qzF => k_asm); (case qzN => k_asm); (case qzc => rfl); (case qza => walk_at "side"); (case qzb => walk_at "side")); intro l' vs' h' k' hvs' F' N' hne'; (replace hne' := allNe_of9 hne'); (simp only [NeAll, and_true] at hne'); (try k_sweep)))
  k_with "call builtin:list.extend" => ((k_here; (with_reducible show wpAny _ _ (call (Value.builtin _) [Value.ref _, Value.ref _]) _ _ _); k_dflt (refine' ext_M ?qzF ?qzN ?qza ?qzb ?qzne ?qzU ?qzz ?_; (case qzF => k_asm); (case qzN => k_asm); (case qzb => k_mem); (case qzU => k_upd); (case qzne => walk_at "side"); (case qzz => walk_at "side"); (case qza => trivial)); intro h' F' N'; (try k_sweep)))
  k_with "subscriptTail Name Slice ref ref" => ((k_here; (with_reducible show wpAny _ _ (subscriptTail _ (PySem.Expr.Slice _ _ none _) (Value.ref _) (Value.ref _)) _ _ _); k_dflt (first
      | (refine' lslice_run (s := ⟨_, _, _, _, _⟩) ?qzF ?qzN ?qzhm ?qzhx ?qzhy ?qzhz ?_ ?qzhs ?qzht; (case qzF => k_asm); (case qzN => k_asm); (case qzhm => k_mem); (case qzhx => walk_at "side"); (case qzhy => walk_at "side"); (case qzhz => walk_at "side"); (case qzhs => with_unfolding_all rfl); (case qzht => kmk_pure))
      | (refine' lslice_to (s := ⟨_, _, _, _, _⟩) ?qzF ?qzN ?qzhm ?qzhy ?qzhz ?_ ?qzhs ?qzht; (case qzF => k_asm); (case qzN => k_asm); (case qzhm => k_mem); (case qzhy => walk_at "side"); (case qzhz => walk_at "side"); (case qzhs => with_unfolding_all rfl); (case qzht => kmk_pure))); intro D' h' F' N' l1; (try k_lt l1); (try k_sweep)))
  k_with "binaryOp LShift int int" => ((k_here; (with_reducible show wpAny _ _ (binaryOp Operator.LShift (Value.int _ _) (Value.int _ _)) _ _ _); k_dflt (refine' lshift_int_small ?qza ?qzb ?qzc ?_; (case qza => walk_at "side"); (case qzb => walk_at "side"); (case qzc => walk_at "side"))))
  k_with "binaryOp RShift int int" => ((k_here; (with_reducible show wpAny _ _ (binaryOp Operator.RShift (Value.int _ _) (Value.int _ _)) _ _ _); k_dflt (refine' rshift_int ?qza ?_; (case qza => walk_at "side"))))
  k_with "binaryOp BitAnd int int" => ((k_here; (with_reducible show wpAny _ _ (binaryOp Operator.BitAnd (Value.int _ _) (Value.int _ _)) _ _ _); k_dflt (first | (with_reducible refine and_63 ?_; intro _ _ hlo hhi) | (with_reducible refine and_255 ?_; intro _ _ hlo hhi) | (refine and_gen ?_; intro _ _ _))))
  k_with "comp range" => ((k_here; (with_reducible show wpAny _ _ (eval (PySem.Expr.ListComp _ [⟨PySem.Expr.Name _ _, _, [], _⟩] _ _) _) _ _ _); k_dflt (refine ListComp_RS (by k_asm) (by with_unfolding_all rfl) (by decide) (by rfl) (by decide) (by rfl) ?_)))
  k_with "eval ListComp" => (walk_at "comp range")
  k_with "RangeSrc" => ((refine park ?_))
  k_with "call ref" => ((k_here; (with_reducible show wpAny _ _ (call (Value.ref 71) _) _ _ _); k_dflt (refine' use_sp (c_spans _ _ _ ?qza) ?qzX ?qzT ?qzF ?qzN ?qzd ?qzu ?_; (case qza => walk_at "side"); (case qzX => k_asm); (case qzT => k_asm); (case qzF => k_asm); (case qzN => k_asm); (case qzd => (first | lia | omega)); (case qzu => (first | lia | omega)); intro l' vs' n' tups' rows' h' tk' hda' hro' F' N' hne'; (try k_sweep))))
  trivial
def neB (a b : Array UInt8) : Bool := a.toList != b.toList
theorem neB_false {a b : Array UInt8} (h : neB a b = false) : a = b := Array.ext' (by unfold neB at h; simpa using h)
theorem neB_true {a b : Array UInt8} (h : neB a b = true) : a ≠ b := by rintro rfl; unfold neB at h; simp at h
def NeIs (v : Bool) (a b : Array UInt8) : Prop := v = neB a b
section
variable {prog : Program} {w : World} {A : Around} {E : Value → Shared → Prop} {s : Shared}
theorem ne_B {a b : Array UInt8} {t u : Tok} {Q : Value → Shared → Prop} (h : ∀ v, NeIs v a b → Q (.bool v) s) : wpAny (model prog w) A (compareOp .NotEq (.bytes a t) (.bytes b u)) Q E s := ne_bytes (h _ rfl)
end
theorem zk_25 : True := by
  k_with "compareOp NotEq bytes bytes" => ((refine ne_B ?_; intro vb hvb))
  k_with "exec If BoolOp" => ((k_here; refine wpAny_If ?_))
  k_with "isTrue Compare Subscript" => ((exfalso; (first | lia | omega)))
  trivial
def codeOk (b : Array UInt8) (i : Int) : Bool := !(at_ b i == 0) && !decide (at_ b i > 127) && !(at_ b i == 13 && neB (cut b (i + 1) (i + 2)) #[10]) && !(at_ b i == 10 && neB (cut b (if 0 > i - 1 then 0 else i - 1) i) #[13])
def sevenBit (b : Array UInt8) : Bool := (List.range b.size).all (fun (i : Nat) => codeOk b i) && (lens b.toList).all (fun x => decide (x ≤ 998))
def AllOk (b : Array UInt8) (i : Nat) : Prop := ∀ j, j < i → codeOk b (j : Nat) = true
theorem seven_no {b : Array UInt8} {i : Nat} (hi : i < b.size) (h : codeOk b i = false) : sevenBit b = false := by
  unfold sevenBit
  rw [Bool.and_eq_false_iff]
  left
  rw [List.all_eq_false]
  exact ⟨i, List.mem_range.mpr hi, by rw [h]; decide⟩
theorem codeOk_0 {b : Array UInt8} {i : Int} (h : at_ b i = 0) : codeOk b i = false := by unfold codeOk; simp [h]
theorem codeOk_127 {b : Array UInt8} {i : Int} (h : 127 < at_ b i) : codeOk b i = false := by unfold codeOk; simp [h]
theorem codeOk_13 {b : Array UInt8} {i : Int} {v : Bool} (h : at_ b i = 13) (hv : NeIs v (cut b (i + 1) (i + 2)) #[10]) : codeOk b i = !v := by unfold codeOk; rw [← hv, h]; cases v <;> rfl
theorem codeOk_10 {b : Array UInt8} {i : Int} {v : Bool} (h : at_ b i = 10) (hv : NeIs v (cut b (if 0 > i - 1 then 0 else i - 1) i) #[13]) : codeOk b i = !v := by unfold codeOk; rw [← hv, h]; cases v <;> rfl
theorem codeOk_no {b : Array UInt8} {i : Int} (h0 : at_ b i ≠ 0) (h1 : ¬ 127 < at_ b i) (h2 : at_ b i ≠ 13) (h3 : at_ b i ≠ 10) : codeOk b i = true := by unfold codeOk; simp [h0, h1, h2, h3]
theorem AllOk.step {b : Array UInt8} {i : Nat} (h : AllOk b i) (e : codeOk b (i : Nat) = true) : AllOk b (i + 1) := fun j hj => by
  rcases Nat.lt_succ_iff_lt_or_eq.mp hj with h1 | rfl
  · exact h j h1
  · exact e
theorem span_of {news : List (Addr × Obj)} {v : Value} {t : Int × Int × Int} (h : DatIn news v (spanDat t)) : ∃ T a b d n0, v = .ref T ∧ (T, ({ cls := .type "tuple", data := .seq #[a, b, d] n0 } : Obj)) ∈ news ∧ ∃ t1 t2 t3, a = .int t.1 t1 ∧ b = .int t.2.1 t2 ∧ d = .int t.2.2 t3 := by
  unfold spanDat at h
  cases h with
  | tuple hm hr =>
    cases hr with
    | cons h1 hr =>
      cases hr with
      | cons h2 hr =>
        cases hr with
        | cons h3 hr =>
          cases hr
          cases h1; cases h2; cases h3
          exact ⟨_, _, _, _, _, rfl, hm, _, _, _, rfl, rfl, rfl⟩
def Bad (rows : List (Int × Int × Int)) (i : Nat) (ys : List Value) : Prop := ∃ k : Nat, IntsAre ys (List.replicate k 1) ∧ (k = 0 ↔ ∀ r ∈ rows.take i, spanLen r ≤ 998)
theorem Bad.yes {rows : List (Int × Int × Int)} {i : Nat} {ys : List Value} {t : Int × Int × Int} {u : Tok} (h : Bad rows i ys) (e : rows[i]? = some t) (hb : 998 < spanLen t) : Bad rows (i + 1) (ys ++ [.int 1 u]) := by
  obtain ⟨k, hy, hk⟩ := h
  refine ⟨k + 1, ?_, by simp, fun hr => ?_⟩
  · rw [List.replicate_succ']
    exact hy.append (.cons _ _ .nil)
  · have := hr t (by rw [List.take_add_one, e]; simp)
    (first | lia | omega)
theorem Bad.no {rows : List (Int × Int × Int)} {i : Nat} {ys : List Value} {t : Int × Int × Int} (h : Bad rows i ys) (e : rows[i]? = some t) (hb : ¬ 998 < spanLen t) : Bad rows (i + 1) ys := by
  obtain ⟨k, hy, hk⟩ := h
  refine ⟨k, hy, fun h0 r hr => ?_, fun hr => hk.mpr fun r hr' => hr r ?_⟩
  · rw [List.take_add_one, e] at hr
    rcases List.mem_append.mp hr with hr | hr
    · exact hk.mp h0 r hr
    · obtain rfl : r = t := by simpa using hr
      (first | lia | omega)
  · rw [List.take_add_one]
    exact List.mem_append_left _ hr'
theorem seven_end {b : Array UInt8} {rows : List (Int × Int × Int)} {k : Nat} (ha : AllOk b b.size) (hr : rows.map spanLen = lens b.toList ∨ rows.map spanLen ++ [0] = lens b.toList) (hk : k = 0 ↔ ∀ r ∈ rows, spanLen r ≤ 998) : decide (List.replicate k (1 : Int) = []) = sevenBit b := by
  have h1 : (List.range b.size).all (fun (i : Nat) => codeOk b i) = true := List.all_eq_true.mpr fun i hi => ha i (List.mem_range.mp hi)
  unfold sevenBit
  rw [h1, Bool.true_and]
  have h2 : (lens b.toList).all (fun x => decide (x ≤ 998)) = rows.all (fun r => decide (spanLen r ≤ 998)) := by
    rcases hr with e | e
    · rw [← e, List.all_map]; rfl
    · rw [← e, List.all_append, List.all_map]
      simp
      rfl
  rw [h2, Bool.eq_iff_iff, decide_eq_true_iff, List.all_eq_true]
  simp only [decide_eq_true_eq]
  rw [← hk]
  simp
theorem zk_26 : True := by
  k_with "eval ListComp" => ((k_here; (with_reducible show wpAny _ _ (eval (PySem.Expr.ListComp _ [⟨PySem.Expr.Tuple _ _ _, _, [_], _⟩] _ _) _) _ _ _); k_dflt (refine ListComp_TT (by k_asm) (by with_unfolding_all rfl) (by decide) (by rfl) (by decide) (by rfl) (by rfl) (by rfl) (by decide) ?_)))
  k_with "SrcTT" => ((refine park ?_))
  trivial
set_option maxHeartbeats 4000000 in
theorem c_seven (w : World) (b : Array UInt8) (tb : Tok) (hb : b.size ≤ 2000) : Ctr w 10 208 [.bytes b tb] (PBool (sevenBit b)) := by
  refine' ctr_enter (binds := [(Str.ofString "octets", .bytes b tb)]) ?ho ?hcd ?hlv ?hb ?hl ?hc ?h1 ?h2 ?h3 ?_
  walk_at "c enter"
  k_steps
  unfold Park
  refine' for_range (n := b.size) (fun i ps led => AllOk b i ∧ ps = [(Str.ofString "octets", .bytes b tb)] ∧ led = []) [(Str.ofString "octets", .bytes b tb)] [] rfl (by assumption) ?small ?size (by k_asm) (by k_asm) ?led ?ps ?j ?turn ?done
  case ps => walk_at "ps"
  case led => walk_at "led"
  case small => exact small_one (by (first | lia | omega)) (by (first | lia | omega)) (by (first | lia | omega)) (by (first | lia | omega))
  case size => exact rangeSize_nat _ _
  case j => exact ⟨fun j h => absurd h (Nat.not_lt_zero _), rfl, rfl⟩
  case turn =>
    intro i k u ps led m I oI h tk hi hk hJ hI F N
    obtain ⟨hall, rfl, rfl⟩ := hJ
    replace hI := ne_all (l := I) (fun q hq => Ne.symm (hI q hq))
    simp only [NeAll, and_true] at hI
    simp only [List.cons_append, List.nil_append] at N
    obtain rfl : k = i := by (first | lia | omega)
    k_steps
    · exact CEnd.flat (by k_asm) (pbool (seven_no hi (codeOk_0 (by assumption))).symm)
    · exact CEnd.flat (by k_asm) (pbool (seven_no hi (codeOk_127 (by assumption))).symm)
    · exact CEnd.flat (by k_asm) (pbool (seven_no hi (by rw [codeOk_13 (by assumption) (by assumption)]; simp only [*]; rfl)).symm)
    · ((rename News _ _ _ _ => N9); (try simp only [List.push_toArray] at N9); refine TurnEnd.intro [(Str.ofString "octets", .bytes b tb)] [] (by k_asm) N9 (by walk_at "led") (by k_mem) (by walk_at "offI") (by walk_at "ps") ?_)
      exact ⟨hall.step (by rw [codeOk_13 (by assumption) (by assumption)]; simp only [*]; rfl), rfl, rfl⟩
    · exact CEnd.flat (by k_asm) (pbool (seven_no hi (by rw [codeOk_10 (by assumption) (by assumption)]; simp only [*]; rfl)).symm)
    · ((rename News _ _ _ _ => N9); (try simp only [List.push_toArray] at N9); refine TurnEnd.intro [(Str.ofString "octets", .bytes b tb)] [] (by k_asm) N9 (by walk_at "led") (by k_mem) (by walk_at "offI") (by walk_at "ps") ?_)
      exact ⟨hall.step (by rw [codeOk_10 (by assumption) (by assumption)]; simp only [*]; rfl), rfl, rfl⟩
    · ((rename News _ _ _ _ => N9); (try simp only [List.push_toArray] at N9); refine TurnEnd.intro [(Str.ofString "octets", .bytes b tb)] [] (by k_asm) N9 (by walk_at "led") (by k_mem) (by walk_at "offI") (by walk_at "ps") ?_)
      exact ⟨hall.step (codeOk_no (by assumption) (by assumption) (by assumption) (by assumption)), rfl, rfl⟩
  case done =>
    intro ps led m h tk hJ F N
    obtain ⟨hall, rfl, rfl⟩ := hJ
    k_steps
    revert l' vs' n' tups' rows' h' tk' hda' hro' F' N' hne'; intro l vs n tups rows h' tk' hda hro F' N' hne
    have hrl : rows.length ≤ b.size + 1 := by
      have h1 : (lineParts b.toList []).length ≤ b.toList.length + 1 := lineParts_num b.toList []
      have h3 : b.toList.length = b.size := Array.length_toList
      have h2 : (lens b.toList).length = (lineParts b.toList []).length := List.length_map ..
      rcases hro with e | e
      · have h4 := congrArg List.length e
        rw [List.length_map, h2] at h4
        (first | lia | omega)
      · have h4 := congrArg List.length e
        rw [List.length_append, List.length_map, h2] at h4
        (first | lia | omega)
    have hvl := hda.length
    rw [List.length_map] at hvl
    unfold Park
    refine' SrcTT.mk' (fun i a b' d => ∃ t, rows[i]? = some t ∧ ∃ t1 t2 t3, a = .int t.1 t1 ∧ b' = .int t.2.1 t2 ∧ d = .int t.2.2 t3) (Bad rows) rfl (by k_asm) N' (List.Mem.head _) ?sz ?row ⟨0, .nil, by simp⟩ ?turn2 ?done2
    case sz => (first | lia | omega)
    case row =>
      intro i v hv
      have hi : i < (rows.map spanDat).length := by
        have := (List.getElem?_eq_some_iff.mp hv).1
        rw [List.length_map]; (first | lia | omega)
      obtain ⟨v', hv', hd⟩ := hda.get hi
      rw [hv] at hv'
      cases hv'
      rw [List.getElem_map] at hd
      obtain ⟨T, a, b', d, n0, rfl, hm, t1, t2, t3, ha, hb', hd'⟩ := span_of hd
      exact ⟨T, a, b', d, n0, rfl, List.mem_append_left _ (.tail _ hm), _, List.getElem?_eq_getElem _, t1, t2, t3, ha, hb', hd'⟩
    case turn2 =>
      rintro g i a b' d I oI C oC D m₂ ys h tk E' hi ⟨t, ht, t1, t2, t3, rfl, rfl, rfl⟩ hJ hC hx hy hz F N off ne
      k_steps
      · exact Same9.intro F N (fun _ h => h)
      · exact hJ.yes ht (by assumption)
      · exact Same9.intro F N (fun _ h => h)
      · exact hJ.no ht (by assumption)
    case done2 =>
      intro D ys h tk hJ F N off
      obtain ⟨k, hys, hk⟩ := hJ
      rw [hvl, List.take_length] at hk
      k_steps
      exact CEnd.flat (by k_asm) (pbool (seven_end hall hro hk))

end
section
theorem zk_27 : True := by
  k_with_none
  k_with "side" => (first | with_reducible assumption | (first | lia | omega) | assumption | decide | ((simp (decide := true) only [Int.fdiv_eq_ediv_of_nonneg, Int.fmod_eq_emod_of_nonneg, List.size_toArray, List.length_cons, List.length_nil] at *); (first | lia | omega)))
  k_with "c enter" => (((case ho => k_is); (case hcd => k_is); (case hlv => decide); (case hb => first | exact (fun s X => BindsTo.of_eq rfl) | exact (fun s X => binds_K X rfl (by k_is) rfl rfl rfl)); (case hl => exact locs rfl); (case hc => decide); (case h1 => exact rfl); (case h2 => exact rfl); (case h3 => exact rfl); intro mean mg mb dp un gd fr s g L h₁ tk X T hd hu F N; (try dsimp only); (try k_fold)))
  k_with "c enterI" => (((case ho => k_is); (case hcd => k_is); (case hlv => decide); (case hb => first | exact (fun s X => BindsTo.of_eq rfl) | exact (fun s X => binds_K X rfl (by k_is) rfl rfl rfl)); (case hl => exact locs rfl); (case hc => decide); (case h1 => exact rfl); (case h2 => exact rfl); (case h3 => exact rfl); intro mean mg mb dp un gd fr s g L h₁ tk hI hIL X T hd hu F N; (replace hI := hI _ (List.Mem.head _)); (replace hIL := hIL _ (List.Mem.head _)); (try dsimp only at hI hIL); (try dsimp only); (try k_fold)))
  k_with "c enterC" => (((case ho => k_is); (case hcd => k_is); (case hlv => decide); (case hb => first | exact (fun s X => BindsTo.of_eq rfl) | exact (fun s X => binds_K X rfl (by k_is) rfl rfl rfl)); (case hl => exact rfl); (case hc => decide +kernel); (case h1 => exact rfl); (case h2 => exact rfl); (case h3 => exact rfl); intro mean mg mb dp un gd fr s g L h₁ tk cells X T hd hu F N Y; k_cells Y; (try simp only [List.cons_append, List.nil_append] at N); (try dsimp only); (try k_fold)))
  k_with "c enterIC" => (((case ho => k_is); (case hcd => k_is); (case hlv => decide); (case hb => first | exact (fun s X => BindsTo.of_eq rfl) | exact (fun s X => binds_K X rfl (by k_is) rfl rfl rfl)); (case hl => exact rfl); (case hc => decide +kernel); (case h1 => exact rfl); (case h2 => exact rfl); (case h3 => exact rfl); intro mean mg mb dp un gd fr s g L h₁ tk cells hI hIL X T hd hu F N Y; (replace hI := hI _ (List.Mem.head _)); (replace hIL := hIL _ (List.Mem.head _)); (try dsimp only at hI hIL); k_cells Y; (try simp only [List.cons_append, List.nil_append] at N); (try dsimp only); (try k_fold)))
  k_with "subscriptTail" => ((k_here; (with_reducible show wpAny _ _ (subscriptTail _ (Expr.Slice _ _ none _) (Value.bytes _ _) (Value.ref _)) _ _ _); (with_reducible rename Fr _ _ _ _ => F'); (with_reducible rename News _ _ _ _ => N'); k_dflt (first
      | ((with_reducible show wpAny _ _ (subscriptTail _ (Expr.Slice (some (Expr.UnaryOp _ _ _)) none none _) _ _) _ _ _); refine' slice_last (s := ⟨_, _, _, _, _⟩) F' N' ?qzz ?qze ?_; (case qze => first | rfl | decide); (case qzz => walk_at "side"); k_whole)
      | ((with_reducible show wpAny _ _ (subscriptTail _ (Expr.Slice (some _) (some _) none _) _ _) _ _ _); refine' slice_ss (s := ⟨_, _, _, _, _⟩) F' N' ?qza ?qzb ?qzz ?_; (case qza => walk_at "side"); (case qzb => walk_at "side"); (case qzz => walk_at "side"))
      | ((with_reducible show wpAny _ _ (subscriptTail _ (Expr.Slice (some _) none none _) _ _) _ _ _); refine' slice_sn (s := ⟨_, _, _, _, _⟩) F' N' ?qza ?qzz ?_; (case qza => walk_at "side"); (case qzz => walk_at "side"))
      | ((with_reducible show wpAny _ _ (subscriptTail _ (Expr.Slice none (some _) none _) _ _) _ _ _); refine' slice_ns (s := ⟨_, _, _, _, _⟩) F' N' ?qza ?qzz ?_; (case qza => walk_at "side"); (case qzz => walk_at "side"))); intro _ _ _ hcut F' N'))
  k_with "subscriptTail" => ((k_here; (with_reducible show wpAny _ _ (subscriptTail _ _ (Value.bytes _ _) (Value.int _ _)) _ _ _); k_dflt (refine' item_M ?qzz ?qza ?qzb ?_; (case qzz => walk_at "side"); (case qza => walk_at "side"); (case qzb => walk_at "side")); intro _ _ hlo hhi))
  k_with "getMethod bytes" => ((k_here; first | (with_reducible refine meth_join ?_) | (with_reducible refine meth_find ?_) | (with_reducible refine meth_split ?_) | (with_reducible refine meth_rstrip ?_)))
  k_with "call builtin:bytes.find" => ((k_here; k_dflt first | (refine' find4 ?qza ?qzb ?_; (case qza => walk_at "side"); (case qzb => walk_at "side"); intro _ _) | (refine' find3 ?qza ?_; (case qza => walk_at "side"); intro _ _)))
  k_with "call builtin:bytes.rstrip" => ((k_here; (try dsimp only [List.cons_append, List.nil_append]); k_dflt (refine' rstrip2 ?qza ?_; (case qza => walk_at "side")); intro r' t' k' hr' hrs'))
  k_with "exec For Name Name cons nil" => ((k_here; (rename Fr _ _ _ _ => lF'); (with_unfolding_all refine' For_invVF lF' ?qzk1 ?qzk2 ?_; (case qzk1 => exact rfl); (case qzk2 => exact rfl); k_whole)))
  k_with "exec For Name Call cons nil" => ((k_here; (rename Fr _ _ _ _ => lF'); (with_unfolding_all refine' For_invVF lF' ?qzk1 ?qzk2 ?_; (case qzk1 => exact rfl); (case qzk2 => exact rfl); k_whole)))
  k_with "pyIter bytes" => (((with_reducible show wpAny _ _ (pyIter (Value.bytes _ _)) (fun it s₂ => LoopAtV _ _ _ _ _ _ _ _ _ it s₂) _ _); refine park ?_))
  k_with "pyIter ref" => (((with_reducible show wpAny _ _ (pyIter (Value.ref _)) (fun it s₂ => LoopAtV _ _ _ _ _ _ _ _ _ it s₂) _ _); refine park ?_))
  k_with "exec While Compare cons nil" => ((k_here; refine park ?_))
  k_with "exec While Constant cons nil" => ((k_here; refine park ?_))
  k_with "ints" => (first | assumption | (repeat' (first | exact IntsAre.nil | refine IntsAre.cons _ _ ?_)))
  k_with "in256" => (first | assumption | exact in_nil | (refine in_cons ?qzia ?qzib ?qzic; (case qzia => walk_at "side"); (case qzib => walk_at "side"); (case qzic => walk_at "in256")))
  k_with "call type:bytes" => ((k_here; (with_reducible show wpAny _ _ (call (Value.type "bytes") [Value.ref _]) _ _ _); k_dflt (refine' KBa.make_K ?qzkbaF ?qzkbaN ?qzkbah ?qzkbal ?qzkbai ?qzkbar ?qzkban ?_; (case qzkbaF => k_asm); (case qzkbaN => k_asm); (case qzkbah => rfl); (case qzkbal => kba_isList); (case qzkbai => walk_at "ints"); (case qzkbar => walk_at "in256"); (case qzkban => walk_at "side")); intro _ _ _ F' N' kbaIn; (try k_sweep)))
  k_with "ps" => ((repeat' (first | exact List.forall_mem_nil _ | (refine List.forall_mem_cons.mpr ⟨by with_unfolding_all rfl, ?_⟩))))
  k_with "led" => ((repeat' (first | exact List.forall_mem_nil _ | (refine List.forall_mem_cons.mpr ⟨by k_mem, ?_⟩) | (intro p9 hp9; (repeat' (first | exact hp9 | refine List.Mem.tail _ ?_))))))
  k_with "lsize" => (first | size_fits | ((try rw [PySem.sizeLine_eq]); (simp only [List.size_toArray, Array.size_push]); (first | lia | omega)))
  k_with "call builtin:list.append" => ((k_here; (try dsimp only [List.cons_append, List.nil_append]); (with_reducible show wpAny _ _ (call (Value.builtin _) [Value.ref _, _]) _ _ _); k_dflt (refine' append_K ?qzk1 ?qzk2 ?qzk3 ?_ ?qzz; (case qzk1 => k_asm); (case qzk2 => k_asm); (case qzk3 => k_upd); (case qzz => walk_at "lsize"); k_whole); intro h' F' N'; (try k_sweep)))
  k_with "offI" => ((repeat' (first | exact List.forall_mem_nil _ | assumption | (refine List.forall_mem_cons.mpr ⟨by (refine neN ?_; (try dsimp only); (first | lia | omega)), ?_⟩))))
  k_with "bl get" => (first | (apply Fr.keep (by k_asm); assumption) | exact News.get (by k_asm) (by k_mem))
  k_with "subscriptTail" => ((k_here; (with_reducible show wpAny _ _ (subscriptTail _ _ (Value.ref _) (Value.int _ _)) _ _ _); k_dflt (refine' item_bl ?qzhl ?qzhv ?qza ?qzb ?qzz ?_; (case qzhv => with_reducible assumption); (case qzhl => walk_at "bl get"); (case qza => walk_at "side"); (case qzb => walk_at "side"); (case qzz => walk_at "side")); intro _ _))
  k_with "call builtin:len" => ((k_here; (with_reducible show wpAny _ _ (call (Value.builtin "len") [Value.ref _]) _ _ _); k_dflt (first | (refine' len_base ?qzhl ?qzF ?qzz ?_; (case qzhl => assumption); (case qzF => k_asm); (case qzz => walk_at "side")) | (refine' len_led ?qzN ?qzhm ?qzz ?_; (case qzN => k_asm); (case qzhm => k_mem); (case qzz => walk_at "side"))); intro _ _))
  k_with "binaryOp Add bytes bytes" => ((k_here; (with_reducible show wpAny _ _ (binaryOp Operator.Add (Value.bytes _ _) (Value.bytes _ _)) _ _ _); k_dflt (refine' KBy.add_bytes ?qzz ?_; (case qzz => walk_at "side")); intro _ _))
  k_with "call builtin:bytes.join" => ((k_here; (try dsimp only [List.cons_append, List.nil_append]); k_dflt (refine' join0 ?qzhl ?qzhv ?qzz ?_; (case qzhl => walk_at "bl get"); (case qzhv => walk_at "bytes are"); (case qzz => walk_at "side")); intro _ _))
  k_with "bytes are" => (first | with_reducible assumption | assumption | (repeat' (first | exact BytesAre.nil | refine BytesAre.cons ?_)))
  k_with "call builtin:bytes.split" => ((k_here; (try dsimp only [List.cons_append, List.nil_append]); k_dflt (refine' split1 ?qzF ?qzN ?qzc ?qza ?qzb ?_; (case qzF => k_asm); (case qzN => k_asm); (case qzc => rfl); (case qza => walk_at "side"); (case qzb => walk_at "side")); intro l' vs' h' k' hvs' F' N' hne'; (replace hne' := allNe_of9 hne'); (simp only [NeAll, and_true] at hne'); (try k_sweep)))
  k_with "call builtin:list.extend" => ((k_here; (with_reducible show wpAny _ _ (call (Value.builtin _) [Value.ref _, Value.ref _]) _ _ _); k_dflt (refine' ext_M ?qzF ?qzN ?qza ?qzb ?qzne ?qzU ?qzz ?_; (case qzF => k_asm); (case qzN => k_asm); (case qzb => k_mem); (case qzU => k_upd); (case qzne => walk_at "side"); (case qzz => walk_at "side"); (case qza => trivial)); intro h' F' N'; (try k_sweep)))
  k_with "subscriptTail Name Slice ref ref" => ((k_here; (with_reducible show wpAny _ _ (subscriptTail _ (PySem.Expr.Slice _ _ none _) (Value.ref _) (Value.ref _)) _ _ _); k_dflt (first
      | (refine' lslice_run (s := ⟨_, _, _, _, _⟩) ?qzF ?qzN ?qzhm ?qzhx ?qzhy ?qzhz ?_ ?qzhs ?qzht; (case qzF => k_asm); (case qzN => k_asm); (case qzhm => k_mem); (case qzhx => walk_at "side"); (case qzhy => walk_at "side"); (case qzhz => walk_at "side"); (case qzhs => with_unfolding_all rfl); (case qzht => kmk_pure))
      | (refine' lslice_to (s := ⟨_, _, _, _, _⟩) ?qzF ?qzN ?qzhm ?qzhy ?qzhz ?_ ?qzhs ?qzht; (case qzF => k_asm); (case qzN => k_asm); (case qzhm => k_mem); (case qzhy => walk_at "side"); (case qzhz => walk_at "side"); (case qzhs => with_unfolding_all rfl); (case qzht => kmk_pure))); intro D' h' F' N' l1; (try k_lt l1); (try k_sweep)))
  k_with "binaryOp LShift int int" => ((k_here; (with_reducible show wpAny _ _ (binaryOp Operator.LShift (Value.int _ _) (Value.int _ _)) _ _ _); k_dflt (refine' lshift_int_small ?qza ?qzb ?qzc ?_; (case qza => walk_at "side"); (case qzb => walk_at "side"); (case qzc => walk_at "side"))))
  k_with "binaryOp RShift int int" => ((k_here; (with_reducible show wpAny _ _ (binaryOp Operator.RShift (Value.int _ _) (Value.int _ _)) _ _ _); k_dflt (refine' rshift_int ?qza ?_; (case qza => walk_at "side"))))
  k_with "binaryOp BitAnd int int" => ((k_here; (with_reducible show wpAny _ _ (binaryOp Operator.BitAnd (Value.int _ _) (Value.int _ _)) _ _ _); k_dflt (first | (with_reducible refine and_63 ?_; intro _ _ hlo hhi) | (with_reducible refine and_255 ?_; intro _ _ hlo hhi) | (refine and_gen ?_; intro _ _ _))))
  k_with "comp range" => ((k_here; (with_reducible show wpAny _ _ (eval (PySem.Expr.ListComp _ [⟨PySem.Expr.Name _ _, _, [], _⟩] _ _) _) _ _ _); k_dflt (refine ListComp_RS (by k_asm) (by with_unfolding_all rfl) (by decide) (by rfl) (by decide) (by rfl) ?_)))
  k_with "eval ListComp" => (walk_at "comp range")
  k_with "RangeSrc" => ((refine park ?_))
  k_with "call ref" => ((k_here; (with_reducible show wpAny _ _ (call (Value.ref 63) _) _ _ _); k_dflt (refine' use_bytes (c_dec _ _ _ ?qza) ?qzX ?qzT ?qzF ?qzN ?qzd ?qzu ?_; (case qza => walk_at "side"); (case qzX => k_asm); (case qzT => k_asm); (case qzF => k_asm); (case qzN => k_asm); (case qzd => (first | lia | omega)); (case qzu => (first | lia | omega)); intro t' h' tk' F' N'; (try k_sweep))))
  k_with "call ref" => ((k_here; (with_reducible show wpAny _ _ (call (Value.ref 196) _) _ _ _); k_dflt (refine' use_bytes (c_qdec _ _ _ ?qza ?qzb) ?qzX ?qzT ?qzF ?qzN ?qzd ?qzu ?_; (case qza => walk_at "side"); (case qzb => walk_at "side"); (case qzX => k_asm); (case qzT => k_asm); (case qzF => k_asm); (case qzN => k_asm); (case qzd => (first | lia | omega)); (case qzu => (first | lia | omega)); intro t' h' tk' F' N'; (try k_sweep))))
  trivial
set_option maxHeartbeats 4000000 in
theorem c_undone_odd (w : World) (b : Array UInt8) (tb : Tok) (tw : Tok) : Ctr w 5 203 [.str (Str.ofString "x-odd") tw, .bytes b tb] (PBytes b) := by
  refine' ctr_enter (binds := [(Str.ofString "encoding", .str (Str.ofString "x-odd") tw), (Str.ofString "octets", .bytes b tb)]) ?ho ?hcd ?hlv ?hb ?hl ?hc ?h1 ?h2 ?h3 ?_
  walk_at "c enter"
  k_steps
  all_goals exact CEnd.flat (by k_asm) (pbytes rfl)
set_option maxHeartbeats 4000000 in
theorem c_undone_7 (w : World) (b : Array UInt8) (tb : Tok) (tw : Tok) : Ctr w 5 203 [.str (Str.ofString "7bit") tw, .bytes b tb] (PBytes b) := by
  refine' ctr_enter (binds := [(Str.ofString "encoding", .str (Str.ofString "7bit") tw), (Str.ofString "octets", .bytes b tb)]) ?ho ?hcd ?hlv ?hb ?hl ?hc ?h1 ?h2 ?h3 ?_
  walk_at "c enter"
  k_steps
  all_goals exact CEnd.flat (by k_asm) (pbytes rfl)
set_option maxHeartbeats 4000000 in
theorem c_undone_b (w : World) (b : Array UInt8) (tb : Tok) (tw : Tok) (hb : b.size ≤ 100) : Ctr w 5 203 [.str (Str.ofString "base64") tw, .bytes b tb] (PBytes (decB b)) := by
  refine' ctr_enter (binds := [(Str.ofString "encoding", .str (Str.ofString "base64") tw), (Str.ofString "octets", .bytes b tb)]) ?ho ?hcd ?hlv ?hb ?hl ?hc ?h1 ?h2 ?h3 ?_
  walk_at "c enter"
  k_steps
  all_goals exact CEnd.flat (by k_asm) (pbytes rfl)
set_option maxHeartbeats 4000000 in
theorem c_undone_q (w : World) (b : Array UInt8) (tb : Tok) (tw : Tok) (hb : b.size ≤ 2000) (hz : (quotedDec b).size ≤ 4000) : Ctr w 5 203 [.str (Str.ofString "quoted-printable") tw, .bytes b tb] (PBytes (quotedDec b)) := by
  refine' ctr_enter (binds := [(Str.ofString "encoding", .str (Str.ofString "quoted-printable") tw), (Str.ofString "octets", .bytes b tb)]) ?ho ?hcd ?hlv ?hb ?hl ?hc ?h1 ?h2 ?h3 ?_
  walk_at "c enter"
  k_steps
  all_goals exact CEnd.flat (by k_asm) (pbytes rfl)

end
section
theorem zk_28 : True := by
  k_with_none
  k_with "side" => (first | with_reducible assumption | (first | lia | omega) | assumption | decide | ((simp (decide := true) only [Int.fdiv_eq_ediv_of_nonneg, Int.fmod_eq_emod_of_nonneg, List.size_toArray, List.length_cons, List.length_nil] at *); (first | lia | omega)))
  k_with "c enter" => (((case ho => k_is); (case hcd => k_is); (case hlv => decide); (case hb => first | exact (fun s X => BindsTo.of_eq rfl) | exact (fun s X => binds_K X rfl (by k_is) rfl rfl rfl)); (case hl => exact locs rfl); (case hc => decide); (case h1 => exact rfl); (case h2 => exact rfl); (case h3 => exact rfl); intro mean mg mb dp un gd fr s g L h₁ tk X T hd hu F N; (try dsimp only); (try k_fold)))
  k_with "c enterI" => (((case ho => k_is); (case hcd => k_is); (case hlv => decide); (case hb => first | exact (fun s X => BindsTo.of_eq rfl) | exact (fun s X => binds_K X rfl (by k_is) rfl rfl rfl)); (case hl => exact locs rfl); (case hc => decide); (case h1 => exact rfl); (case h2 => exact rfl); (case h3 => exact rfl); intro mean mg mb dp un gd fr s g L h₁ tk hI hIL X T hd hu F N; (replace hI := hI _ (List.Mem.head _)); (replace hIL := hIL _ (List.Mem.head _)); (try dsimp only at hI hIL); (try dsimp only); (try k_fold)))
  k_with "c enterC" => (((case ho => k_is); (case hcd => k_is); (case hlv => decide); (case hb => first | exact (fun s X => BindsTo.of_eq rfl) | exact (fun s X => binds_K X rfl (by k_is) rfl rfl rfl)); (case hl => exact rfl); (case hc => decide +kernel); (case h1 => exact rfl); (case h2 => exact rfl); (case h3 => exact rfl); intro mean mg mb dp un gd fr s g L h₁ tk cells X T hd hu F N Y; k_cells Y; (try simp only [List.cons_append, List.nil_append] at N); (try dsimp only); (try k_fold)))
  k_with "c enterIC" => (((case ho => k_is); (case hcd => k_is); (case hlv => decide); (case hb => first | exact (fun s X => BindsTo.of_eq rfl) | exact (fun s X => binds_K X rfl (by k_is) rfl rfl rfl)); (case hl => exact rfl); (case hc => decide +kernel); (case h1 => exact rfl); (case h2 => exact rfl); (case h3 => exact rfl); intro mean mg mb dp un gd fr s g L h₁ tk cells hI hIL X T hd hu F N Y; (replace hI := hI _ (List.Mem.head _)); (replace hIL := hIL _ (List.Mem.head _)); (try dsimp only at hI hIL); k_cells Y; (try simp only [List.cons_append, List.nil_append] at N); (try dsimp only); (try k_fold)))
  k_with "subscriptTail" => ((k_here; (with_reducible show wpAny _ _ (subscriptTail _ (Expr.Slice _ _ none _) (Value.bytes _ _) (Value.ref _)) _ _ _); (with_reducible rename Fr _ _ _ _ => F'); (with_reducible rename News _ _ _ _ => N'); k_dflt (first
      | ((with_reducible show wpAny _ _ (subscriptTail _ (Expr.Slice (some (Expr.UnaryOp _ _ _)) none none _) _ _) _ _ _); refine' slice_last (s := ⟨_, _, _, _, _⟩) F' N' ?qzz ?qze ?_; (case qze => first | rfl | decide); (case qzz => walk_at "side"); k_whole)
      | ((with_reducible show wpAny _ _ (subscriptTail _ (Expr.Slice (some _) (some _) none _) _ _) _ _ _); refine' slice_ss (s := ⟨_, _, _, _, _⟩) F' N' ?qza ?qzb ?qzz ?_; (case qza => walk_at "side"); (case qzb => walk_at "side"); (case qzz => walk_at "side"))
      | ((with_reducible show wpAny _ _ (subscriptTail _ (Expr.Slice (some _) none none _) _ _) _ _ _); refine' slice_sn (s := ⟨_, _, _, _, _⟩) F' N' ?qza ?qzz ?_; (case qza => walk_at "side"); (case qzz => walk_at "side"))
      | ((with_reducible show wpAny _ _ (subscriptTail _ (Expr.Slice none (some _) none _) _ _) _ _ _); refine' slice_ns (s := ⟨_, _, _, _, _⟩) F' N' ?qza ?qzz ?_; (case qza => walk_at "side"); (case qzz => walk_at "side"))); intro _ _ _ hcut F' N'))
  k_with "subscriptTail" => ((k_here; (with_reducible show wpAny _ _ (subscriptTail _ _ (Value.bytes _ _) (Value.int _ _)) _ _ _); k_dflt (refine' item_M ?qzz ?qza ?qzb ?_; (case qzz => walk_at "side"); (case qza => walk_at "side"); (case qzb => walk_at "side")); intro _ _ hlo hhi))
  k_with "getMethod bytes" => ((k_here; first | (with_reducible refine meth_join ?_) | (with_reducible refine meth_find ?_) | (with_reducible refine meth_split ?_) | (with_reducible refine meth_rstrip ?_)))
  k_with "call builtin:bytes.find" => ((k_here; k_dflt first | (refine' find4 ?qza ?qzb ?_; (case qza => walk_at "side"); (case qzb => walk_at "side"); intro _ _) | (refine' find3 ?qza ?_; (case qza => walk_at "side"); intro _ _)))
  k_with "call builtin:bytes.rstrip" => ((k_here; (try dsimp only [List.cons_append, List.nil_append]); k_dflt (refine' rstrip2 ?qza ?_; (case qza => walk_at "side")); intro r' t' k' hr' hrs'))
  k_with "exec For Name Name cons nil" => ((k_here; (rename Fr _ _ _ _ => lF'); (with_unfolding_all refine' For_invVF lF' ?qzk1 ?qzk2 ?_; (case qzk1 => exact rfl); (case qzk2 => exact rfl); k_whole)))
  k_with "exec For Name Call cons nil" => ((k_here; (rename Fr _ _ _ _ => lF'); (with_unfolding_all refine' For_invVF lF' ?qzk1 ?qzk2 ?_; (case qzk1 => exact rfl); (case qzk2 => exact rfl); k_whole)))
  k_with "pyIter bytes" => (((with_reducible show wpAny _ _ (pyIter (Value.bytes _ _)) (fun it s₂ => LoopAtV _ _ _ _ _ _ _ _ _ it s₂) _ _); refine park ?_))
  k_with "pyIter ref" => (((with_reducible show wpAny _ _ (pyIter (Value.ref _)) (fun it s₂ => LoopAtV _ _ _ _ _ _ _ _ _ it s₂) _ _); refine park ?_))
  k_with "exec While Compare cons nil" => ((k_here; refine park ?_))
  k_with "exec While Constant cons nil" => ((k_here; refine park ?_))
  k_with "ints" => (first | assumption | (repeat' (first | exact IntsAre.nil | refine IntsAre.cons _ _ ?_)))
  k_with "in256" => (first | assumption | exact in_nil | (refine in_cons ?qzia ?qzib ?qzic; (case qzia => walk_at "side"); (case qzib => walk_at "side"); (case qzic => walk_at "in256")))
  k_with "call type:bytes" => ((k_here; (with_reducible show wpAny _ _ (call (Value.type "bytes") [Value.ref _]) _ _ _); k_dflt (refine' KBa.make_K ?qzkbaF ?qzkbaN ?qzkbah ?qzkbal ?qzkbai ?qzkbar ?qzkban ?_; (case qzkbaF => k_asm); (case qzkbaN => k_asm); (case qzkbah => rfl); (case qzkbal => kba_isList); (case qzkbai => walk_at "ints"); (case qzkbar => walk_at "in256"); (case qzkban => walk_at "side")); intro _ _ _ F' N' kbaIn; (try k_sweep)))
  k_with "ps" => ((repeat' (first | exact List.forall_mem_nil _ | (refine List.forall_mem_cons.mpr ⟨by with_unfolding_all rfl, ?_⟩))))
  k_with "led" => ((repeat' (first | exact List.forall_mem_nil _ | (refine List.forall_mem_cons.mpr ⟨by k_mem, ?_⟩) | (intro p9 hp9; (repeat' (first | exact hp9 | refine List.Mem.tail _ ?_))))))
  k_with "lsize" => (first | size_fits | ((try rw [PySem.sizeLine_eq]); (simp only [List.size_toArray, Array.size_push]); (first | lia | omega)))
  k_with "call builtin:list.append" => ((k_here; (try dsimp only [List.cons_append, List.nil_append]); (with_reducible show wpAny _ _ (call (Value.builtin _) [Value.ref _, _]) _ _ _); k_dflt (refine' append_K ?qzk1 ?qzk2 ?qzk3 ?_ ?qzz; (case qzk1 => k_asm); (case qzk2 => k_asm); (case qzk3 => k_upd); (case qzz => walk_at "lsize"); k_whole); intro h' F' N'; (try k_sweep)))
  k_with "offI" => ((repeat' (first | exact List.forall_mem_nil _ | assumption | (refine List.forall_mem_cons.mpr ⟨by (refine neN ?_; (try dsimp only); (first | lia | omega)), ?_⟩))))
  k_with "bl get" => (first | (apply Fr.keep (by k_asm); assumption) | exact News.get (by k_asm) (by k_mem))
  k_with "subscriptTail" => ((k_here; (with_reducible show wpAny _ _ (subscriptTail _ _ (Value.ref _) (Value.int _ _)) _ _ _); k_dflt (refine' item_bl ?qzhl ?qzhv ?qza ?qzb ?qzz ?_; (case qzhv => with_reducible assumption); (case qzhl => walk_at "bl get"); (case qza => walk_at "side"); (case qzb => walk_at "side"); (case qzz => walk_at "side")); intro _ _))
  k_with "call builtin:len" => ((k_here; (with_reducible show wpAny _ _ (call (Value.builtin "len") [Value.ref _]) _ _ _); k_dflt (first | (refine' len_base ?qzhl ?qzF ?qzz ?_; (case qzhl => assumption); (case qzF => k_asm); (case qzz => walk_at "side")) | (refine' len_led ?qzN ?qzhm ?qzz ?_; (case qzN => k_asm); (case qzhm => k_mem); (case qzz => walk_at "side"))); intro _ _))
  k_with "binaryOp Add bytes bytes" => ((k_here; (with_reducible show wpAny _ _ (binaryOp Operator.Add (Value.bytes _ _) (Value.bytes _ _)) _ _ _); k_dflt (refine' KBy.add_bytes ?qzz ?_; (case qzz => walk_at "side")); intro _ _))
  k_with "call builtin:bytes.join" => ((k_here; (try dsimp only [List.cons_append, List.nil_append]); k_dflt (refine' join0 ?qzhl ?qzhv ?qzz ?_; (case qzhl => walk_at "bl get"); (case qzhv => walk_at "bytes are"); (case qzz => walk_at "side")); intro _ _))
  k_with "bytes are" => (first | with_reducible assumption | assumption | (repeat' (first | exact BytesAre.nil | refine BytesAre.cons ?_)))
  k_with "call builtin:bytes.split" => ((k_here; (try dsimp only [List.cons_append, List.nil_append]); k_dflt (refine' split1 ?qzF ?qzN ?qzc ?qza ?qzb ?_; (case qzF => k_asm); (case qzN => k_asm); (case qzc => rfl); (case qza => walk_at "side"); (case qzb => walk_at "side")); intro l' vs' h' k' hvs' F' N' hne'; (replace hne' := allNe_of9 hne'); (simp only [NeAll, and_true] at hne'); (try k_sweep)))
  k_with "call builtin:list.extend" => ((k_here; (with_reducible show wpAny _ _ (call (Value.builtin _) [Value.ref _, Value.ref _]) _ _ _); k_dflt (refine' ext_M ?qzF ?qzN ?qza ?qzb ?qzne ?qzU ?qzz ?_; (case qzF => k_asm); (case qzN => k_asm); (case qzb => k_mem); (case qzU => k_upd); (case qzne => walk_at "side"); (case qzz => walk_at "side"); (case qza => trivial)); intro h' F' N'; (try k_sweep)))
  k_with "subscriptTail Name Slice ref ref" => ((k_here; (with_reducible show wpAny _ _ (subscriptTail _ (PySem.Expr.Slice _ _ none _) (Value.ref _) (Value.ref _)) _ _ _); k_dflt (first
      | (refine' lslice_run (s := ⟨_, _, _, _, _⟩) ?qzF ?qzN ?qzhm ?qzhx ?qzhy ?qzhz ?_ ?qzhs ?qzht; (case qzF => k_asm); (case qzN => k_asm); (case qzhm => k_mem); (case qzhx => walk_at "side"); (case qzhy => walk_at "side"); (case qzhz => walk_at "side"); (case qzhs => with_unfolding_all rfl); (case qzht => kmk_pure))
      | (refine' lslice_to (s := ⟨_, _, _, _, _⟩) ?qzF ?qzN ?qzhm ?qzhy ?qzhz ?_ ?qzhs ?qzht; (case qzF => k_asm); (case qzN => k_asm); (case qzhm => k_mem); (case qzhy => walk_at "side"); (case qzhz => walk_at "side"); (case qzhs => with_unfolding_all rfl); (case qzht => kmk_pure))); intro D' h' F' N' l1; (try k_lt l1); (try k_sweep)))
  k_with "binaryOp LShift int int" => ((k_here; (with_reducible show wpAny _ _ (binaryOp Operator.LShift (Value.int _ _) (Value.int _ _)) _ _ _); k_dflt (refine' lshift_int_small ?qza ?qzb ?qzc ?_; (case qza => walk_at "side"); (case qzb => walk_at "side"); (case qzc => walk_at "side"))))
  k_with "binaryOp RShift int int" => ((k_here; (with_reducible show wpAny _ _ (binaryOp Operator.RShift (Value.int _ _) (Value.int _ _)) _ _ _); k_dflt (refine' rshift_int ?qza ?_; (case qza => walk_at "side"))))
  k_with "binaryOp BitAnd int int" => ((k_here; (with_reducible show wpAny _ _ (binaryOp Operator.BitAnd (Value.int _ _) (Value.int _ _)) _ _ _); k_dflt (first | (with_reducible refine and_63 ?_; intro _ _ hlo hhi) | (with_reducible refine and_255 ?_; intro _ _ hlo hhi) | (refine and_gen ?_; intro _ _ _))))
  k_with "comp range" => ((k_here; (with_reducible show wpAny _ _ (eval (PySem.Expr.ListComp _ [⟨PySem.Expr.Name _ _, _, [], _⟩] _ _) _) _ _ _); k_dflt (refine ListComp_RS (by k_asm) (by with_unfolding_all rfl) (by decide) (by rfl) (by decide) (by rfl) ?_)))
  k_with "eval ListComp" => (walk_at "comp range")
  k_with "RangeSrc" => ((refine park ?_))
  k_with "call ref" => ((k_here; (with_reducible show wpAny _ _ (call (Value.ref 56) _) _ _ _); k_dflt (refine' use_bytes (c_enc _ _ _ ?qza) ?qzX ?qzT ?qzF ?qzN ?qzd ?qzu ?_; (case qza => walk_at "side"); (case qzX => k_asm); (case qzT => k_asm); (case qzF => k_asm); (case qzN => k_asm); (case qzd => (first | lia | omega)); (case qzu => (first | lia | omega)); intro t' h' tk' F' N'; (try k_sweep))))
  trivial
/-- what c_quoted wants of its octets -/
def QOk (b : Array UInt8) (x : Bool) : Prop := (∀ y ∈ textLines b x, y.size ≤ 2000 ∧ (qline y).size ≤ 75) ∧ (textLines b x).length ≤ 900 ∧ (splitAt b #[13, 10]).length ≤ 16777216 ∧ (∀ x ∈ splitAt b #[13, 10], x.size ≤ 16777216) ∧ (∀ y ∈ textLines b x, last1 (qline y) ≠ #[61]) ∧ (quotedEnc b x).size ≤ 2000
theorem c_quoted9 (w : World) (b : Array UInt8) (tb : Tok) (x : Bool) (hb : b.size ≤ 24) (h : QOk b x) : Ctr w 3 168 [.bytes b tb, .bool x] (PBytes (quotedEnc b x)) :=
  c_quoted w b tb x (by (first | lia | omega)) h.1 h.2.1 h.2.2.1 h.2.2.2.1 h.2.2.2.2.1 (Nat.le_trans h.2.2.2.2.2 (by decide))
theorem zk_29 : True := by
  k_with "call ref" => ((k_here; (with_reducible show wpAny _ _ (call (Value.ref 168) _) _ _ _); k_dflt (refine' use_bytes (c_quoted9 _ _ _ _ ?qza ?qzb) ?qzX ?qzT ?qzF ?qzN ?qzd ?qzu ?_; (case qza => walk_at "side"); (case qzb => walk_at "side"); (case qzX => k_asm); (case qzT => k_asm); (case qzF => k_asm); (case qzN => k_asm); (case qzd => (first | lia | omega)); (case qzu => (first | lia | omega)); intro t' h' tk' F' N'; (try k_sweep))))
  trivial
set_option maxHeartbeats 4000000 in
theorem c_in_b (w : World) (b : Array UInt8) (tb tw : Tok) (x : Bool) (hb : b.size ≤ 24) : Ctr w 5 222 [.str (Str.ofString "base64") tw, .bytes b tb, .bool x] (PBytes (oneOf b)) := by
  refine' ctr_enter (binds := [(Str.ofString "encoding", .str (Str.ofString "base64") tw), (Str.ofString "octets", .bytes b tb), (Str.ofString "is_text", .bool x)]) ?ho ?hcd ?hlv ?hb ?hl ?hc ?h1 ?h2 ?h3 ?_
  walk_at "c enter"
  k_steps
  all_goals exact CEnd.flat (by k_asm) (pbytes rfl)
set_option maxHeartbeats 4000000 in
theorem c_in_q (w : World) (b : Array UInt8) (tb tw : Tok) (x : Bool) (hb : b.size ≤ 24) (hq : QOk b x) : Ctr w 5 222 [.str (Str.ofString "quoted-printable") tw, .bytes b tb, .bool x] (PBytes (quotedEnc b x)) := by
  refine' ctr_enter (binds := [(Str.ofString "encoding", .str (Str.ofString "quoted-printable") tw), (Str.ofString "octets", .bytes b tb), (Str.ofString "is_text", .bool x)]) ?ho ?hcd ?hlv ?hb ?hl ?hc ?h1 ?h2 ?h3 ?_
  walk_at "c enter"
  k_steps
  all_goals exact CEnd.flat (by k_asm) (pbytes rfl)
set_option maxHeartbeats 4000000 in
theorem c_in_7 (w : World) (b : Array UInt8) (tb tw : Tok) (x : Bool) : Ctr w 5 222 [.str (Str.ofString "7bit") tw, .bytes b tb, .bool x] (PBytes b) := by
  refine' ctr_enter (binds := [(Str.ofString "encoding", .str (Str.ofString "7bit") tw), (Str.ofString "octets", .bytes b tb), (Str.ofString "is_text", .bool x)]) ?ho ?hcd ?hlv ?hb ?hl ?hc ?h1 ?h2 ?h3 ?_
  walk_at "c enter"
  k_steps
  all_goals exact CEnd.flat (by k_asm) (pbytes rfl)

end
section
theorem zk_30 : True := by
  k_with_none
  k_with "side" => (first | with_reducible assumption | (first | lia | omega) | assumption | decide | ((simp (decide := true) only [Int.fdiv_eq_ediv_of_nonneg, Int.fmod_eq_emod_of_nonneg, List.size_toArray, List.length_cons, List.length_nil] at *); (first | lia | omega)))
  k_with "c enter" => (((case ho => k_is); (case hcd => k_is); (case hlv => decide); (case hb => first | exact (fun s X => BindsTo.of_eq rfl) | exact (fun s X => binds_K X rfl (by k_is) rfl rfl rfl)); (case hl => exact locs rfl); (case hc => decide); (case h1 => exact rfl); (case h2 => exact rfl); (case h3 => exact rfl); intro mean mg mb dp un gd fr s g L h₁ tk X T hd hu F N; (try dsimp only); (try k_fold)))
  k_with "c enterI" => (((case ho => k_is); (case hcd => k_is); (case hlv => decide); (case hb => first | exact (fun s X => BindsTo.of_eq rfl) | exact (fun s X => binds_K X rfl (by k_is) rfl rfl rfl)); (case hl => exact locs rfl); (case hc => decide); (case h1 => exact rfl); (case h2 => exact rfl); (case h3 => exact rfl); intro mean mg mb dp un gd fr s g L h₁ tk hI hIL X T hd hu F N; (replace hI := hI _ (List.Mem.head _)); (replace hIL := hIL _ (List.Mem.head _)); (try dsimp only at hI hIL); (try dsimp only); (try k_fold)))
  k_with "c enterC" => (((case ho => k_is); (case hcd => k_is); (case hlv => decide); (case hb => first | exact (fun s X => BindsTo.of_eq rfl) | exact (fun s X => binds_K X rfl (by k_is) rfl rfl rfl)); (case hl => exact rfl); (case hc => decide +kernel); (case h1 => exact rfl); (case h2 => exact rfl); (case h3 => exact rfl); intro mean mg mb dp un gd fr s g L h₁ tk cells X T hd hu F N Y; k_cells Y; (try simp only [List.cons_append, List.nil_append] at N); (try dsimp only); (try k_fold)))
  k_with "c enterIC" => (((case ho => k_is); (case hcd => k_is); (case hlv => decide); (case hb => first | exact (fun s X => BindsTo.of_eq rfl) | exact (fun s X => binds_K X rfl (by k_is) rfl rfl rfl)); (case hl => exact rfl); (case hc => decide +kernel); (case h1 => exact rfl); (case h2 => exact rfl); (case h3 => exact rfl); intro mean mg mb dp un gd fr s g L h₁ tk cells hI hIL X T hd hu F N Y; (replace hI := hI _ (List.Mem.head _)); (replace hIL := hIL _ (List.Mem.head _)); (try dsimp only at hI hIL); k_cells Y; (try simp only [List.cons_append, List.nil_append] at N); (try dsimp only); (try k_fold)))
  k_with "subscriptTail" => ((k_here; (with_reducible show wpAny _ _ (subscriptTail _ (Expr.Slice _ _ none _) (Value.bytes _ _) (Value.ref _)) _ _ _); (with_reducible rename Fr _ _ _ _ => F'); (with_reducible rename News _ _ _ _ => N'); k_dflt (first
      | ((with_reducible show wpAny _ _ (subscriptTail _ (Expr.Slice (some (Expr.UnaryOp _ _ _)) none none _) _ _) _ _ _); refine' slice_last (s := ⟨_, _, _, _, _⟩) F' N' ?qzz ?qze ?_; (case qze => first | rfl | decide); (case qzz => walk_at "side"); k_whole)
      | ((with_reducible show wpAny _ _ (subscriptTail _ (Expr.Slice (some _) (some _) none _) _ _) _ _ _); refine' slice_ss (s := ⟨_, _, _, _, _⟩) F' N' ?qza ?qzb ?qzz ?_; (case qza => walk_at "side"); (case qzb => walk_at "side"); (case qzz => walk_at "side"))
      | ((with_reducible show wpAny _ _ (subscriptTail _ (Expr.Slice (some _) none none _) _ _) _ _ _); refine' slice_sn (s := ⟨_, _, _, _, _⟩) F' N' ?qza ?qzz ?_; (case qza => walk_at "side"); (case qzz => walk_at "side"))
      | ((with_reducible show wpAny _ _ (subscriptTail _ (Expr.Slice none (some _) none _) _ _) _ _ _); refine' slice_ns (s := ⟨_, _, _, _, _⟩) F' N' ?qza ?qzz ?_; (case qza => walk_at "side"); (case qzz => walk_at "side"))); intro _ _ _ hcut F' N'))
  k_with "subscriptTail" => ((k_here; (with_reducible show wpAny _ _ (subscriptTail _ _ (Value.bytes _ _) (Value.int _ _)) _ _ _); k_dflt (refine' item_M ?qzz ?qza ?qzb ?_; (case qzz => walk_at "side"); (case qza => walk_at "side"); (case qzb => walk_at "side")); intro _ _ hlo hhi))
  k_with "getMethod bytes" => ((k_here; first | (with_reducible refine meth_join ?_) | (with_reducible refine meth_find ?_) | (with_reducible refine meth_split ?_) | (with_reducible refine meth_rstrip ?_)))
  k_with "call builtin:bytes.find" => ((k_here; k_dflt first | (refine' find4 ?qza ?qzb ?_; (case qza => walk_at "side"); (case qzb => walk_at "side"); intro _ _) | (refine' find3 ?qza ?_; (case qza => walk_at "side"); intro _ _)))
  k_with "call builtin:bytes.rstrip" => ((k_here; (try dsimp only [List.cons_append, List.nil_append]); k_dflt (refine' rstrip2 ?qza ?_; (case qza => walk_at "side")); intro r' t' k' hr' hrs'))
  k_with "exec For Name Name cons nil" => ((k_here; (rename Fr _ _ _ _ => lF'); (with_unfolding_all refine' For_invVF lF' ?qzk1 ?qzk2 ?_; (case qzk1 => exact rfl); (case qzk2 => exact rfl); k_whole)))
  k_with "exec For Name Call cons nil" => ((k_here; (rename Fr _ _ _ _ => lF'); (with_unfolding_all refine' For_invVF lF' ?qzk1 ?qzk2 ?_; (case qzk1 => exact rfl); (case qzk2 => exact rfl); k_whole)))
  k_with "pyIter bytes" => (((with_reducible show wpAny _ _ (pyIter (Value.bytes _ _)) (fun it s₂ => LoopAtV _ _ _ _ _ _ _ _ _ it s₂) _ _); refine park ?_))
  k_with "pyIter ref" => (((with_reducible show wpAny _ _ (pyIter (Value.ref _)) (fun it s₂ => LoopAtV _ _ _ _ _ _ _ _ _ it s₂) _ _); refine park ?_))
  k_with "exec While Compare cons nil" => ((k_here; refine park ?_))
  k_with "exec While Constant cons nil" => ((k_here; refine park ?_))
  k_with "ints" => (first | assumption | (repeat' (first | exact IntsAre.nil | refine IntsAre.cons _ _ ?_)))
  k_with "in256" => (first | assumption | exact in_nil | (refine in_cons ?qzia ?qzib ?qzic; (case qzia => walk_at "side"); (case qzib => walk_at "side"); (case qzic => walk_at "in256")))
  k_with "call type:bytes" => ((k_here; (with_reducible show wpAny _ _ (call (Value.type "bytes") [Value.ref _]) _ _ _); k_dflt (refine' KBa.make_K ?qzkbaF ?qzkbaN ?qzkbah ?qzkbal ?qzkbai ?qzkbar ?qzkban ?_; (case qzkbaF => k_asm); (case qzkbaN => k_asm); (case qzkbah => rfl); (case qzkbal => kba_isList); (case qzkbai => walk_at "ints"); (case qzkbar => walk_at "in256"); (case qzkban => walk_at "side")); intro _ _ _ F' N' kbaIn; (try k_sweep)))
  k_with "ps" => ((repeat' (first | exact List.forall_mem_nil _ | (refine List.forall_mem_cons.mpr ⟨by with_unfolding_all rfl, ?_⟩))))
  k_with "led" => ((repeat' (first | exact List.forall_mem_nil _ | (refine List.forall_mem_cons.mpr ⟨by k_mem, ?_⟩) | (intro p9 hp9; (repeat' (first | exact hp9 | refine List.Mem.tail _ ?_))))))
  k_with "lsize" => (first | size_fits | ((try rw [PySem.sizeLine_eq]); (simp only [List.size_toArray, Array.size_push]); (first | lia | omega)))
  k_with "call builtin:list.append" => ((k_here; (try dsimp only [List.cons_append, List.nil_append]); (with_reducible show wpAny _ _ (call (Value.builtin _) [Value.ref _, _]) _ _ _); k_dflt (refine' append_K ?qzk1 ?qzk2 ?qzk3 ?_ ?qzz; (case qzk1 => k_asm); (case qzk2 => k_asm); (case qzk3 => k_upd); (case qzz => walk_at "lsize"); k_whole); intro h' F' N'; (try k_sweep)))
  k_with "offI" => ((repeat' (first | exact List.forall_mem_nil _ | assumption | (refine List.forall_mem_cons.mpr ⟨by (refine neN ?_; (try dsimp only); (first | lia | omega)), ?_⟩))))
  k_with "bl get" => (first | (apply Fr.keep (by k_asm); assumption) | exact News.get (by k_asm) (by k_mem))
  k_with "subscriptTail" => ((k_here; (with_reducible show wpAny _ _ (subscriptTail _ _ (Value.ref _) (Value.int _ _)) _ _ _); k_dflt (refine' item_bl ?qzhl ?qzhv ?qza ?qzb ?qzz ?_; (case qzhv => with_reducible assumption); (case qzhl => walk_at "bl get"); (case qza => walk_at "side"); (case qzb => walk_at "side"); (case qzz => walk_at "side")); intro _ _))
  k_with "call builtin:len" => ((k_here; (with_reducible show wpAny _ _ (call (Value.builtin "len") [Value.ref _]) _ _ _); k_dflt (first | (refine' len_base ?qzhl ?qzF ?qzz ?_; (case qzhl => assumption); (case qzF => k_asm); (case qzz => walk_at "side")) | (refine' len_led ?qzN ?qzhm ?qzz ?_; (case qzN => k_asm); (case qzhm => k_mem); (case qzz => walk_at "side"))); intro _ _))
  k_with "binaryOp Add bytes bytes" => ((k_here; (with_reducible show wpAny _ _ (binaryOp Operator.Add (Value.bytes _ _) (Value.bytes _ _)) _ _ _); k_dflt (refine' KBy.add_bytes ?qzz ?_; (case qzz => walk_at "side")); intro _ _))
  k_with "call builtin:bytes.join" => ((k_here; (try dsimp only [List.cons_append, List.nil_append]); k_dflt (refine' join0 ?qzhl ?qzhv ?qzz ?_; (case qzhl => walk_at "bl get"); (case qzhv => walk_at "bytes are"); (case qzz => walk_at "side")); intro _ _))
  k_with "bytes are" => (first | with_reducible assumption | assumption | (repeat' (first | exact BytesAre.nil | refine BytesAre.cons ?_)))
  k_with "call builtin:bytes.split" => ((k_here; (try dsimp only [List.cons_append, List.nil_append]); k_dflt (refine' split1 ?qzF ?qzN ?qzc ?qza ?qzb ?_; (case qzF => k_asm); (case qzN => k_asm); (case qzc => rfl); (case qza => walk_at "side"); (case qzb => walk_at "side")); intro l' vs' h' k' hvs' F' N' hne'; (replace hne' := allNe_of9 hne'); (simp only [NeAll, and_true] at hne'); (try k_sweep)))
  k_with "call builtin:list.extend" => ((k_here; (with_reducible show wpAny _ _ (call (Value.builtin _) [Value.ref _, Value.ref _]) _ _ _); k_dflt (refine' ext_M ?qzF ?qzN ?qza ?qzb ?qzne ?qzU ?qzz ?_; (case qzF => k_asm); (case qzN => k_asm); (case qzb => k_mem); (case qzU => k_upd); (case qzne => walk_at "side"); (case qzz => walk_at "side"); (case qza => trivial)); intro h' F' N'; (try k_sweep)))
  k_with "subscriptTail Name Slice ref ref" => ((k_here; (with_reducible show wpAny _ _ (subscriptTail _ (PySem.Expr.Slice _ _ none _) (Value.ref _) (Value.ref _)) _ _ _); k_dflt (first
      | (refine' lslice_run (s := ⟨_, _, _, _, _⟩) ?qzF ?qzN ?qzhm ?qzhx ?qzhy ?qzhz ?_ ?qzhs ?qzht; (case qzF => k_asm); (case qzN => k_asm); (case qzhm => k_mem); (case qzhx => walk_at "side"); (case qzhy => walk_at "side"); (case qzhz => walk_at "side"); (case qzhs => with_unfolding_all rfl); (case qzht => kmk_pure))
      | (refine' lslice_to (s := ⟨_, _, _, _, _⟩) ?qzF ?qzN ?qzhm ?qzhy ?qzhz ?_ ?qzhs ?qzht; (case qzF => k_asm); (case qzN => k_asm); (case qzhm => k_mem); (case qzhy => walk_at "side"); (case qzhz => walk_at "side"); (case qzhs => with_unfolding_all rfl); (case qzht => kmk_pure))); intro D' h' F' N' l1; (try k_lt l1); (try k_sweep)))
  k_with "binaryOp LShift int int" => ((k_here; (with_reducible show wpAny _ _ (binaryOp Operator.LShift (Value.int _ _) (Value.int _ _)) _ _ _); k_dflt (refine' lshift_int_small ?qza ?qzb ?qzc ?_; (case qza => walk_at "side"); (case qzb => walk_at "side"); (case qzc => walk_at "side"))))
  k_with "binaryOp RShift int int" => ((k_here; (with_reducible show wpAny _ _ (binaryOp Operator.RShift (Value.int _ _) (Value.int _ _)) _ _ _); k_dflt (refine' rshift_int ?qza ?_; (case qza => walk_at "side"))))
  k_with "binaryOp BitAnd int int" => ((k_here; (with_reducible show wpAny _ _ (binaryOp Operator.BitAnd (Value.int _ _) (Value.int _ _)) _ _ _); k_dflt (first | (with_reducible refine and_63 ?_; intro _ _ hlo hhi) | (with_reducible refine and_255 ?_; intro _ _ hlo hhi) | (refine and_gen ?_; intro _ _ _))))
  k_with "comp range" => ((k_here; (with_reducible show wpAny _ _ (eval (PySem.Expr.ListComp _ [⟨PySem.Expr.Name _ _, _, [], _⟩] _ _) _) _ _ _); k_dflt (refine ListComp_RS (by k_asm) (by with_unfolding_all rfl) (by decide) (by rfl) (by decide) (by rfl) ?_)))
  k_with "eval ListComp" => (walk_at "comp range")
  k_with "RangeSrc" => ((refine park ?_))
  k_with "call ref" => ((k_here; (with_reducible show wpAny _ _ (call (Value.ref 56) _) _ _ _); k_dflt (refine' use_bytes (c_enc _ _ _ ?qza) ?qzX ?qzT ?qzF ?qzN ?qzd ?qzu ?_; (case qza => walk_at "side"); (case qzX => k_asm); (case qzT => k_asm); (case qzF => k_asm); (case qzN => k_asm); (case qzd => (first | lia | omega)); (case qzu => (first | lia | omega)); intro t' h' tk' F' N'; (try k_sweep))))
  k_with "call ref" => ((k_here; (with_reducible show wpAny _ _ (call (Value.ref 208) _) _ _ _); k_dflt (refine' use_bool (c_seven _ _ _ ?qza) ?qzX ?qzT ?qzF ?qzN ?qzd ?qzu ?_; (case qza => walk_at "side"); (case qzX => k_asm); (case qzT => k_asm); (case qzF => k_asm); (case qzN => k_asm); (case qzd => (first | lia | omega)); (case qzu => (first | lia | omega)); intro h' tk' F' N'; (try k_sweep))))
  k_with "call ref" => ((k_here; (with_reducible show wpAny _ _ (call (Value.ref 168) _) _ _ _); k_dflt (refine' use_bytes (c_quoted9 _ _ _ _ ?qza ?qzb) ?qzX ?qzT ?qzF ?qzN ?qzd ?qzu ?_; (case qza => walk_at "side"); (case qzb => walk_at "side"); (case qzX => k_asm); (case qzT => k_asm); (case qzF => k_asm); (case qzN => k_asm); (case qzd => (first | lia | omega)); (case qzu => (first | lia | omega)); intro t' h' tk' F' N'; (try k_sweep))))
  trivial
def chooseS (b : Array UInt8) (x : Bool) : Str := if sevenBit b = true then Str.ofString "7bit" else if (oneOf b).size < (quotedEnc b x).size then Str.ofString "base64" else Str.ofString "quoted-printable"
theorem choose_7 {b : Array UInt8} {x : Bool} (h : sevenBit b = true) : Str.ofString "7bit" = chooseS b x := by unfold chooseS; rw [if_pos h]
theorem choose_b {b : Array UInt8} {x : Bool} (h : sevenBit b = false) (h2 : (oneOf b).size < (quotedEnc b x).size) : Str.ofString "base64" = chooseS b x := by unfold chooseS; rw [if_neg (by rw [h]; decide), if_pos h2]
theorem choose_q {b : Array UInt8} {x : Bool} (h : sevenBit b = false) (h2 : ¬ (oneOf b).size < (quotedEnc b x).size) : Str.ofString "quoted-printable" = chooseS b x := by unfold chooseS; rw [if_neg (by rw [h]; decide), if_neg h2]
set_option maxHeartbeats 4000000 in
theorem c_choose (w : World) (b : Array UInt8) (tb : Tok) (x : Bool) (hb : b.size ≤ 24) (hq : QOk b x) : Ctr w 12 215 [.bytes b tb, .bool x] (PStr (chooseS b x)) := by
  have ho := one_size b hb
  have hqs := hq.2.2.2.2.2
  refine' ctr_enter (binds := [(Str.ofString "octets", .bytes b tb), (Str.ofString "is_text", .bool x)]) ?ho ?hcd ?hlv ?hb ?hl ?hc ?h1 ?h2 ?h3 ?_
  walk_at "c enter"
  k_steps
  · exact CEnd.flat (by k_asm) (pstr (choose_7 (by assumption)))
  · exact CEnd.flat (by k_asm) (pstr (choose_b (by assumption) (by (first | lia | omega))))
  · exact CEnd.flat (by k_asm) (pstr (choose_q (by assumption) (by (first | lia | omega))))

end
section
theorem zk_31 : True := by
  k_with_none
  k_with "side" => (first | with_reducible assumption | (first | lia | omega) | assumption | decide | ((simp (decide := true) only [Int.fdiv_eq_ediv_of_nonneg, Int.fmod_eq_emod_of_nonneg, List.size_toArray, List.length_cons, List.length_nil] at *); (first | lia | omega)))
  k_with "c enter" => (((case ho => k_is); (case hcd => k_is); (case hlv => decide); (case hb => first | exact (fun s X => BindsTo.of_eq rfl) | exact (fun s X => binds_K X rfl (by k_is) rfl rfl rfl)); (case hl => exact locs rfl); (case hc => decide); (case h1 => exact rfl); (case h2 => exact rfl); (case h3 => exact rfl); intro mean mg mb dp un gd fr s g L h₁ tk X T hd hu F N; (try dsimp only); (try k_fold)))
  k_with "c enterI" => (((case ho => k_is); (case hcd => k_is); (case hlv => decide); (case hb => first | exact (fun s X => BindsTo.of_eq rfl) | exact (fun s X => binds_K X rfl (by k_is) rfl rfl rfl)); (case hl => exact locs rfl); (case hc => decide); (case h1 => exact rfl); (case h2 => exact rfl); (case h3 => exact rfl); intro mean mg mb dp un gd fr s g L h₁ tk hI hIL X T hd hu F N; (replace hI := hI _ (List.Mem.head _)); (replace hIL := hIL _ (List.Mem.head _)); (try dsimp only at hI hIL); (try dsimp only); (try k_fold)))
  k_with "c enterC" => (((case ho => k_is); (case hcd => k_is); (case hlv => decide); (case hb => first | exact (fun s X => BindsTo.of_eq rfl) | exact (fun s X => binds_K X rfl (by k_is) rfl rfl rfl)); (case hl => exact rfl); (case hc => decide +kernel); (case h1 => exact rfl); (case h2 => exact rfl); (case h3 => exact rfl); intro mean mg mb dp un gd fr s g L h₁ tk cells X T hd hu F N Y; k_cells Y; (try simp only [List.cons_append, List.nil_append] at N); (try dsimp only); (try k_fold)))
  k_with "c enterIC" => (((case ho => k_is); (case hcd => k_is); (case hlv => decide); (case hb => first | exact (fun s X => BindsTo.of_eq rfl) | exact (fun s X => binds_K X rfl (by k_is) rfl rfl rfl)); (case hl => exact rfl); (case hc => decide +kernel); (case h1 => exact rfl); (case h2 => exact rfl); (case h3 => exact rfl); intro mean mg mb dp un gd fr s g L h₁ tk cells hI hIL X T hd hu F N Y; (replace hI := hI _ (List.Mem.head _)); (replace hIL := hIL _ (List.Mem.head _)); (try dsimp only at hI hIL); k_cells Y; (try simp only [List.cons_append, List.nil_append] at N); (try dsimp only); (try k_fold)))
  k_with "subscriptTail" => ((k_here; (with_reducible show wpAny _ _ (subscriptTail _ (Expr.Slice _ _ none _) (Value.bytes _ _) (Value.ref _)) _ _ _); (with_reducible rename Fr _ _ _ _ => F'); (with_reducible rename News _ _ _ _ => N'); k_dflt (first
      | ((with_reducible show wpAny _ _ (subscriptTail _ (Expr.Slice (some (Expr.UnaryOp _ _ _)) none none _) _ _) _ _ _); refine' slice_last (s := ⟨_, _, _, _, _⟩) F' N' ?qzz ?qze ?_; (case qze => first | rfl | decide); (case qzz => walk_at "side"); k_whole)
      | ((with_reducible show wpAny _ _ (subscriptTail _ (Expr.Slice (some _) (some _) none _) _ _) _ _ _); refine' slice_ss (s := ⟨_, _, _, _, _⟩) F' N' ?qza ?qzb ?qzz ?_; (case qza => walk_at "side"); (case qzb => walk_at "side"); (case qzz => walk_at "side"))
      | ((with_reducible show wpAny _ _ (subscriptTail _ (Expr.Slice (some _) none none _) _ _) _ _ _); refine' slice_sn (s := ⟨_, _, _, _, _⟩) F' N' ?qza ?qzz ?_; (case qza => walk_at "side"); (case qzz => walk_at "side"))
      | ((with_reducible show wpAny _ _ (subscriptTail _ (Expr.Slice none (some _) none _) _ _) _ _ _); refine' slice_ns (s := ⟨_, _, _, _, _⟩) F' N' ?qza ?qzz ?_; (case qza => walk_at "side"); (case qzz => walk_at "side"))); intro _ _ _ hcut F' N'))
  k_with "subscriptTail" => ((k_here; (with_reducible show wpAny _ _ (subscriptTail _ _ (Value.bytes _ _) (Value.int _ _)) _ _ _); k_dflt (refine' item_M ?qzz ?qza ?qzb ?_; (case qzz => walk_at "side"); (case qza => walk_at "side"); (case qzb => walk_at "side")); intro _ _ hlo hhi))
  k_with "getMethod bytes" => ((k_here; first | (with_reducible refine meth_join ?_) | (with_reducible refine meth_find ?_) | (with_reducible refine meth_split ?_) | (with_reducible refine meth_rstrip ?_)))
  k_with "call builtin:bytes.find" => ((k_here; k_dflt first | (refine' find4 ?qza ?qzb ?_; (case qza => walk_at "side"); (case qzb => walk_at "side"); intro _ _) | (refine' find3 ?qza ?_; (case qza => walk_at "side"); intro _ _)))
  k_with "call builtin:bytes.rstrip" => ((k_here; (try dsimp only [List.cons_append, List.nil_append]); k_dflt (refine' rstrip2 ?qza ?_; (case qza => walk_at "side")); intro r' t' k' hr' hrs'))
  k_with "exec For Name Name cons nil" => ((k_here; (rename Fr _ _ _ _ => lF'); (with_unfolding_all refine' For_invVF lF' ?qzk1 ?qzk2 ?_; (case qzk1 => exact rfl); (case qzk2 => exact rfl); k_whole)))
  k_with "exec For Name Call cons nil" => ((k_here; (rename Fr _ _ _ _ => lF'); (with_unfolding_all refine' For_invVF lF' ?qzk1 ?qzk2 ?_; (case qzk1 => exact rfl); (case qzk2 => exact rfl); k_whole)))
  k_with "pyIter bytes" => (((with_reducible show wpAny _ _ (pyIter (Value.bytes _ _)) (fun it s₂ => LoopAtV _ _ _ _ _ _ _ _ _ it s₂) _ _); refine park ?_))
  k_with "pyIter ref" => (((with_reducible show wpAny _ _ (pyIter (Value.ref _)) (fun it s₂ => LoopAtV _ _ _ _ _ _ _ _ _ it s₂) _ _); refine park ?_))
  k_with "exec While Compare cons nil" => ((k_here; refine park ?_))
  k_with "exec While Constant cons nil" => ((k_here; refine park ?_))
  k_with "ints" => (first | assumption | (repeat' (first | exact IntsAre.nil | refine IntsAre.cons _ _ ?_)))
  k_with "in256" => (first | assumption | exact in_nil | (refine in_cons ?qzia ?qzib ?qzic; (case qzia => walk_at "side"); (case qzib => walk_at "side"); (case qzic => walk_at "in256")))
  k_with "call type:bytes" => ((k_here; (with_reducible show wpAny _ _ (call (Value.type "bytes") [Value.ref _]) _ _ _); k_dflt (refine' KBa.make_K ?qzkbaF ?qzkbaN ?qzkbah ?qzkbal ?qzkbai ?qzkbar ?qzkban ?_; (case qzkbaF => k_asm); (case qzkbaN => k_asm); (case qzkbah => rfl); (case qzkbal => kba_isList); (case qzkbai => walk_at "ints"); (case qzkbar => walk_at "in256"); (case qzkban => walk_at "side")); intro _ _ _ F' N' kbaIn; (try k_sweep)))
  k_with "ps" => ((repeat' (first | exact List.forall_mem_nil _ | (refine List.forall_mem_cons.mpr ⟨by with_unfolding_all rfl, ?_⟩))))
  k_with "led" => ((repeat' (first | exact List.forall_mem_nil _ | (refine List.forall_mem_cons.mpr ⟨by k_mem, ?_⟩) | (intro p9 hp9; (repeat' (first | exact hp9 | refine List.Mem.tail _ ?_))))))
  k_with "lsize" => (first | size_fits | ((try rw [PySem.sizeLine_eq]); (simp only [List.size_toArray, Array.size_push]); (first | lia | omega)))
  k_with "call builtin:list.append" => ((k_here; (try dsimp only [List.cons_append, List.nil_append]); (with_reducible show wpAny _ _ (call (Value.builtin _) [Value.ref _, _]) _ _ _); k_dflt (refine' append_K ?qzk1 ?qzk2 ?qzk3 ?_ ?qzz; (case qzk1 => k_asm); (case qzk2 => k_asm); (case qzk3 => k_upd); (case qzz => walk_at "lsize"); k_whole); intro h' F' N'; (try k_sweep)))
  k_with "offI" => ((repeat' (first | exact List.forall_mem_nil _ | assumption | (refine List.forall_mem_cons.mpr ⟨by (refine neN ?_; (try dsimp only); (first | lia | omega)), ?_⟩))))
  k_with "bl get" => (first | (apply Fr.keep (by k_asm); assumption) | exact News.get (by k_asm) (by k_mem))
  k_with "subscriptTail" => ((k_here; (with_reducible show wpAny _ _ (subscriptTail _ _ (Value.ref _) (Value.int _ _)) _ _ _); k_dflt (refine' item_bl ?qzhl ?qzhv ?qza ?qzb ?qzz ?_; (case qzhv => with_reducible assumption); (case qzhl => walk_at "bl get"); (case qza => walk_at "side"); (case qzb => walk_at "side"); (case qzz => walk_at "side")); intro _ _))
  k_with "call builtin:len" => ((k_here; (with_reducible show wpAny _ _ (call (Value.builtin "len") [Value.ref _]) _ _ _); k_dflt (first | (refine' len_base ?qzhl ?qzF ?qzz ?_; (case qzhl => assumption); (case qzF => k_asm); (case qzz => walk_at "side")) | (refine' len_led ?qzN ?qzhm ?qzz ?_; (case qzN => k_asm); (case qzhm => k_mem); (case qzz => walk_at "side"))); intro _ _))
  k_with "binaryOp Add bytes bytes" => ((k_here; (with_reducible show wpAny _ _ (binaryOp Operator.Add (Value.bytes _ _) (Value.bytes _ _)) _ _ _); k_dflt (refine' KBy.add_bytes ?qzz ?_; (case qzz => walk_at "side")); intro _ _))
  k_with "call builtin:bytes.join" => ((k_here; (try dsimp only [List.cons_append, List.nil_append]); k_dflt (refine' join0 ?qzhl ?qzhv ?qzz ?_; (case qzhl => walk_at "bl get"); (case qzhv => walk_at "bytes are"); (case qzz => walk_at "side")); intro _ _))
  k_with "bytes are" => (first | with_reducible assumption | assumption | (repeat' (first | exact BytesAre.nil | refine BytesAre.cons ?_)))
  k_with "call builtin:bytes.split" => ((k_here; (try dsimp only [List.cons_append, List.nil_append]); k_dflt (refine' split1 ?qzF ?qzN ?qzc ?qza ?qzb ?_; (case qzF => k_asm); (case qzN => k_asm); (case qzc => rfl); (case qza => walk_at "side"); (case qzb => walk_at "side")); intro l' vs' h' k' hvs' F' N' hne'; (replace hne' := allNe_of9 hne'); (simp only [NeAll, and_true] at hne'); (try k_sweep)))
  k_with "call builtin:list.extend" => ((k_here; (with_reducible show wpAny _ _ (call (Value.builtin _) [Value.ref _, Value.ref _]) _ _ _); k_dflt (refine' ext_M ?qzF ?qzN ?qza ?qzb ?qzne ?qzU ?qzz ?_; (case qzF => k_asm); (case qzN => k_asm); (case qzb => k_mem); (case qzU => k_upd); (case qzne => walk_at "side"); (case qzz => walk_at "side"); (case qza => trivial)); intro h' F' N'; (try k_sweep)))
  k_with "subscriptTail Name Slice ref ref" => ((k_here; (with_reducible show wpAny _ _ (subscriptTail _ (PySem.Expr.Slice _ _ none _) (Value.ref _) (Value.ref _)) _ _ _); k_dflt (first
      | (refine' lslice_run (s := ⟨_, _, _, _, _⟩) ?qzF ?qzN ?qzhm ?qzhx ?qzhy ?qzhz ?_ ?qzhs ?qzht; (case qzF => k_asm); (case qzN => k_asm); (case qzhm => k_mem); (case qzhx => walk_at "side"); (case qzhy => walk_at "side"); (case qzhz => walk_at "side"); (case qzhs => with_unfolding_all rfl); (case qzht => kmk_pure))
      | (refine' lslice_to (s := ⟨_, _, _, _, _⟩) ?qzF ?qzN ?qzhm ?qzhy ?qzhz ?_ ?qzhs ?qzht; (case qzF => k_asm); (case qzN => k_asm); (case qzhm => k_mem); (case qzhy => walk_at "side"); (case qzhz => walk_at "side"); (case qzhs => with_unfolding_all rfl); (case qzht => kmk_pure))); intro D' h' F' N' l1; (try k_lt l1); (try k_sweep)))
  k_with "binaryOp LShift int int" => ((k_here; (with_reducible show wpAny _ _ (binaryOp Operator.LShift (Value.int _ _) (Value.int _ _)) _ _ _); k_dflt (refine' lshift_int_small ?qza ?qzb ?qzc ?_; (case qza => walk_at "side"); (case qzb => walk_at "side"); (case qzc => walk_at "side"))))
  k_with "binaryOp RShift int int" => ((k_here; (with_reducible show wpAny _ _ (binaryOp Operator.RShift (Value.int _ _) (Value.int _ _)) _ _ _); k_dflt (refine' rshift_int ?qza ?_; (case qza => walk_at "side"))))
  k_with "binaryOp BitAnd int int" => ((k_here; (with_reducible show wpAny _ _ (binaryOp Operator.BitAnd (Value.int _ _) (Value.int _ _)) _ _ _); k_dflt (first | (with_reducible refine and_63 ?_; intro _ _ hlo hhi) | (with_reducible refine and_255 ?_; intro _ _ hlo hhi) | (refine and_gen ?_; intro _ _ _))))
  k_with "comp range" => ((k_here; (with_reducible show wpAny _ _ (eval (PySem.Expr.ListComp _ [⟨PySem.Expr.Name _ _, _, [], _⟩] _ _) _) _ _ _); k_dflt (refine ListComp_RS (by k_asm) (by with_unfolding_all rfl) (by decide) (by rfl) (by decide) (by rfl) ?_)))
  k_with "eval ListComp" => (walk_at "comp range")
  k_with "RangeSrc" => ((refine park ?_))
  trivial
def okCode (c : UInt8) : Bool := !(([0, 10, 13] : List Int).any fun x => x == (c.toNat : Int)) && !decide (127 < (c.toNat : Int))
theorem ok_in {c : UInt8} (h : (([0, 10, 13] : List Int).any fun x => x == (c.toNat : Int)) = true) : okCode c = false := by unfold okCode; rw [h]; rfl
theorem ok_big {c : UInt8} (h : 127 < (c.toNat : Int)) : okCode c = false := by unfold okCode; rw [decide_eq_true h, Bool.not_true, Bool.and_false]
theorem ok_ok {c : UInt8} (h : (([0, 10, 13] : List Int).any fun x => x == (c.toNat : Int)) = false) (h2 : ¬ 127 < (c.toNat : Int)) : okCode c = true := by unfold okCode; rw [h, decide_eq_false h2]; rfl
def lawPlain (b : Array UInt8) : Bool := (splitAt b #[13, 10]).all fun y => decide (y.size ≤ 998) && y.toList.all okCode
def lineOk (y : Array UInt8) : Bool := decide (y.size ≤ 998) && y.toList.all okCode
theorem plain_no {b y : Array UInt8} {i : Nat} (h : (splitAt b #[13, 10])[i]? = some y) (e : lineOk y = false) : lawPlain b = false := by
  unfold lawPlain
  rw [List.all_eq_false]
  exact ⟨y, List.mem_of_getElem? h, by show ¬ lineOk y = true; rw [e]; decide⟩
theorem plain_yes {b : Array UInt8} (h : ∀ y ∈ splitAt b #[13, 10], lineOk y = true) : lawPlain b = true := List.all_eq_true.mpr h
theorem all_take {b y : Array UInt8} {i : Nat} (h : (splitAt b #[13, 10])[i]? = some y) (hp : ∀ z ∈ (splitAt b #[13, 10]).take i, lineOk z = true) (e : lineOk y = true) : ∀ z ∈ (splitAt b #[13, 10]).take (i + 1), lineOk z = true := by
  intro z hz
  rw [List.take_add_one, h] at hz
  rcases List.mem_append.mp hz with hz | hz
  · exact hp z hz
  · obtain rfl : z = y := by simpa using hz
    exact e
def Bads (b : Array UInt8) (i : Nat) (ys : List Value) : Prop := ∃ ns : List Int, IntsAre ys ns ∧ (ns = [] ↔ (b.toList.take i).all okCode = true) ∧ ns.length ≤ i
theorem Bads.yes {b : Array UInt8} {i : Nat} {ys : List Value} {c : UInt8} {x : Int} {u : Tok} (h : Bads b i ys) (e : b[i]? = some c) (hb : okCode c = false) : Bads b (i + 1) (ys ++ [.int x u]) := by
  obtain ⟨ns, hy, hk, hl⟩ := h
  refine ⟨ns ++ [x], hy.append (.cons _ _ .nil), ⟨fun h => by simp at h, fun h => ?_⟩, by simp; (first | lia | omega)⟩
  rw [List.take_add_one, show b.toList[i]? = some c by simpa using e, List.all_append] at h
  simp [hb] at h
theorem Bads.no {b : Array UInt8} {i : Nat} {ys : List Value} {c : UInt8} (h : Bads b i ys) (e : b[i]? = some c) (hb : okCode c = true) : Bads b (i + 1) ys := by
  obtain ⟨ns, hy, hk, hl⟩ := h
  refine ⟨ns, hy, ?_, by (first | lia | omega)⟩
  rw [hk, List.take_add_one, show b.toList[i]? = some c by simpa using e, List.all_append]
  simp [hb]
theorem zk_32 : True := by
  k_with "eval ListComp" => ((k_here; (with_reducible show wpAny _ _ (eval (PySem.Expr.ListComp _ [⟨PySem.Expr.Name _ _, _, [_], _⟩] _ _) _) _ _ _); k_dflt (refine ListComp_BT (by k_asm) (by with_unfolding_all rfl) (by decide) (by rfl) (by decide) (by rfl) ?_)))
  k_with "SrcBT" => ((refine park ?_))
  trivial
set_option maxHeartbeats 4000000 in
theorem c_plainlaw (w : World) (b : Array UInt8) (tb : Tok) (hb : ∀ y ∈ splitAt b #[13, 10], y.size ≤ 2000) (hs1 : (splitAt b #[13, 10]).length ≤ 16777216) (hs2 : ∀ x ∈ splitAt b #[13, 10], x.size ≤ 16777216) : Ctr w 10 235 [.bytes b tb] (PBool (lawPlain b)) := by
  refine' ctr_enter (binds := [(Str.ofString "octets", .bytes b tb)]) ?ho ?hcd ?hlv ?hb ?hl ?hc ?h1 ?h2 ?h3 ?_
  walk_at "c enter"
  k_steps
  revert l' vs' h' k' hvs' F' N' hne'; intro l vs h9 k9 hV F9 N9 hne9
  have hvl := hV.length
  unfold Park
  refine' for_ledger (fun i ps led => (∀ z ∈ (splitAt b #[13, 10]).take i, lineOk z = true) ∧ ps = [] ∧ led = [(l, listOf vs.toArray 0)]) [] [(l, _)] rfl ?hol ?hwh (by k_asm) (by k_asm) ?led ?ps ?j ?turn ?done
  case ps => walk_at "ps"
  case led => walk_at "led"
  case hol => exact List.Mem.head _
  case hwh => rintro i ps led ⟨_, _, rfl⟩; exact .head _
  case j => exact ⟨(fun _ h => nomatch h), rfl, rfl⟩
  case turn =>
    intro i v ps led m I oI h tk hi hv' hJ hI F N
    obtain ⟨hall, rfl, rfl⟩ := hJ
    replace hI := ne_all (l := I) (fun q hq => Ne.symm (hI q hq))
    simp only [NeAll, and_true] at hI
    simp only [List.cons_append, List.nil_append] at N
    obtain ⟨y, t, hy, rfl⟩ := hV.get hv'
    have hys : y.size ≤ 2000 := hb y (List.mem_of_getElem? hy)
    k_steps
    · exact CEnd.flat (by k_asm) (pbool (plain_no hy (by unfold lineOk; rw [decide_eq_false (by (first | lia | omega))]; rfl)).symm)
    · unfold Park
      refine' SrcBT.mk' (Bads y) rfl (by k_asm) (by k_asm) (by (first | lia | omega)) ⟨[], .nil, by simp, Nat.le_refl _⟩ ?turn2 ?done2
      case turn2 =>
        intro g i c u I oI C oC D m₂ ys h tk E' hc hJ hC hx F N off ne
        k_steps
        · exact Same9.intro (by k_asm) (by k_asm) (fun _ h => .tail _ h)
        · exact hJ.yes hc (ok_in (by assumption))
        · exact Same9.intro (by k_asm) (by k_asm) (fun _ h => .tail _ h)
        · exact hJ.yes hc (ok_big (by assumption))
        · exact Same9.intro (by k_asm) (by k_asm) (fun _ h => .tail _ h)
        · exact hJ.no hc (ok_ok (by assumption) (by assumption))
      case done2 =>
        intro D ys h tk hJ F N off
        obtain ⟨ns, hys9, hk, hnl⟩ := hJ
        rw [List.take_of_length_le (by rw [Array.length_toList]; exact Nat.le_refl _)] at hk
        k_steps
        · rename decide (ns = []) = true => hd9
          ((rename News _ _ _ _ => N9); (try simp only [List.push_toArray] at N9); refine TurnEnd.intro [] [(l, _)] (by k_asm) N9 (by walk_at "led") (by k_mem) (by walk_at "offI") (by walk_at "ps") ?_)
          refine ⟨all_take hy hall ?_, rfl, rfl⟩
          unfold lineOk
          rw [hk.mp (of_decide_eq_true hd9), decide_eq_true (by (first | lia | omega))]
          rfl
        · rename decide (ns = []) = false => hd9
          refine CEnd.flat (by k_asm) (pbool (plain_no hy ?_).symm)
          unfold lineOk
          have h9 : y.toList.all okCode = false := by
            cases hq : y.toList.all okCode with
            | false => rfl
            | true => exact absurd (hk.mpr hq) (of_decide_eq_false hd9)
          rw [h9, Bool.and_false]
  case done =>
    intro ps led m h tk hJ F N
    obtain ⟨hall, rfl, rfl⟩ := hJ
    rw [hvl, List.take_length] at hall
    k_steps
    exact CEnd.flat (by k_asm) (pbool (plain_yes hall).symm)

end
section
/-! base64: what is written is read back -/
theorem widx_at : ∀ v : Fin 64, widx (at_ signs64 (v.val : Int)) = some (v.val : Int) := by decide
theorem at_ne_pad : ∀ v : Fin 64, at_ signs64 (v.val : Int) ≠ 61 := by decide
theorem widx_sign {v : Int} (h0 : 0 ≤ v) (h1 : v < 64) : widx (at_ signs64 v) = some v ∧ at_ signs64 v ≠ 61 := by
  have h := widx_at ⟨v.toNat, by (first | lia | omega)⟩
  have h2 := at_ne_pad ⟨v.toNat, by (first | lia | omega)⟩
  simp only [Int.toNat_of_nonneg h0] at h h2
  exact ⟨h, h2⟩
theorem at_byte (a : Array UInt8) (v : Int) : (((at_ a v).toNat.toUInt8).toNat : Int) = at_ a v := by
  rw [at_u8]; rfl
def codes64 (vs : List Int) : List UInt8 := vs.map fun v => (at_ signs64 v).toNat.toUInt8
theorem wl_codes : ∀ (vs : List Int) (r : List UInt8), (∀ v ∈ vs, 0 ≤ v ∧ v < 64) → wl (codes64 vs ++ r) = vs ++ wl r
  | [], r, _ => rfl
  | v :: vs, r, h => by
    obtain ⟨h0, h1⟩ := h v (.head _)
    obtain ⟨hw, hp⟩ := widx_sign h0 h1
    show wl ((at_ signs64 v).toNat.toUInt8 :: (codes64 vs ++ r)) = _
    rw [wl, at_byte, if_neg hp, hw]
    simp only
    rw [wl_codes vs r fun x hx => h x (.tail _ hx)]
    rfl
theorem wl_pad (n : Nat) : wl (List.replicate n 61) = [] := by
  cases n with
  | zero => rfl
  | succ n => rw [List.replicate_succ, wl, if_pos (by decide)]
def groupVals (b : Array UInt8) : List Int := (List.range (b.size + 1)).map fun i => (groupTot b).fdiv (2 ^ (6 * (b.size - i))) % 64
theorem groupCodes_vals (b : Array UInt8) : groupCodes b signs64 = (groupVals b).map (at_ signs64) := by
  unfold groupCodes groupVals
  rw [List.map_map]
  rfl
theorem groupVals_in (b : Array UInt8) : ∀ v ∈ groupVals b, 0 ≤ v ∧ v < 64 := by
  intro v hv
  unfold groupVals at hv
  obtain ⟨i, _, rfl⟩ := List.mem_map.mp hv
  (first | lia | omega)
theorem groupVals_len (b : Array UInt8) : (groupVals b).length = b.size + 1 := by unfold groupVals; simp

end
section
theorem fdiv_nat {a : Int} {n : Nat} (h : 0 < n) : a.fdiv (n : Int) = a / (n : Int) := Int.fdiv_eq_ediv_of_nonneg _ (by (first | lia | omega))
theorem group_back1 (x : UInt8) : groupOcts (groupVals #[x]) = [(x.toNat : Int)] := by
  have hx := x.toNat_lt
  have ht : groupTot #[x] = (x.toNat : Int) * 16 := by
    show (256 * 0 + (x.toNat : Int)) * 2 ^ 4 = _
    (first | lia | omega)
  have hv : groupVals #[x] = [(x.toNat : Int) * 16 / 64 % 64, (x.toNat : Int) * 16 % 64] := by
    unfold groupVals
    rw [ht]
    show [Int.fdiv _ ((64 : Nat) : Int) % 64, Int.fdiv _ ((1 : Nat) : Int) % 64] = _
    rw [fdiv_nat (by decide), fdiv_nat (by decide)]
    simp
  rw [hv]
  unfold groupOcts octWhole tot64
  show [Int.fdiv (Int.fdiv (64 * (64 * 0 + (x.toNat : Int) * 16 / 64 % 64) + (x.toNat : Int) * 16 % 64) ((16 : Nat) : Int)) ((1 : Nat) : Int) % 256] = _
  rw [fdiv_nat (by decide), fdiv_nat (by decide)]
  congr 1
  (first | lia | omega)
theorem p0 : (2 : Int) ^ 0 = ((1 : Nat) : Int) := by decide
theorem p6 : (2 : Int) ^ 6 = ((64 : Nat) : Int) := by decide
theorem p8 : (2 : Int) ^ 8 = ((256 : Nat) : Int) := by decide
theorem p12 : (2 : Int) ^ 12 = ((4096 : Nat) : Int) := by decide
theorem p16 : (2 : Int) ^ 16 = ((65536 : Nat) : Int) := by decide
theorem p18 : (2 : Int) ^ 18 = ((262144 : Nat) : Int) := by decide
theorem p2_ : (2 : Int) ^ 2 = ((4 : Nat) : Int) := by decide
theorem group_back2 (x y : UInt8) : groupOcts (groupVals #[x, y]) = [(x.toNat : Int), (y.toNat : Int)] := by
  have hx := x.toNat_lt
  have hy := y.toNat_lt
  have ht : groupTot #[x, y] = (256 * (x.toNat : Int) + y.toNat) * 4 := by
    show (256 * (256 * 0 + (x.toNat : Int)) + (y.toNat : Int)) * 2 ^ 2 = _
    (first | lia | omega)
  generalize hT : (256 * (x.toNat : Int) + y.toNat) * 4 = T at ht
  have hv : groupVals #[x, y] = [T / 4096 % 64, T / 64 % 64, T % 64] := by
    unfold groupVals
    rw [ht]
    show [Int.fdiv _ (2 ^ 12) % 64, Int.fdiv _ (2 ^ 6) % 64, Int.fdiv _ (2 ^ 0) % 64] = _
    rw [p12, p6, p0, fdiv_nat (by decide), fdiv_nat (by decide), fdiv_nat (by decide)]
    simp
  rw [hv]
  unfold groupOcts octWhole tot64
  show [Int.fdiv (Int.fdiv (64 * (64 * (64 * 0 + T / 4096 % 64) + T / 64 % 64) + T % 64) (2 ^ 2)) (2 ^ 8) % 256, Int.fdiv (Int.fdiv (64 * (64 * (64 * 0 + T / 4096 % 64) + T / 64 % 64) + T % 64) (2 ^ 2)) (2 ^ 0) % 256] = _
  have e : 64 * (64 * (64 * 0 + T / 4096 % 64) + T / 64 % 64) + T % 64 = T := by (first | lia | omega)
  rw [e, p2_, p8, p0, fdiv_nat (by decide), fdiv_nat (by decide), fdiv_nat (by decide)]
  congr 1
  · (first | lia | omega)
  · congr 1
    (first | lia | omega)
theorem group_back3 (x y z : UInt8) : groupOcts (groupVals #[x, y, z]) = [(x.toNat : Int), (y.toNat : Int), (z.toNat : Int)] := by
  have hx := x.toNat_lt
  have hy := y.toNat_lt
  have hz := z.toNat_lt
  have ht : groupTot #[x, y, z] = 256 * (256 * (x.toNat : Int) + y.toNat) + z.toNat := by
    show (256 * (256 * (256 * 0 + (x.toNat : Int)) + (y.toNat : Int)) + (z.toNat : Int)) * 2 ^ 0 = _
    (first | lia | omega)
  generalize hT : 256 * (256 * (x.toNat : Int) + y.toNat) + z.toNat = T at ht
  have hv : groupVals #[x, y, z] = [T / 262144 % 64, T / 4096 % 64, T / 64 % 64, T % 64] := by
    unfold groupVals
    rw [ht]
    show [Int.fdiv _ (2 ^ 18) % 64, Int.fdiv _ (2 ^ 12) % 64, Int.fdiv _ (2 ^ 6) % 64, Int.fdiv _ (2 ^ 0) % 64] = _
    rw [p18, p12, p6, p0, fdiv_nat (by decide), fdiv_nat (by decide), fdiv_nat (by decide), fdiv_nat (by decide)]
    simp
  rw [hv]
  unfold groupOcts octWhole tot64
  have e : 64 * (64 * (64 * (64 * 0 + T / 262144 % 64) + T / 4096 % 64) + T / 64 % 64) + T % 64 = T := by (first | lia | omega)
  show [Int.fdiv (Int.fdiv (64 * (64 * (64 * (64 * 0 + T / 262144 % 64) + T / 4096 % 64) + T / 64 % 64) + T % 64) (2 ^ 0)) (2 ^ 16) % 256, Int.fdiv (Int.fdiv (64 * (64 * (64 * (64 * 0 + T / 262144 % 64) + T / 4096 % 64) + T / 64 % 64) + T % 64) (2 ^ 0)) (2 ^ 8) % 256, Int.fdiv (Int.fdiv (64 * (64 * (64 * (64 * 0 + T / 262144 % 64) + T / 4096 % 64) + T / 64 % 64) + T % 64) (2 ^ 0)) (2 ^ 0) % 256] = _
  rw [e, p16, p8, p0, fdiv_nat (by decide), fdiv_nat (by decide), fdiv_nat (by decide), fdiv_nat (by decide)]
  congr 1
  · (first | lia | omega)
  · congr 1
    · (first | lia | omega)
    · congr 1
      (first | lia | omega)
theorem group_back (b : Array UInt8) (h1 : 1 ≤ b.size) (h3 : b.size ≤ 3) : groupOcts (groupVals b) = b.toList.map fun c => (c.toNat : Int) := by
  obtain ⟨l⟩ := b
  match l, h1, h3 with
  | [x], _, _ => exact group_back1 x
  | [x, y], _, _ => exact group_back2 x y
  | [x, y, z], _, _ => exact group_back3 x y z
  | [], h, _ => exact absurd h (by decide)
  | _ :: _ :: _ :: _ :: _, _, h => exact absurd h (by simp)

end
section
def VL (l : List UInt8) (k : Nat) : List Int := (List.range k).flatMap fun (i : Nat) => groupVals ((l.drop (3 * i)).take 3).toArray
theorem VL_zero (l : List UInt8) : VL l 0 = [] := rfl
theorem VL_succ (l : List UInt8) (k : Nat) : VL l (k + 1) = groupVals (l.take 3).toArray ++ VL (l.drop 3) k := by
  unfold VL
  rw [List.range_succ_eq_map, List.flatMap_cons, List.flatMap_map]
  simp only [Nat.mul_zero, List.drop_zero, List.drop_drop]
  congr 1
  apply congrArg (fun f => List.flatMap f (List.range k))
  funext i
  rw [show 3 * Nat.succ i = 3 + 3 * i by (first | lia | omega)]
theorem decParts_succ' (ns : List Int) (k : Nat) : decParts ns (k + 1) = (if ns.length > 1 then [byteArr (groupOcts (ns.take 4))] else []) ++ decParts (ns.drop 4) k := by
  unfold decParts
  rw [List.range_succ_eq_map, List.filterMap_cons, List.filterMap_map]
  have e : ((fun (j : Nat) => if ns.length > 4 * j + 1 then some (byteArr (groupOcts ((ns.drop (4 * j)).take 4))) else none) ∘ Nat.succ) = fun (j : Nat) => if (ns.drop 4).length > 4 * j + 1 then some (byteArr (groupOcts (((ns.drop 4).drop (4 * j)).take 4))) else none := by
    funext j
    show (if ns.length > 4 * (j + 1) + 1 then _ else _) = _
    rw [List.length_drop, List.drop_drop, show 4 * (j + 1) = 4 + 4 * j by (first | lia | omega)]
    by_cases h : ns.length > 4 + 4 * j + 1
    · rw [if_pos h, if_pos (by (first | lia | omega))]
    · rw [if_neg h, if_neg (by (first | lia | omega))]
  rw [e]
  by_cases h : ns.length > 1
  · simp [h]
  · simp [h]
theorem VL_len : ∀ (k : Nat) (l : List UInt8), l.length ≤ 3 * k → (VL l k).length = l.length + k
  | 0, l, h => by rw [VL_zero]; simp at h; simp [h]
  | k + 1, l, h => by
    rw [VL_succ, List.length_append, groupVals_len, List.size_toArray, List.length_take, VL_len k _ (by rw [List.length_drop]; (first | lia | omega)), List.length_drop]
    (first | lia | omega)
theorem VL_in : ∀ (k : Nat) (l : List UInt8), ∀ v ∈ VL l k, 0 ≤ v ∧ v < 64
  | 0, l, v, h => nomatch h
  | k + 1, l, v, h => by
    rw [VL_succ] at h
    rcases List.mem_append.mp h with h | h
    · exact groupVals_in _ v h
    · exact VL_in k _ v h
theorem byteArr_nat (l : List UInt8) : byteArr (l.map fun c => (c.toNat : Int)) = l.toArray := byteArr_ints8 l
theorem VL_back : ∀ (k : Nat) (l : List UInt8), l.length ≤ 3 * k → 3 * k < l.length + 3 → flat (decParts (VL l k) k) = l.toArray
  | 0, l, h, _ => by
    have : l = [] := List.eq_nil_of_length_eq_zero (by (first | lia | omega))
    subst this
    rfl
  | k + 1, l, h, h2 => by
    rw [VL_succ, decParts_succ']
    have hg : (groupVals (l.take 3).toArray).length = min 3 l.length + 1 := by rw [groupVals_len, List.size_toArray, List.length_take]
    have hb := group_back (l.take 3).toArray (by rw [List.size_toArray, List.length_take]; (first | lia | omega)) (by rw [List.size_toArray, List.length_take]; (first | lia | omega))
    have hlen : (groupVals (l.take 3).toArray ++ VL (l.drop 3) k).length > 1 := by rw [List.length_append, hg]; (first | lia | omega)
    rw [if_pos hlen]
    have hcase : (groupVals (l.take 3).toArray).length = 4 ∨ k = 0 := by (first | lia | omega)
    have ht : (groupVals (l.take 3).toArray ++ VL (l.drop 3) k).take 4 = groupVals (l.take 3).toArray ∧ (groupVals (l.take 3).toArray ++ VL (l.drop 3) k).drop 4 = VL (l.drop 3) k := by
      rcases hcase with e | rfl
      · exact ⟨List.take_left' e, List.drop_left' e⟩
      · rw [VL_zero, List.append_nil]
        exact ⟨List.take_of_length_le (by (first | lia | omega)), List.drop_eq_nil_of_le (by (first | lia | omega))⟩
    rw [ht.1, ht.2, hb, flat_append, flat_one, byteArr_nat]
    rcases (by (first | lia | omega) : l.length ≤ 3 ∨ 3 < l.length) with h3 | h3
    · obtain rfl : k = 0 := by (first | lia | omega)
      rw [List.take_of_length_le h3]
      show l.toArray ++ flat [] = _
      simp [flat_nil]
    · rw [VL_back k (l.drop 3) (by rw [List.length_drop]; (first | lia | omega)) (by rw [List.length_drop]; (first | lia | omega))]
      apply Array.ext'
      simp
theorem partCodes_VL (b : Array UInt8) (k : Nat) : partCodes b signs64 k = (VL b.toList k).map (at_ signs64) := by
  unfold partCodes VL
  rw [List.map_flatMap]
  apply congrArg (fun f => List.flatMap f (List.range k))
  funext i
  rw [groupCodes_vals]
  congr 2
  unfold cut
  rw [show (3 * (i : Int)).toNat = 3 * i by (first | lia | omega), show (3 * (i : Int) + 3).toNat - 3 * i = 3 by (first | lia | omega)]
theorem one_toList (b : Array UInt8) : (oneOf b).toList = codes64 (VL b.toList ((b.size + 2) / 3)) ++ List.replicate ((3 - b.size % 3) % 3) 61 := by
  unfold oneOf
  rw [Array.toList_append, partCodes_VL, padOf_eq]
  congr 1
  · unfold byteArr codes64
    rw [List.map_map]
    rfl
  · unfold byteArr
    rw [List.map_replicate]
    rfl
theorem one_len (b : Array UInt8) : (oneOf b).size = 4 * ((b.size + 2) / 3) := by
  rw [← Array.length_toList, one_toList, List.length_append, List.length_replicate]
  unfold codes64
  have hl : b.toList.length = b.size := Array.length_toList
  rw [List.length_map, VL_len _ _ (by (first | lia | omega)), hl]
  (first | lia | omega)
theorem back_b (b : Array UInt8) (_h : b.size ≤ 24) : decB (oneOf b) = b := by
  have hl : b.toList.length = b.size := Array.length_toList
  unfold decB
  rw [one_toList, wl_codes _ _ (VL_in _ _), wl_pad, List.append_nil, VL_len _ _ (by (first | lia | omega))]
  rw [show (b.toList.length + (b.size + 2) / 3 + 3) / 4 = (b.size + 2) / 3 by (first | lia | omega)]
  rw [VL_back _ _ (by (first | lia | omega)) (by (first | lia | omega))]

end
section
/-! the parts between CR LF -/
def splitL : List UInt8 → List UInt8 → List (List UInt8)
  | c :: d :: r, acc => if c = 13 ∧ d = 10 then acc :: splitL r [] else splitL (d :: r) (acc ++ [c])
  | [c], acc => [acc ++ [c]]
  | [], acc => [acc]
def occL : List UInt8 → Nat → List Nat
  | c :: d :: r, i => if c = 13 ∧ d = 10 then i :: occL r (i + 2) else occL (d :: r) (i + 1)
  | _, _ => []
theorem occL_short {l : List UInt8} (h : l.length ≤ 1) (i : Nat) : occL l i = [] := by
  match l, h with
  | [], _ => rfl
  | [_], _ => rfl
theorem occL_le : ∀ (l : List UInt8) (i : Nat), (occL l i).length ≤ l.length
  | c :: d :: r, i => by
    rw [occL]
    split
    · have := occL_le r (i + 2); simp only [List.length_cons]; (first | lia | omega)
    · have := occL_le (d :: r) (i + 1); simp only [List.length_cons] at this ⊢; (first | lia | omega)
  | [_], _ => Nat.zero_le _
  | [], _ => Nat.zero_le _
theorem extract_two {b : Array UInt8} {i : Nat} {c d : UInt8} {r : List UInt8} (h : b.toList.drop i = c :: d :: r) : (b.extract i (i + 2) == #[13, 10]) = decide (c = 13 ∧ d = 10) := by
  have e : (b.extract i (i + 2)).toList = [c, d] := by
    rw [Array.toList_extract, List.extract_eq_take_drop, h, show i + 2 - i = 2 by (first | lia | omega)]
    rfl
  rw [Bool.eq_iff_iff, beq_iff_eq, decide_eq_true_iff]
  constructor
  · intro q
    rw [q] at e
    injection e with e1 e2
    injection e2 with e2 _
    exact ⟨e1.symm, e2.symm⟩
  · rintro ⟨rfl, rfl⟩
    exact Array.ext' e
def occStep (b : Array UInt8) (acc : List Nat × Nat) (i : Nat) : List Nat × Nat := if i ≥ acc.2 && b.extract i (i + 2) == #[13, 10] then (i :: acc.1, i + 2) else acc
theorem occ_fold (b : Array UInt8) : ∀ (m i : Nat) (acc : List Nat) (lim : Nat), i + m = b.size → lim ≤ i → ((List.range' i (m - 1)).foldl (occStep b) (acc, lim)).1 = (occL (b.toList.drop i) i).reverse ++ acc := by
  intro m
  induction m using Nat.strongRecOn with
  | _ m ih =>
    intro i acc lim hm hl
    have hlen : (b.toList.drop i).length = m := by rw [List.length_drop, Array.length_toList]; (first | lia | omega)
    rcases (by (first | lia | omega) : m ≤ 1 ∨ 2 ≤ m) with h1 | h2
    · rw [occL_short (by (first | lia | omega)), show m - 1 = 0 by (first | lia | omega)]
      rfl
    · match hd : b.toList.drop i with
      | [] => rw [hd] at hlen; simp at hlen; (first | lia | omega)
      | [_] => rw [hd] at hlen; simp at hlen; (first | lia | omega)
      | c :: d :: r =>
        have hd1 : b.toList.drop (i + 1) = d :: r := by rw [← List.drop_drop, hd]; rfl
        have hd2 : b.toList.drop (i + 2) = r := by rw [← List.drop_drop, hd]; rfl
        rw [show m - 1 = (m - 2) + 1 by (first | lia | omega), List.range'_succ, List.foldl_cons]
        by_cases hc : c = 13 ∧ d = 10
        · have hs : occStep b (acc, lim) i = (i :: acc, i + 2) := by
            unfold occStep
            rw [extract_two hd, decide_eq_true hc]
            simp [hl]
          rw [hs, occL, if_pos hc]
          rcases (by (first | lia | omega) : m = 2 ∨ 3 ≤ m) with rfl | h3
          · have : r = [] := by
              rw [hd] at hlen
              simpa using hlen
            subst this
            simp [occL]
          · rw [show m - 2 = (m - 2 - 1) + 1 by (first | lia | omega), List.range'_succ, List.foldl_cons]
            have hs2 : occStep b (i :: acc, i + 2) (i + 1) = (i :: acc, i + 2) := by
              unfold occStep
              rw [if_neg]
              simp
            rw [hs2]
            have := ih (m - 2) (by (first | lia | omega)) (i + 2) (i :: acc) (i + 2) (by (first | lia | omega)) (Nat.le_refl _)
            rw [hd2] at this
            rw [show i + 1 + 1 = i + 2 by (first | lia | omega), this]
            simp
        · have hs : occStep b (acc, lim) i = (acc, lim) := by
            unfold occStep
            rw [extract_two hd, decide_eq_false hc]
            simp
          rw [hs, occL, if_neg hc]
          have := ih (m - 1) (by (first | lia | omega)) (i + 1) acc lim (by (first | lia | omega)) (by (first | lia | omega))
          rw [hd1] at this
          rw [show m - 2 = m - 1 - 1 by (first | lia | omega), this]
theorem occ_eq (b : Array UInt8) : PySem.Builtin.Bytes.occurrences b #[13, 10] 0 b.size = occL b.toList 0 := by
  have h := occ_fold b b.size 0 [] 0 (by (first | lia | omega)) (Nat.le_refl _)
  have e : PySem.Builtin.Bytes.occurrences b #[13, 10] 0 b.size = ((((List.range (b.size + 1 - (0 + 2))).map (· + 0)).foldl (occStep b) ([], 0)).1).reverse := rfl
  rw [e, show b.size + 1 - (0 + 2) = b.size - 1 by (first | lia | omega)]
  simp only [Nat.add_zero, List.map_id']
  rw [List.range_eq_range', h]
  simp
def btStep (b : Array UInt8) (x : Array (Array UInt8) × Nat) (p : Nat) : Array (Array UInt8) × Nat := (x.1.push (b.extract x.2 p), p + 2)
def btEnd (b : Array UInt8) (x : Array (Array UInt8) × Nat) : List (Array UInt8) := (x.1.push (b.extract x.2 b.size)).toList
theorem extract_list (b : Array UInt8) (i j : Nat) : b.extract i j = ((b.toList.drop i).take (j - i)).toArray := by
  apply Array.ext'
  rw [Array.toList_extract, List.extract_eq_take_drop]
theorem take_snoc {l : List UInt8} {last i : Nat} {c : UInt8} {r : List UInt8} (h : l.drop i = c :: r) (hl : last ≤ i) : (l.drop last).take (i + 1 - last) = (l.drop last).take (i - last) ++ [c] := by
  have hc : (l.drop last)[i - last]? = some c := by
    rw [List.getElem?_drop, show last + (i - last) = i by (first | lia | omega)]
    have : (l.drop i)[0]? = some c := by rw [h]; rfl
    rwa [List.getElem?_drop, Nat.add_zero] at this
  rw [show i + 1 - last = (i - last) + 1 by (first | lia | omega), List.take_add_one, hc]
  rfl
theorem bt_fold (b : Array UInt8) : ∀ (m i last : Nat) (parts : Array (Array UInt8)), i + m = b.size → last ≤ i →
    btEnd b ((occL (b.toList.drop i) i).foldl (btStep b) (parts, last)) = parts.toList ++ (splitL (b.toList.drop i) ((b.toList.drop last).take (i - last))).map List.toArray := by
  intro m
  induction m using Nat.strongRecOn with
  | _ m ih =>
    intro i last parts hm hl
    have hlen : (b.toList.drop i).length = m := by rw [List.length_drop, Array.length_toList]; (first | lia | omega)
    have hbl : b.toList.length = b.size := Array.length_toList
    match hd : b.toList.drop i with
    | [] =>
      rw [hd] at hlen
      have : i = b.size := by simp at hlen; (first | lia | omega)
      subst this
      show (parts.push (b.extract last b.size)).toList = _
      rw [splitL, extract_list]
      simp
    | [c] =>
      rw [hd] at hlen
      have : b.size = i + 1 := by simp at hlen; (first | lia | omega)
      show (parts.push (b.extract last b.size)).toList = _
      rw [splitL, extract_list, this, take_snoc hd hl]
      simp
    | c :: d :: r =>
      have hd1 : b.toList.drop (i + 1) = d :: r := by rw [← List.drop_drop, hd]; rfl
      have hd2 : b.toList.drop (i + 2) = r := by rw [← List.drop_drop, hd]; rfl
      have hm2 : 2 ≤ m := by rw [hd] at hlen; simp at hlen; (first | lia | omega)
      rw [occL, splitL]
      by_cases hc : c = 13 ∧ d = 10
      · rw [if_pos hc, if_pos hc, List.foldl_cons]
        have := ih (m - 2) (by (first | lia | omega)) (i + 2) (i + 2) (parts.push (b.extract last i)) (by (first | lia | omega)) (Nat.le_refl _)
        rw [hd2, Nat.sub_self, List.take_zero] at this
        show btEnd b (List.foldl (btStep b) (parts.push (b.extract last i), i + 2) (occL r (i + 2))) = _
        rw [this, extract_list]
        simp
      · rw [if_neg hc, if_neg hc]
        have := ih (m - 1) (by (first | lia | omega)) (i + 1) last parts (by (first | lia | omega)) (by (first | lia | omega))
        rw [hd1, take_snoc hd hl] at this
        exact this
theorem split_eq (b : Array UInt8) : splitAt b #[13, 10] = (splitL b.toList []).map List.toArray := by
  have h := bt_fold b b.size 0 0 #[] (by (first | lia | omega)) (Nat.le_refl _)
  rw [List.drop_zero, Nat.sub_zero, List.take_zero] at h
  have ho := occL_le b.toList 0
  have hbl : b.toList.length = b.size := Array.length_toList
  unfold splitAt
  rw [occ_eq, List.take_of_length_le (by (first | lia | omega))]
  have hb : PySem.Builtin.Bytes.between b (#[13, 10] : Array UInt8).size (occL b.toList 0) = btEnd b ((occL b.toList 0).foldl (btStep b) (#[], 0)) := rfl
  dsimp only
  split
  · rename_i he
    rw [List.isEmpty_iff] at he
    rw [he] at h
    have h2 : btEnd b (List.foldl (btStep b) (#[], 0) []) = [b] := by
      show (#[].push (b.extract 0 b.size)).toList = [b]
      simp
    rw [h2] at h
    rw [h]
    simp
  · rw [hb, h]
    simp
theorem splitL_num : ∀ (l acc : List UInt8), (splitL l acc).length ≤ l.length + 1
  | c :: d :: r, acc => by
    rw [splitL]
    split
    · have := splitL_num r []; simp only [List.length_cons]; (first | lia | omega)
    · have := splitL_num (d :: r) (acc ++ [c]); simp only [List.length_cons] at this ⊢; (first | lia | omega)
  | [_], _ => by simp [splitL]
  | [], _ => by simp [splitL]
theorem splitL_le : ∀ (l acc : List UInt8), ∀ y ∈ splitL l acc, y.length ≤ l.length + acc.length
  | c :: d :: r, acc, y, hy => by
    rw [splitL] at hy
    split at hy
    · rcases List.mem_cons.mp hy with rfl | hy
      · (first | lia | omega)
      · have := splitL_le r [] y hy; simp only [List.length_cons, List.length_nil] at this ⊢; (first | lia | omega)
    · have := splitL_le (d :: r) (acc ++ [c]) y hy
      simp only [List.length_cons, List.length_append, List.length_nil] at this ⊢; (first | lia | omega)
  | [c], acc, y, hy => by
    rw [splitL] at hy
    rw [List.mem_singleton.mp hy]; simp; (first | lia | omega)
  | [], acc, y, hy => by
    rw [splitL] at hy
    rw [List.mem_singleton.mp hy]; simp
theorem split_num (b : Array UInt8) : (splitAt b #[13, 10]).length ≤ b.size + 1 := by
  rw [split_eq, List.length_map]
  have := splitL_num b.toList []
  have hbl : b.toList.length = b.size := Array.length_toList
  (first | lia | omega)
theorem split_le (b : Array UInt8) : ∀ y ∈ splitAt b #[13, 10], y.size ≤ b.size := by
  intro y hy
  rw [split_eq] at hy
  obtain ⟨z, hz, rfl⟩ := List.mem_map.mp hy
  have := splitL_le b.toList [] z hz
  have hbl : b.toList.length = b.size := Array.length_toList
  rw [List.size_toArray]
  simp only [List.length_nil] at this
  (first | lia | omega)

end
section
/-! is_seven_bit answers as the law's own reading -/
def okAt (p c : UInt8) (r : List UInt8) : Bool := !(c == 0) && !decide (127 < c.toNat) && !(c == 13 && !(r.head? == some 10)) && !(c == 10 && !(p == 13))
def seqOk : UInt8 → List UInt8 → Bool
  | _, [] => true
  | p, c :: r => okAt p c r && seqOk c r
def prevOf (l : List UInt8) (i : Nat) : UInt8 := if i = 0 then 0 else l.getD (i - 1) 0
theorem u8_eq (c : UInt8) (n : Nat) (h : n < 256) : (c.toNat = n) ↔ c = UInt8.ofNat n := by
  constructor
  · intro e
    rw [← e]
    exact (UInt8.ofNat_toNat).symm
  · rintro rfl
    exact UInt8.toNat_ofNat_of_lt' (by (first | lia | omega))
theorem cut_next {b : Array UInt8} {i : Nat} : (cut b ((i : Int) + 1) ((i : Int) + 2)).toList = (b.toList.drop (i + 1)).take 1 := by
  unfold cut
  rw [show ((i : Int) + 1).toNat = i + 1 by (first | lia | omega), show ((i : Int) + 2).toNat - (i + 1) = 1 by (first | lia | omega)]
theorem code_eq {b : Array UInt8} {i : Nat} {c : UInt8} {r : List UInt8} (h : b.toList.drop i = c :: r) : codeOk b (i : Nat) = okAt (prevOf b.toList i) c r := by
  have hc : b.toList[i]? = some c := by
    have : (b.toList.drop i)[0]? = some c := by rw [h]; rfl
    rwa [List.getElem?_drop, Nat.add_zero] at this
  have hat : at_ b (i : Nat) = (c.toNat : Int) := by
    unfold at_
    rw [Int.toNat_natCast, List.getD_eq_getElem?_getD, hc]
    rfl
  have h1 : b.toList.drop (i + 1) = r := by rw [← List.drop_drop, h]; rfl
  have e0 : ((c.toNat : Int) == 0) = (c == 0) := by
    rw [Bool.eq_iff_iff, beq_iff_eq, beq_iff_eq]
    have := u8_eq c 0 (by decide)
    constructor
    · intro q; exact this.mp (by (first | lia | omega))
    · intro q; have := this.mpr q; (first | lia | omega)
  have e13 : ((c.toNat : Int) == 13) = (c == 13) := by
    rw [Bool.eq_iff_iff, beq_iff_eq, beq_iff_eq]
    have := u8_eq c 13 (by decide)
    constructor
    · intro q; exact this.mp (by (first | lia | omega))
    · intro q; have := this.mpr q; (first | lia | omega)
  have e10 : ((c.toNat : Int) == 10) = (c == 10) := by
    rw [Bool.eq_iff_iff, beq_iff_eq, beq_iff_eq]
    have := u8_eq c 10 (by decide)
    constructor
    · intro q; exact this.mp (by (first | lia | omega))
    · intro q; have := this.mpr q; (first | lia | omega)
  have e127 : decide ((c.toNat : Int) > 127) = decide (127 < c.toNat) := by
    rw [Bool.eq_iff_iff, decide_eq_true_iff, decide_eq_true_iff]
    (first | lia | omega)
  have en : neB (cut b ((i : Int) + 1) ((i : Int) + 2)) #[10] = !(r.head? == some 10) := by
    unfold neB
    rw [cut_next, h1]
    cases r with
    | nil => rfl
    | cons d q =>
      show (!([d] == [10])) = !(some d == some 10)
      rw [Bool.eq_iff_iff]
      simp
  have ep : neB (cut b (if 0 > (i : Int) - 1 then 0 else (i : Int) - 1) i) #[13] = !(prevOf b.toList i == 13) := by
    unfold neB prevOf
    rcases Nat.eq_zero_or_pos i with rfl | hi
    · rw [if_pos (by decide), if_pos rfl]
      unfold cut
      rfl
    · rw [if_neg (by (first | lia | omega)), if_neg (by (first | lia | omega))]
      unfold cut
      rw [show ((i : Int) - 1).toNat = i - 1 by (first | lia | omega), Int.toNat_natCast, show i - (i - 1) = 1 by (first | lia | omega)]
      have hlt : i - 1 < b.toList.length := by
        have := (List.getElem?_eq_some_iff.mp hc).1; (first | lia | omega)
      rw [List.drop_eq_getElem_cons hlt, List.getD_eq_getElem?_getD, List.getElem?_eq_getElem hlt]
      show (!([_] == [13])) = !(_ == _)
      rw [Bool.eq_iff_iff]
      simp
  unfold codeOk okAt
  rw [hat, e0, e13, e10, e127, en, ep]
theorem codes_eq (b : Array UInt8) : ∀ (m i : Nat), i + m = b.size → (List.range' i m).all (fun (j : Nat) => codeOk b j) = seqOk (prevOf b.toList i) (b.toList.drop i) := by
  have hbl : b.toList.length = b.size := Array.length_toList
  intro m
  induction m with
  | zero =>
    intro i h
    rw [List.drop_eq_nil_of_le (by (first | lia | omega))]
    rfl
  | succ m ih =>
    intro i h
    have hlt : i < b.toList.length := by (first | lia | omega)
    have hd := List.drop_eq_getElem_cons hlt
    rw [List.range'_succ, List.all_cons, code_eq hd, hd, seqOk, ih (i + 1) (by (first | lia | omega))]
    congr 2
    unfold prevOf
    rw [if_neg (by (first | lia | omega)), Nat.add_sub_cancel, List.getD_eq_getElem?_getD, List.getElem?_eq_getElem hlt]
    rfl
theorem codes_all (b : Array UInt8) : (List.range b.size).all (fun (j : Nat) => codeOk b j) = seqOk 0 b.toList := by
  have := codes_eq b b.size 0 (by (first | lia | omega))
  rw [← List.range_eq_range'] at this
  simpa [prevOf] using this
theorem okCode_iff (c : UInt8) : okCode c = (!(c == 0) && !decide (127 < c.toNat) && !(c == 13) && !(c == 10)) := by
  have e : ∀ n : Nat, n < 256 → (((n : Int)) == (c.toNat : Int)) = (c == UInt8.ofNat n) := by
    intro n hn
    rw [Bool.eq_iff_iff, beq_iff_eq, beq_iff_eq, ← u8_eq c n hn]
    (first | lia | omega)
  have e0 := e 0 (by decide)
  have e10 := e 10 (by decide)
  have e13 := e 13 (by decide)
  unfold okCode
  show (!(((0 : Int) == (c.toNat : Int)) || (((10 : Int) == (c.toNat : Int)) || (((13 : Int) == (c.toNat : Int)) || false))) && !decide (127 < (c.toNat : Int))) = _
  rw [show ((0 : Int) == (c.toNat : Int)) = (c == 0) from e0, show ((10 : Int) == (c.toNat : Int)) = (c == 10) from e10, show ((13 : Int) == (c.toNat : Int)) = (c == 13) from e13]
  have e127 : decide (127 < (c.toNat : Int)) = decide (127 < c.toNat) := by
    rw [Bool.eq_iff_iff, decide_eq_true_iff, decide_eq_true_iff]; (first | lia | omega)
  rw [e127]
  cases (c == 0) <;> cases (c == 10) <;> cases (c == 13) <;> cases decide (127 < c.toNat) <;> rfl
def allOk (ls : List (List UInt8)) : Bool := ls.all fun y => y.all okCode
theorem allOk_acc : ∀ (l acc : List UInt8), acc.all okCode = false → allOk (splitL l acc) = false
  | c :: d :: r, acc, h => by
    rw [splitL]
    split
    · unfold allOk; rw [List.all_cons, h, Bool.false_and]
    · exact allOk_acc (d :: r) (acc ++ [c]) (by rw [List.all_append, h, Bool.false_and])
  | [c], acc, h => by unfold splitL allOk; rw [List.all_cons, List.all_append, h]; simp
  | [], acc, h => by unfold splitL allOk; rw [List.all_cons, h]; simp
theorem okAt_ok {p c : UInt8} {r : List UInt8} (h : okCode c = true) : okAt p c r = true := by
  rw [okCode_iff] at h
  unfold okAt
  revert h
  cases (c == 0) <;> cases (c == 10) <;> cases (c == 13) <;> cases decide (127 < c.toNat) <;> simp
theorem okAt_no {p c : UInt8} {r : List UInt8} (h : okCode c = false) (hp : p ≠ 13) (h10 : c = 13 → r.head? ≠ some 10) : okAt p c r = false := by
  rw [okCode_iff] at h
  have hp' : (p == 13) = false := by simpa using hp
  unfold okAt
  rw [hp']
  by_cases hc : c = 13
  · subst hc
    have : (r.head? == some 10) = false := by simpa using h10 rfl
    rw [this]
    decide
  · have hc' : (c == 13) = false := by simpa using hc
    rw [hc'] at h ⊢
    revert h
    cases (c == 0) <;> cases (c == 10) <;> cases decide (127 < c.toNat) <;> simp
theorem ok_ne {c : UInt8} (h : okCode c = true) : c ≠ 13 ∧ c ≠ 10 := by
  constructor <;> (rintro rfl; exact absurd h (by decide))
theorem seq_split : ∀ (l acc : List UInt8) (p : UInt8), acc.all okCode = true → p ≠ 13 → allOk (splitL l acc) = seqOk p l ∧ (seqOk p l = true → (lineParts l acc).map (·.1) = splitL l acc)
  | c :: d :: r, acc, p, ha, hp => by
    rw [splitL]
    by_cases h : c = 13 ∧ d = 10
    · rw [if_pos h]
      obtain ⟨rfl, rfl⟩ := h
      obtain ⟨i1, i2⟩ := seq_split r [] 10 rfl (by decide)
      have hs : seqOk p (13 :: 10 :: r) = seqOk 10 r := by
        rw [seqOk, seqOk]
        have e1 : okAt p 13 (10 :: r) = true := by unfold okAt; rfl
        have e2 : okAt 13 10 r = true := by unfold okAt; rfl
        rw [e1, e2]; rfl
      rw [hs]
      refine ⟨?_, fun q => ?_⟩
      · unfold allOk at i1 ⊢
        rw [List.all_cons, ha, Bool.true_and, i1]
      · rw [lineParts, if_neg (by decide), lineParts, if_pos rfl, List.map_cons, i2 q]
        congr 1
        unfold rowOf
        rw [if_pos (by simp)]
        simp
    · rw [if_neg h]
      by_cases hc : okCode c = true
      · obtain ⟨i1, i2⟩ := seq_split (d :: r) (acc ++ [c]) c (by rw [List.all_append, ha]; simp [hc]) (ok_ne hc).1
        rw [seqOk, okAt_ok hc, Bool.true_and]
        refine ⟨i1, fun q => ?_⟩
        rw [lineParts, if_neg (ok_ne hc).2]
        exact i2 q
      · have hc' : okCode c = false := by simpa using hc
        have hs : seqOk p (c :: d :: r) = false := by
          rw [seqOk, okAt_no hc' hp (fun q w => h ⟨q, by simpa using w⟩), Bool.false_and]
        rw [hs]
        exact ⟨allOk_acc (d :: r) (acc ++ [c]) (by rw [List.all_append, ha]; simp [hc']), fun q => absurd q (by decide)⟩
  | [c], acc, p, ha, hp => by
    rw [splitL, seqOk, seqOk]
    by_cases hc : okCode c = true
    · rw [okAt_ok hc]
      refine ⟨?_, fun _ => ?_⟩
      · unfold allOk; simp [ha, hc]
      · rw [lineParts, if_neg (ok_ne hc).2, lineParts]; rfl
    · have hc' : okCode c = false := by simpa using hc
      rw [okAt_no hc' hp (fun _ w => by cases w)]
      refine ⟨?_, fun q => absurd q (by decide)⟩
      unfold allOk; simp [hc']
  | [], acc, p, ha, hp => by
    rw [splitL, seqOk]
    refine ⟨?_, fun _ => ?_⟩
    · unfold allOk; simp [ha]
    · rw [lineParts]; rfl
theorem seven_plain (b : Array UInt8) : sevenBit b = lawPlain b := by
  obtain ⟨h1, h2⟩ := seq_split b.toList [] 0 rfl (by decide)
  have hl : lawPlain b = (allOk (splitL b.toList []) && (splitL b.toList []).all fun y => decide (y.length ≤ 998)) := by
    unfold lawPlain allOk
    rw [split_eq, List.all_map, Bool.eq_iff_iff]
    simp only [List.all_eq_true, Bool.and_eq_true, Function.comp, List.size_toArray]
    constructor
    · intro h
      exact ⟨fun y hy => (h y hy).2, fun y hy => (h y hy).1⟩
    · rintro ⟨ha, hb⟩ y hy
      exact ⟨hb y hy, ha y hy⟩
  unfold sevenBit
  rw [codes_all, hl, h1]
  cases hs : seqOk 0 b.toList with
  | false => rfl
  | true =>
    rw [Bool.true_and, Bool.true_and]
    have h3 := h2 hs
    unfold lens
    rw [← h3, List.all_map, List.all_map]
    congr 1
    funext p
    show decide ((p.1.length : Int) ≤ 998) = decide (p.1.length ≤ 998)
    rw [Bool.eq_iff_iff, decide_eq_true_iff, decide_eq_true_iff]
    (first | lia | omega)

end
section
/-! quoted-printable: what is written is read back -/
def qPiece (c : UInt8) (last : Bool) : List UInt8 := if isPlain (c.toNat : Int) = true ∧ ¬ ((c = 32 ∨ c = 9) ∧ last = true) then [c] else [61, hexD ((c.toNat : Int) / 16), hexD ((c.toNat : Int) % 16)]
def qL : List UInt8 → List UInt8
  | [] => []
  | c :: r => qPiece c r.isEmpty ++ qL r
theorem u8_eq4 (c : UInt8) (n : Nat) (h : n < 256) : ((c.toNat : Int) = (n : Int)) ↔ c = UInt8.ofNat n := by
  have := u8_eq c n h
  rw [← this]
  (first | lia | omega)
theorem piece_eq {b : Array UInt8} {i : Nat} {c : UInt8} {r : List UInt8} (h : b.toList.drop i = c :: r) : (pieceAt b i).toList = qPiece c r.isEmpty := by
  have hbl : b.toList.length = b.size := Array.length_toList
  have hc : b.toList[i]? = some c := by
    have : (b.toList.drop i)[0]? = some c := by rw [h]; rfl
    rwa [List.getElem?_drop, Nat.add_zero] at this
  have hat : at_ b (i : Nat) = (c.toNat : Int) := by
    unfold at_
    rw [Int.toNat_natCast, List.getD_eq_getElem?_getD, hc]
    rfl
  have hlen : (b.toList.drop i).length = r.length + 1 := by rw [h]; rfl
  rw [List.length_drop] at hlen
  have hlast : (i + 1 = b.size) ↔ r.isEmpty = true := by
    rw [List.isEmpty_iff]
    constructor
    · intro e; exact List.eq_nil_of_length_eq_zero (by (first | lia | omega))
    · rintro rfl; simp at hlen; (first | lia | omega)
  have hw : (((c.toNat : Int) = 32 ∨ (c.toNat : Int) = 9)) ↔ (c = 32 ∨ c = 9) := or_congr (u8_eq4 c 32 (by decide)) (u8_eq4 c 9 (by decide))
  have hcut : (cut b (i : Int) ((i : Int) + 1)).toList = [c] := by
    unfold cut
    rw [Int.toNat_natCast, show ((i : Int) + 1).toNat - i = 1 by (first | lia | omega), h]
    rfl
  unfold pieceAt qPiece
  rw [hat]
  by_cases hq : isPlain (c.toNat : Int) = true ∧ ¬ ((c = 32 ∨ c = 9) ∧ r.isEmpty = true)
  · rw [if_pos hq, if_pos ⟨hq.1, fun w => hq.2 ⟨hw.mp w.1, hlast.mp w.2⟩⟩]
    exact hcut
  · rw [if_neg hq, if_neg (fun w => hq ⟨w.1, fun v => w.2 ⟨hw.mpr v.1, hlast.mpr v.2⟩⟩)]
    rfl
theorem qline_from (b : Array UInt8) : ∀ (m i : Nat), i + m = b.size → ((List.range' i m).map fun j => (pieceAt b j).toList).flatten = qL (b.toList.drop i) := by
  have hbl : b.toList.length = b.size := Array.length_toList
  intro m
  induction m with
  | zero =>
    intro i h
    rw [List.drop_eq_nil_of_le (by (first | lia | omega))]
    rfl
  | succ m ih =>
    intro i h
    have hlt : i < b.toList.length := by (first | lia | omega)
    have hd := List.drop_eq_getElem_cons hlt
    rw [List.range'_succ, List.map_cons, List.flatten_cons, ih (i + 1) (by (first | lia | omega)), piece_eq hd, hd, qL]
theorem qline_eq (b : Array UInt8) : (qline b).toList = qL b.toList := by
  have := qline_from b b.size 0 (by (first | lia | omega))
  rw [← List.range_eq_range', List.drop_zero] at this
  rw [← this]
  unfold qline flat linePieces
  rw [List.map_map]
  rfl
/-! its signs -/
theorem hexD_in : ∀ v : Fin 16, (hexW ((hexD (v.val : Int)).toNat : Int) = (v.val : Int)) ∧ hexD (v.val : Int) ≠ 10 ∧ hexD (v.val : Int) ≠ 13 ∧ hexD (v.val : Int) ≠ 32 ∧ hexD (v.val : Int) ≠ 9 ∧ hexD (v.val : Int) ≠ 61 := by decide
theorem hexD_ok {v : Int} (h0 : 0 ≤ v) (h1 : v < 16) : hexW ((hexD v).toNat : Int) = v ∧ hexD v ≠ 10 ∧ hexD v ≠ 13 ∧ hexD v ≠ 32 ∧ hexD v ≠ 9 ∧ hexD v ≠ 61 := by
  have h := hexD_in ⟨v.toNat, by (first | lia | omega)⟩
  simp only [Int.toNat_of_nonneg h0] at h
  exact h
theorem plain_ne {c : UInt8} (h : isPlain (c.toNat : Int) = true) : c ≠ 10 ∧ c ≠ 13 ∧ c ≠ 61 := by
  refine ⟨?_, ?_, ?_⟩ <;> (rintro rfl; exact absurd h (by decide))
theorem piece_cases (c : UInt8) (e : Bool) : (qPiece c e = [c] ∧ c ≠ 10 ∧ c ≠ 13 ∧ c ≠ 61 ∧ (e = true → c ≠ 32 ∧ c ≠ 9)) ∨ qPiece c e = [61, hexD ((c.toNat : Int) / 16), hexD ((c.toNat : Int) % 16)] := by
  unfold qPiece
  by_cases hq : isPlain (c.toNat : Int) = true ∧ ¬ ((c = 32 ∨ c = 9) ∧ e = true)
  · left
    rw [if_pos hq]
    obtain ⟨a1, a2, a3⟩ := plain_ne hq.1
    exact ⟨rfl, a1, a2, a3, fun he => ⟨fun w => hq.2 ⟨.inl w, he⟩, fun w => hq.2 ⟨.inr w, he⟩⟩⟩
  · right
    rw [if_neg hq]
theorem qL_len : ∀ l : List UInt8, (qL l).length ≤ 3 * l.length
  | [] => Nat.le_refl _
  | c :: r => by
    have := qL_len r
    rw [qL, List.length_append]
    rcases piece_cases c r.isEmpty with ⟨e, _⟩ | e <;> (rw [e]; simp only [List.length_cons, List.length_nil]; (first | lia | omega))
theorem code_hex (c : UInt8) : (0 ≤ (c.toNat : Int) / 16 ∧ (c.toNat : Int) / 16 < 16) ∧ (0 ≤ (c.toNat : Int) % 16 ∧ (c.toNat : Int) % 16 < 16) := by
  have := c.toNat_lt
  (first | lia | omega)
theorem qL_signs : ∀ l : List UInt8, ∀ d ∈ qL l, d ≠ 10 ∧ d ≠ 13
  | [], d, h => nomatch h
  | c :: r, d, h => by
    rw [qL] at h
    rcases List.mem_append.mp h with h | h
    · rcases piece_cases c r.isEmpty with ⟨e, a1, a2, _⟩ | e
      · rw [e] at h
        rw [List.mem_singleton.mp h]; exact ⟨a1, a2⟩
      · rw [e] at h
        obtain ⟨⟨b1, b2⟩, b3, b4⟩ := code_hex c
        have k1 := hexD_ok b1 b2
        have k2 := hexD_ok b3 b4
        rcases List.mem_cons.mp h with rfl | h
        · decide
        · rcases List.mem_cons.mp h with rfl | h
          · exact ⟨k1.2.1, k1.2.2.1⟩
          · rw [List.mem_singleton.mp h]; exact ⟨k2.2.1, k2.2.2.1⟩
    · exact qL_signs r d h
theorem qL_last : ∀ l : List UInt8, ∀ d, (qL l).getLast? = some d → d ≠ 32 ∧ d ≠ 9 ∧ d ≠ 61
  | [], d, h => by cases h
  | c :: r, d, h => by
    rw [qL] at h
    cases r with
    | nil =>
      rw [qL, List.append_nil] at h
      rcases piece_cases c true with ⟨e, a1, a2, a3, a4⟩ | e
      · rw [show ([] : List UInt8).isEmpty = true from rfl, e] at h
        obtain rfl : c = d := by simpa using h
        exact ⟨(a4 rfl).1, (a4 rfl).2, a3⟩
      · rw [show ([] : List UInt8).isEmpty = true from rfl, e] at h
        obtain ⟨_, b3, b4⟩ := code_hex c
        have k2 := hexD_ok b3 b4
        obtain rfl : hexD ((c.toNat : Int) % 16) = d := by simpa using h
        exact ⟨k2.2.2.2.1, k2.2.2.2.2.1, k2.2.2.2.2.2⟩
    | cons c2 r2 =>
      refine qL_last (c2 :: r2) d ?_
      rw [List.getLast?_append] at h
      have hne : qL (c2 :: r2) ≠ [] := by
        rw [qL]
        rcases piece_cases c2 r2.isEmpty with ⟨e, _⟩ | e <;> (rw [e]; simp)
      cases hq : (qL (c2 :: r2)).getLast? with
      | none => exact absurd (List.getLast?_eq_none_iff.mp hq) hne
      | some x => rw [hq] at h; simpa using h
theorem unq_lit' (c : UInt8) (r : List UInt8) (h : c ≠ 61) : unqL (c :: r) = c :: unqL r := by
  match r with
  | [] => rfl
  | [_] => rfl
  | a :: b :: q => rw [unqL, if_neg (fun w => h w.1)]
theorem unq_back : ∀ l : List UInt8, unqL (qL l) = l
  | [] => rfl
  | c :: r => by
    rw [qL]
    rcases piece_cases c r.isEmpty with ⟨e, _, _, a3, _⟩ | e
    · rw [e]
      show unqL (c :: qL r) = _
      rw [unq_lit' _ _ a3, unq_back r]
    · rw [e]
      obtain ⟨⟨b1, b2⟩, b3, b4⟩ := code_hex c
      have k1 := (hexD_ok b1 b2).1
      have k2 := (hexD_ok b3 b4).1
      show unqL (61 :: hexD ((c.toNat : Int) / 16) :: hexD ((c.toNat : Int) % 16) :: qL r) = _
      rw [unqL, k1, k2, if_pos ⟨rfl, b1, b3⟩, unq_back r]
      congr 1
      rw [show 16 * ((c.toNat : Int) / 16) + (c.toNat : Int) % 16 = (c.toNat : Int) by (first | lia | omega), Int.toNat_natCast]
      exact UInt8.ofNat_toNat
theorem rstrip_q (l : List UInt8) : rstripped (qL l) [32, 9] = qL l := by
  unfold rstripped
  cases hq : (qL l).reverse with
  | nil => rw [List.reverse_eq_nil_iff.mp hq]; rfl
  | cons d q =>
    have hl : (qL l).getLast? = some d := by
      rw [← List.head?_reverse, hq]; rfl
    obtain ⟨k1, k2, _⟩ := qL_last l d hl
    have hc : ([32, 9] : List UInt8).contains d = false := by
      rw [Bool.eq_false_iff]
      intro w
      rw [List.contains_iff_mem] at w
      rcases List.mem_cons.mp w with h | h
      · exact k1 h
      · exact k2 (List.mem_singleton.mp h)
    rw [List.dropWhile_cons, hc]
    simp only [Bool.false_eq_true, if_false]
    rw [← hq, List.reverse_reverse]
theorem last1_q (l : List UInt8) : last1 (qL l).toArray ≠ #[61] := by
  intro h
  have h2 : ((qL l).drop ((qL l).length - 1)) = [61] := by
    have := congrArg Array.toList h
    unfold last1 at this
    simpa using this
  have h3 : (qL l).getLast? = some 61 := by
    rw [List.getLast?_eq_getElem?]
    have : ((qL l).drop ((qL l).length - 1))[0]? = some 61 := by rw [h2]; rfl
    rwa [List.getElem?_drop, Nat.add_zero] at this
  exact (qL_last l 61 h3).2.2 rfl
theorem decRow_q (l e : List UInt8) : decRow (qL l, e) = (l ++ e).toArray := by
  unfold decRow
  show (if last1 (rstripped (qL l) [32, 9]).toArray = #[61] then _ else (unqL (rstripped (qL l) [32, 9])).toArray ++ e.toArray) = _
  rw [rstrip_q, if_neg (last1_q l), unq_back]
  simp
/-! whole texts -/
def encL : List (List UInt8) → List UInt8
  | [] => []
  | [y] => qL y
  | y :: z :: r => qL y ++ 13 :: 10 :: encL (z :: r)
def joinL : List (List UInt8) → List UInt8
  | [] => []
  | [y] => y
  | y :: z :: r => y ++ 13 :: 10 :: joinL (z :: r)
theorem enc_len : ∀ ys : List (List UInt8), (encL ys).length ≤ 3 * (joinL ys).length
  | [] => Nat.le_refl _
  | [y] => qL_len y
  | y :: z :: r => by
    have h1 := qL_len y
    have h2 := enc_len (z :: r)
    rw [encL, joinL]
    simp only [List.length_append, List.length_cons]
    (first | lia | omega)
theorem dec_rows : ∀ ys : List (List UInt8), ys ≠ [] → flat ((lineParts (encL ys) []).map decRow) = (joinL ys).toArray
  | [], h => absurd rfl h
  | [y], _ => by
    rw [encL, joinL, lineParts_end _ _ fun c hc => (qL_signs y c hc).1]
    show flat [decRow ([] ++ qL y, [])] = _
    rw [List.nil_append, decRow_q, flat_one, List.append_nil]
  | y :: z :: r, _ => by
    have ih := dec_rows (z :: r) (by simp)
    rw [encL, joinL]
    have e : qL y ++ 13 :: 10 :: encL (z :: r) = (qL y ++ [13]) ++ 10 :: encL (z :: r) := by simp
    rw [e, lineParts_row _ _ _ (fun c hc => ?_)]
    · have hr : rowOf ([] ++ (qL y ++ [13])) = (qL y, [13, 10]) := by
        unfold rowOf
        rw [if_pos (by simp)]
        simp
      rw [hr, List.map_cons, decRow_q]
      have hc : ∀ (x : Array UInt8) (q : List (Array UInt8)), flat (x :: q) = x ++ flat q := fun x q => by
        have := flat_append [x] q
        rw [flat_one] at this
        exact this
      rw [hc, ih]
      simp
    · rcases List.mem_append.mp hc with hc | hc
      · exact (qL_signs y c hc).1
      · rw [List.mem_singleton.mp hc]; decide
theorem splitL_ne : ∀ (l acc : List UInt8), splitL l acc ≠ []
  | c :: d :: r, acc => by
    rw [splitL]
    split
    · simp
    · exact splitL_ne (d :: r) _
  | [_], _ => by simp [splitL]
  | [], _ => by simp [splitL]
theorem join_cons (y : List UInt8) (q : List (List UInt8)) (h : q ≠ []) : joinL (y :: q) = y ++ 13 :: 10 :: joinL q := by
  cases q with
  | nil => exact absurd rfl h
  | cons z r => rfl
theorem join_split : ∀ (l acc : List UInt8), joinL (splitL l acc) = acc ++ l
  | c :: d :: r, acc => by
    rw [splitL]
    by_cases h : c = 13 ∧ d = 10
    · rw [if_pos h, join_cons _ _ (splitL_ne r []), join_split r [], h.1, h.2]
      rfl
    · rw [if_neg h, join_split (d :: r) _]
      simp
  | [c], acc => by rw [splitL]; rfl
  | [], acc => by rw [splitL]; simp [joinL]
def partsOf (b : Array UInt8) (x : Bool) : List (List UInt8) := if x = true then splitL b.toList [] else [b.toList]
theorem parts_eq (b : Array UInt8) (x : Bool) : textLines b x = (partsOf b x).map List.toArray := by
  unfold textLines partsOf
  cases x with
  | true => rw [if_pos rfl, if_pos rfl, split_eq]
  | false => rw [if_neg (by decide), if_neg (by decide)]; rfl
theorem parts_ne (b : Array UInt8) (x : Bool) : partsOf b x ≠ [] := by
  unfold partsOf
  cases x with
  | true => rw [if_pos rfl]; exact splitL_ne _ _
  | false => rw [if_neg (by decide)]; simp
theorem parts_join (b : Array UInt8) (x : Bool) : joinL (partsOf b x) = b.toList := by
  unfold partsOf
  cases x with
  | true => rw [if_pos rfl, join_split]; rfl
  | false => rw [if_neg (by decide)]; rfl
theorem flat_cons (x : Array UInt8) (q : List (Array UInt8)) : flat (x :: q) = x ++ flat q := by
  have := flat_append [x] q
  rw [flat_one] at this
  exact this
theorem enc_take : ∀ ys : List (List UInt8), ys ≠ [] → (flat ((qlines (ys.map List.toArray)).take ((qlines (ys.map List.toArray)).length - 1))).toList = encL ys
  | [], h => absurd rfl h
  | [y], _ => by
    show (flat [qline y.toArray]).toList = _
    rw [flat_one, qline_eq]
    rfl
  | y :: z :: r, _ => by
    have ih := enc_take (z :: r) (by simp)
    have hq : qlines ((y :: z :: r).map List.toArray) = qline y.toArray :: #[13, 10] :: qlines ((z :: r).map List.toArray) := rfl
    have hpos : 0 < (qlines ((z :: r).map List.toArray)).length := by rw [qlines_len]; simp
    rw [hq]
    simp only [List.length_cons]
    rw [show (qlines ((z :: r).map List.toArray)).length + 1 + 1 - 1 = ((qlines ((z :: r).map List.toArray)).length - 1) + 1 + 1 by (first | lia | omega), List.take_succ_cons, List.take_succ_cons, flat_cons, flat_cons, Array.toList_append, Array.toList_append, ih, qline_eq]
    rfl
theorem quoted_toList (b : Array UInt8) (x : Bool) : (quotedEnc b x).toList = encL (partsOf b x) := by
  unfold quotedEnc
  rw [parts_eq]
  exact enc_take _ (parts_ne b x)
theorem back_q (b : Array UInt8) (x : Bool) (_h : b.size ≤ 24) : quotedDec (quotedEnc b x) = b := by
  unfold quotedDec
  rw [quoted_toList, dec_rows _ (parts_ne b x), parts_join]
theorem qok (b : Array UInt8) (x : Bool) (h : b.size ≤ 24) : QOk b x := by
  have hbl : b.toList.length = b.size := Array.length_toList
  have hsz : ∀ y ∈ textLines b x, y.size ≤ b.size := by
    unfold textLines
    cases x with
    | true => rw [if_pos rfl]; exact split_le b
    | false =>
      rw [if_neg (by decide)]
      intro y hy
      rw [List.mem_singleton.mp hy]; exact Nat.le_refl _
  have hq : ∀ y : Array UInt8, (qline y).size ≤ 3 * y.size := by
    intro y
    have h1 : (qline y).toList.length = (qline y).size := Array.length_toList
    have h2 := qL_len y.toList
    have h3 : y.toList.length = y.size := Array.length_toList
    rw [qline_eq] at h1
    (first | lia | omega)
  have hn := split_num b
  refine ⟨fun y hy => ?_, ?_, by (first | lia | omega), fun y hy => ?_, fun y _ => ?_, ?_⟩
  · have h1 := hsz y hy
    have h2 := hq y
    (first | lia | omega)
  · unfold textLines
    cases x with
    | true => rw [if_pos rfl]; (first | lia | omega)
    | false => rw [if_neg (by decide)]; simp
  · have := split_le b y hy
    (first | lia | omega)
  · have h1 : (qL y.toList).toArray = qline y := by apply Array.ext'; rw [qline_eq]
    rw [← h1]
    exact last1_q _
  · have h1 : (quotedEnc b x).toList.length = (quotedEnc b x).size := Array.length_toList
    have h2 := enc_len (partsOf b x)
    rw [quoted_toList] at h1
    rw [parts_join] at h2
    (first | lia | omega)

end
section
theorem zk_33 : True := by
  k_with_none
  k_with "side" => (first | with_reducible assumption | (first | lia | omega) | assumption | decide | ((simp (decide := true) only [Int.fdiv_eq_ediv_of_nonneg, Int.fmod_eq_emod_of_nonneg, List.size_toArray, List.length_cons, List.length_nil] at *); (first | lia | omega)))
  k_with "c enter" => (((case ho => k_is); (case hcd => k_is); (case hlv => decide); (case hb => first | exact (fun s X => BindsTo.of_eq rfl) | exact (fun s X => binds_K X rfl (by k_is) rfl rfl rfl)); (case hl => exact locs rfl); (case hc => decide); (case h1 => exact rfl); (case h2 => exact rfl); (case h3 => exact rfl); intro mean mg mb dp un gd fr s g L h₁ tk X T hd hu F N; (try dsimp only); (try k_fold)))
  k_with "c enterI" => (((case ho => k_is); (case hcd => k_is); (case hlv => decide); (case hb => first | exact (fun s X => BindsTo.of_eq rfl) | exact (fun s X => binds_K X rfl (by k_is) rfl rfl rfl)); (case hl => exact locs rfl); (case hc => decide); (case h1 => exact rfl); (case h2 => exact rfl); (case h3 => exact rfl); intro mean mg mb dp un gd fr s g L h₁ tk hI hIL X T hd hu F N; (replace hI := hI _ (List.Mem.head _)); (replace hIL := hIL _ (List.Mem.head _)); (try dsimp only at hI hIL); (try dsimp only); (try k_fold)))
  k_with "c enterC" => (((case ho => k_is); (case hcd => k_is); (case hlv => decide); (case hb => first | exact (fun s X => BindsTo.of_eq rfl) | exact (fun s X => binds_K X rfl (by k_is) rfl rfl rfl)); (case hl => exact rfl); (case hc => decide +kernel); (case h1 => exact rfl); (case h2 => exact rfl); (case h3 => exact rfl); intro mean mg mb dp un gd fr s g L h₁ tk cells X T hd hu F N Y; k_cells Y; (try simp only [List.cons_append, List.nil_append] at N); (try dsimp only); (try k_fold)))
  k_with "c enterIC" => (((case ho => k_is); (case hcd => k_is); (case hlv => decide); (case hb => first | exact (fun s X => BindsTo.of_eq rfl) | exact (fun s X => binds_K X rfl (by k_is) rfl rfl rfl)); (case hl => exact rfl); (case hc => decide +kernel); (case h1 => exact rfl); (case h2 => exact rfl); (case h3 => exact rfl); intro mean mg mb dp un gd fr s g L h₁ tk cells hI hIL X T hd hu F N Y; (replace hI := hI _ (List.Mem.head _)); (replace hIL := hIL _ (List.Mem.head _)); (try dsimp only at hI hIL); k_cells Y; (try simp only [List.cons_append, List.nil_append] at N); (try dsimp only); (try k_fold)))
  k_with "subscriptTail" => ((k_here; (with_reducible show wpAny _ _ (subscriptTail _ (Expr.Slice _ _ none _) (Value.bytes _ _) (Value.ref _)) _ _ _); (with_reducible rename Fr _ _ _ _ => F'); (with_reducible rename News _ _ _ _ => N'); k_dflt (first
      | ((with_reducible show wpAny _ _ (subscriptTail _ (Expr.Slice (some (Expr.UnaryOp _ _ _)) none none _) _ _) _ _ _); refine' slice_last (s := ⟨_, _, _, _, _⟩) F' N' ?qzz ?qze ?_; (case qze => first | rfl | decide); (case qzz => walk_at "side"); k_whole)
      | ((with_reducible show wpAny _ _ (subscriptTail _ (Expr.Slice (some _) (some _) none _) _ _) _ _ _); refine' slice_ss (s := ⟨_, _, _, _, _⟩) F' N' ?qza ?qzb ?qzz ?_; (case qza => walk_at "side"); (case qzb => walk_at "side"); (case qzz => walk_at "side"))
      | ((with_reducible show wpAny _ _ (subscriptTail _ (Expr.Slice (some _) none none _) _ _) _ _ _); refine' slice_sn (s := ⟨_, _, _, _, _⟩) F' N' ?qza ?qzz ?_; (case qza => walk_at "side"); (case qzz => walk_at "side"))
      | ((with_reducible show wpAny _ _ (subscriptTail _ (Expr.Slice none (some _) none _) _ _) _ _ _); refine' slice_ns (s := ⟨_, _, _, _, _⟩) F' N' ?qza ?qzz ?_; (case qza => walk_at "side"); (case qzz => walk_at "side"))); intro _ _ _ hcut F' N'))
  k_with "subscriptTail" => ((k_here; (with_reducible show wpAny _ _ (subscriptTail _ _ (Value.bytes _ _) (Value.int _ _)) _ _ _); k_dflt (refine' item_M ?qzz ?qza ?qzb ?_; (case qzz => walk_at "side"); (case qza => walk_at "side"); (case qzb => walk_at "side")); intro _ _ hlo hhi))
  k_with "getMethod bytes" => ((k_here; first | (with_reducible refine meth_join ?_) | (with_reducible refine meth_find ?_) | (with_reducible refine meth_split ?_) | (with_reducible refine meth_rstrip ?_)))
  k_with "call builtin:bytes.find" => ((k_here; k_dflt first | (refine' find4 ?qza ?qzb ?_; (case qza => walk_at "side"); (case qzb => walk_at "side"); intro _ _) | (refine' find3 ?qza ?_; (case qza => walk_at "side"); intro _ _)))
  k_with "call builtin:bytes.rstrip" => ((k_here; (try dsimp only [List.cons_append, List.nil_append]); k_dflt (refine' rstrip2 ?qza ?_; (case qza => walk_at "side")); intro r' t' k' hr' hrs'))
  k_with "exec For Name Name cons nil" => ((k_here; (rename Fr _ _ _ _ => lF'); (with_unfolding_all refine' For_invVF lF' ?qzk1 ?qzk2 ?_; (case qzk1 => exact rfl); (case qzk2 => exact rfl); k_whole)))
  k_with "exec For Name Call cons nil" => ((k_here; (rename Fr _ _ _ _ => lF'); (with_unfolding_all refine' For_invVF lF' ?qzk1 ?qzk2 ?_; (case qzk1 => exact rfl); (case qzk2 => exact rfl); k_whole)))
  k_with "pyIter bytes" => (((with_reducible show wpAny _ _ (pyIter (Value.bytes _ _)) (fun it s₂ => LoopAtV _ _ _ _ _ _ _ _ _ it s₂) _ _); refine park ?_))
  k_with "pyIter ref" => (((with_reducible show wpAny _ _ (pyIter (Value.ref _)) (fun it s₂ => LoopAtV _ _ _ _ _ _ _ _ _ it s₂) _ _); refine park ?_))
  k_with "exec While Compare cons nil" => ((k_here; refine park ?_))
  k_with "exec While Constant cons nil" => ((k_here; refine park ?_))
  k_with "ints" => (first | assumption | (repeat' (first | exact IntsAre.nil | refine IntsAre.cons _ _ ?_)))
  k_with "in256" => (first | assumption | exact in_nil | (refine in_cons ?qzia ?qzib ?qzic; (case qzia => walk_at "side"); (case qzib => walk_at "side"); (case qzic => walk_at "in256")))
  k_with "call type:bytes" => ((k_here; (with_reducible show wpAny _ _ (call (Value.type "bytes") [Value.ref _]) _ _ _); k_dflt (refine' KBa.make_K ?qzkbaF ?qzkbaN ?qzkbah ?qzkbal ?qzkbai ?qzkbar ?qzkban ?_; (case qzkbaF => k_asm); (case qzkbaN => k_asm); (case qzkbah => rfl); (case qzkbal => kba_isList); (case qzkbai => walk_at "ints"); (case qzkbar => walk_at "in256"); (case qzkban => walk_at "side")); intro _ _ _ F' N' kbaIn; (try k_sweep)))
  k_with "ps" => ((repeat' (first | exact List.forall_mem_nil _ | (refine List.forall_mem_cons.mpr ⟨by with_unfolding_all rfl, ?_⟩))))
  k_with "led" => ((repeat' (first | exact List.forall_mem_nil _ | (refine List.forall_mem_cons.mpr ⟨by k_mem, ?_⟩) | (intro p9 hp9; (repeat' (first | exact hp9 | refine List.Mem.tail _ ?_))))))
  k_with "lsize" => (first | size_fits | ((try rw [PySem.sizeLine_eq]); (simp only [List.size_toArray, Array.size_push]); (first | lia | omega)))
  k_with "call builtin:list.append" => ((k_here; (try dsimp only [List.cons_append, List.nil_append]); (with_reducible show wpAny _ _ (call (Value.builtin _) [Value.ref _, _]) _ _ _); k_dflt (refine' append_K ?qzk1 ?qzk2 ?qzk3 ?_ ?qzz; (case qzk1 => k_asm); (case qzk2 => k_asm); (case qzk3 => k_upd); (case qzz => walk_at "lsize"); k_whole); intro h' F' N'; (try k_sweep)))
  k_with "offI" => ((repeat' (first | exact List.forall_mem_nil _ | assumption | (refine List.forall_mem_cons.mpr ⟨by (refine neN ?_; (try dsimp only); (first | lia | omega)), ?_⟩))))
  k_with "bl get" => (first | (apply Fr.keep (by k_asm); assumption) | exact News.get (by k_asm) (by k_mem))
  k_with "subscriptTail" => ((k_here; (with_reducible show wpAny _ _ (subscriptTail _ _ (Value.ref _) (Value.int _ _)) _ _ _); k_dflt (refine' item_bl ?qzhl ?qzhv ?qza ?qzb ?qzz ?_; (case qzhv => with_reducible assumption); (case qzhl => walk_at "bl get"); (case qza => walk_at "side"); (case qzb => walk_at "side"); (case qzz => walk_at "side")); intro _ _))
  k_with "call builtin:len" => ((k_here; (with_reducible show wpAny _ _ (call (Value.builtin "len") [Value.ref _]) _ _ _); k_dflt (first | (refine' len_base ?qzhl ?qzF ?qzz ?_; (case qzhl => assumption); (case qzF => k_asm); (case qzz => walk_at "side")) | (refine' len_led ?qzN ?qzhm ?qzz ?_; (case qzN => k_asm); (case qzhm => k_mem); (case qzz => walk_at "side"))); intro _ _))
  k_with "binaryOp Add bytes bytes" => ((k_here; (with_reducible show wpAny _ _ (binaryOp Operator.Add (Value.bytes _ _) (Value.bytes _ _)) _ _ _); k_dflt (refine' KBy.add_bytes ?qzz ?_; (case qzz => walk_at "side")); intro _ _))
  k_with "call builtin:bytes.join" => ((k_here; (try dsimp only [List.cons_append, List.nil_append]); k_dflt (refine' join0 ?qzhl ?qzhv ?qzz ?_; (case qzhl => walk_at "bl get"); (case qzhv => walk_at "bytes are"); (case qzz => walk_at "side")); intro _ _))
  k_with "bytes are" => (first | with_reducible assumption | assumption | (repeat' (first | exact BytesAre.nil | refine BytesAre.cons ?_)))
  k_with "call builtin:bytes.split" => ((k_here; (try dsimp only [List.cons_append, List.nil_append]); k_dflt (refine' split1 ?qzF ?qzN ?qzc ?qza ?qzb ?_; (case qzF => k_asm); (case qzN => k_asm); (case qzc => rfl); (case qza => walk_at "side"); (case qzb => walk_at "side")); intro l' vs' h' k' hvs' F' N' hne'; (replace hne' := allNe_of9 hne'); (simp only [NeAll, and_true] at hne'); (try k_sweep)))
  k_with "call builtin:list.extend" => ((k_here; (with_reducible show wpAny _ _ (call (Value.builtin _) [Value.ref _, Value.ref _]) _ _ _); k_dflt (refine' ext_M ?qzF ?qzN ?qza ?qzb ?qzne ?qzU ?qzz ?_; (case qzF => k_asm); (case qzN => k_asm); (case qzb => k_mem); (case qzU => k_upd); (case qzne => walk_at "side"); (case qzz => walk_at "side"); (case qza => trivial)); intro h' F' N'; (try k_sweep)))
  k_with "subscriptTail Name Slice ref ref" => ((k_here; (with_reducible show wpAny _ _ (subscriptTail _ (PySem.Expr.Slice _ _ none _) (Value.ref _) (Value.ref _)) _ _ _); k_dflt (first
      | (refine' lslice_run (s := ⟨_, _, _, _, _⟩) ?qzF ?qzN ?qzhm ?qzhx ?qzhy ?qzhz ?_ ?qzhs ?qzht; (case qzF => k_asm); (case qzN => k_asm); (case qzhm => k_mem); (case qzhx => walk_at "side"); (case qzhy => walk_at "side"); (case qzhz => walk_at "side"); (case qzhs => with_unfolding_all rfl); (case qzht => kmk_pure))
      | (refine' lslice_to (s := ⟨_, _, _, _, _⟩) ?qzF ?qzN ?qzhm ?qzhy ?qzhz ?_ ?qzhs ?qzht; (case qzF => k_asm); (case qzN => k_asm); (case qzhm => k_mem); (case qzhy => walk_at "side"); (case qzhz => walk_at "side"); (case qzhs => with_unfolding_all rfl); (case qzht => kmk_pure))); intro D' h' F' N' l1; (try k_lt l1); (try k_sweep)))
  k_with "binaryOp LShift int int" => ((k_here; (with_reducible show wpAny _ _ (binaryOp Operator.LShift (Value.int _ _) (Value.int _ _)) _ _ _); k_dflt (refine' lshift_int_small ?qza ?qzb ?qzc ?_; (case qza => walk_at "side"); (case qzb => walk_at "side"); (case qzc => walk_at "side"))))
  k_with "binaryOp RShift int int" => ((k_here; (with_reducible show wpAny _ _ (binaryOp Operator.RShift (Value.int _ _) (Value.int _ _)) _ _ _); k_dflt (refine' rshift_int ?qza ?_; (case qza => walk_at "side"))))
  k_with "binaryOp BitAnd int int" => ((k_here; (with_reducible show wpAny _ _ (binaryOp Operator.BitAnd (Value.int _ _) (Value.int _ _)) _ _ _); k_dflt (first | (with_reducible refine and_63 ?_; intro _ _ hlo hhi) | (with_reducible refine and_255 ?_; intro _ _ hlo hhi) | (refine and_gen ?_; intro _ _ _))))
  k_with "comp range" => ((k_here; (with_reducible show wpAny _ _ (eval (PySem.Expr.ListComp _ [⟨PySem.Expr.Name _ _, _, [], _⟩] _ _) _) _ _ _); k_dflt (refine ListComp_RS (by k_asm) (by with_unfolding_all rfl) (by decide) (by rfl) (by decide) (by rfl) ?_)))
  k_with "eval ListComp" => (walk_at "comp range")
  k_with "RangeSrc" => ((refine park ?_))
  trivial
def MEnd (h₀ : Heap) (L : Addr) (oL : Obj) (m : Str → Option Value) (Q : Value → Shared → Prop) (s₀ : Shared) (fl : Flow) (s' : Shared) : Prop :=
  ∃ h' tk' L' m' news', s' = { s₀ with heap := h', toks := tk' } ∧ Fr h₀ L' h' m' ∧ News h₀ L' h' ((L, oL) :: news') ∧ (∀ p ∈ news', p.1 ≠ L) ∧ (Fr h₀ L h' m → News h₀ L h' news' → Q (match fl with | .ret v => v | _ => .none) { s₀ with heap := h', toks := tk' })
theorem MEnd.intro {h₀ : Heap} {L : Addr} {oL : Obj} {m : Str → Option Value} {Q : Value → Shared → Prop} {s₀ : Shared} {v : Value} {h' : Heap} {tk' : Nat} {L' : Addr} {m' : Str → Option Value} {news' : List (Addr × Obj)}
    (F : Fr h₀ L' h' m') (N : News h₀ L' h' ((L, oL) :: news')) (hne : ∀ p ∈ news', p.1 ≠ L) (h : Fr h₀ L h' m → News h₀ L h' news' → Q v { s₀ with heap := h', toks := tk' }) : MEnd h₀ L oL m Q s₀ (.ret v) { s₀ with heap := h', toks := tk' } :=
  ⟨h', tk', L', m', news', rfl, F, N, hne, h⟩
theorem ctrm_enter {w : World} {f : Addr} {args : List Value}
    {name qual : Str} {params : Arguments} {body : List Stmt} {scope : Scope} {dV kV doc pm cdv ct oc : Value} {an od : Option Addr} {osl : Array (Option Value)} {binds : List (Str × Value)}
    {mean : ExcName → Option Value} {mg mb : Str → Option Value} {dp un : Nat} {gd : Option (List Code)} {fr : List Env} {h₀ : Heap} {L : Addr} {m : Str → Option Value} {news : List (Addr × Obj)} {s : Shared} {Q E : Value → Shared → Prop}
    (ho : (hd.heap_1 w.params).lookup f = some ⟨oc, od, .func (fnOf name qual params body scope dV kV doc pm an cdv ct), osl⟩)
    (hcd : codeIn (hd.heap_1 w.params) cdv qual = true)
    (hbind : ∀ s : Shared, (hd.heap_1 w.params).In s.heap → BindsTo s (fnOf name qual params body scope dV kV doc pm an cdv ct) ⟨args, []⟩ binds)
    (hloc : ∀ y ∈ binds, scope.names.lookup y.1 = some .local)
    (hcell : ∀ x ∈ scope.names, x.2 ≠ .cell)
    (hk : scope.kind = .function) (hco : scope.isCoroutine = false) (hgen : scope.isGenerator = false)
    (X : (hd.heap_1 w.params).In h₀) (T : Top PP LO mean mg mb h₀) (F : Fr h₀ L s.heap m) (N : News h₀ L s.heap news)
    (hd : dp + 1 < recursionLimit) (hu : un + 8 < cLine)
    (h : ∀ (oL : Obj) (L' : Addr) (h₁ : Heap) (tk : Nat), (∀ p ∈ (L, oL) :: news, p.1 < L') → Fr h₀ L' h₁ (fun y => binds.reverse.lookup y) → News h₀ L' h₁ ((L, oL) :: news) →
      wpAny (model PG w) (mkA (dp + 1) (un + 3) gd (envOf qual scope L' f cdv :: fr)) (execs body (envOf qual scope L' f cdv)) (MEnd h₀ L oL m Q s) (fun _ _ => False) { s with heap := h₁, toks := tk }) :
    wpAny (model PG w) (mkA dp un gd fr) (call (.ref f) args) Q E s := by
  have Xs := X.keeps F.keep
  have Ts := T.keeps F.keep
  have _ := hu
  obtain ⟨oL, es, ep, hL, hLr⟩ := F.ns
  refine wpAny_call (codeAny_call_def (fd := fnOf name qual params body scope dV kV doc pm an cdv ct) (body := body) (binds := binds) (by show dp < _; (first | lia | omega)) (Xs _ _ ho) rfl Ts.nolimit (codeRec_of Xs hcd) rfl (hbind s Xs) hcell hloc (fun h₁ hns hk₁ => ?_) hco hgen hk)
  have hlt : h₀.objs.size ≤ s.heap.objs.size := Nat.le_trans F.above (Nat.le_of_lt (Heap.lt_size hL))
  have F1 : Fr h₀ s.heap.objs.size h₁ (fun y => binds.reverse.lookup y) := ⟨hns, fun b o e => hk₁ b o (F.keep b o e), hlt⟩
  have hL0 : h₀.get? L = none := by
    cases e : h₀.get? L with
    | none => rfl
    | some o => exact absurd (Heap.lt_size e) (Nat.not_lt.mpr F.above)
  refine wpAny_mono (h oL s.heap.objs.size h₁ (s.toks + binds.length) (fun p hp => ?_) F1 (fun p hp => ?_)) (fun fl s' e => ?_) fun _ _ e => e.elim
  · rcases List.mem_cons.mp hp with rfl | hp
    · exact Heap.lt_size hL
    · exact Heap.lt_size (N p hp).1
  · rcases List.mem_cons.mp hp with rfl | hp
    · exact ⟨hk₁ _ _ hL, Nat.ne_of_lt (Heap.lt_size hL), hL0⟩
    · exact ⟨hk₁ _ _ (N p hp).1, Nat.ne_of_lt (Heap.lt_size (N p hp).1), (N p hp).2.2⟩
  · obtain ⟨h', tk', L', m', news', rfl, F2, N2, hne, hq⟩ := e
    exact hq ⟨⟨oL, es, ep, (N2 _ (.head _)).1, hLr⟩, F2.keep, F.above⟩ fun p hp => ⟨(N2 p (.tail _ hp)).1, hne p hp, (N2 p (.tail _ hp)).2.2⟩
theorem zk_34 : True := by
  k_with "c enterM" => (((case ho => k_is); (case hcd => k_is); (case hb => first | exact (fun s X => BindsTo.of_eq rfl) | exact (fun s X => binds_K X rfl (by k_is) rfl rfl rfl)); (case hl => exact locs rfl); (case hc => decide); (case h1 => exact rfl); (case h2 => exact rfl); (case h3 => exact rfl)))
  trivial
set_option maxHeartbeats 4000000 in
theorem draw_use {w : World} {tp cl : Addr} {n n2 : Nat} {vs : List Value} {ns : List Int} {i lim : Int} {t tl : Tok} {rest : List (Addr × Obj)}
    {mean : ExcName → Option Value} {mg mb : Str → Option Value} {dp un : Nat} {gd : Option (List Code)} {fr : List Env} {h₀ : Heap} {L : Addr} {m : Str → Option Value} {all : List (Addr × Obj)} {s : Shared} {Q E : Value → Shared → Prop}
    (X : (hd.heap_1 w.params).In h₀) (T : Top PP LO mean mg mb h₀) (F : Fr h₀ L s.heap m) (N : News h₀ L s.heap all) (hs : ∀ p ∈ (tp, listOf #[.ref cl, .int i t] n) :: (cl, listOf vs.toArray n2) :: rest, p ∈ all)
    (hne : @Ne Nat cl tp ∧ (∀ p ∈ rest, p.1 ≠ tp))
    (hd : dp + 1 < recursionLimit) (hu : un + 8 < cLine) (hv : IntsAre vs ns) (h0 : 0 < ns.length) (h30 : ns.length ≤ 30) (hi : 0 ≤ i ∧ i ≤ 100) (hlim : 0 < lim ∧ lim ≤ 100)
    (h : ∀ d td h' tk' t2, 0 ≤ d → d < lim → Fr h₀ L h' m → News h₀ L h' ((tp, listOf #[.ref cl, .int (i + 1) t2] n) :: (cl, listOf vs.toArray n2) :: rest) → Q (.int d td) { s with heap := h', toks := tk' }) :
    wpAny (model PG w) (mkA dp un gd fr) (call (.ref 230) [.ref tp, .int lim tl]) Q E s := by
  have N1 : News h₀ L s.heap ((tp, listOf #[.ref cl, .int i t] n) :: (cl, listOf vs.toArray n2) :: rest) := fun p hp => N p (hs p hp)
  refine' ctrm_enter (binds := [(Str.ofString "tape", .ref tp), (Str.ofString "limit", .int lim tl)]) ?ho ?hcd ?hb ?hl ?hc ?h1 ?h2 ?h3 X T F N1 hd hu ?_
  walk_at "c enterM"
  have hLt : @Ne Nat L tp := Ne.symm (N1 _ (.head _)).2.1
  have hta : ∀ p ∈ (cl, listOf vs.toArray n2) :: rest, p.1 ≠ tp := List.forall_mem_cons.mpr hne
  have hLa : ∀ p ∈ (tp, listOf #[.ref cl, .int i t] n) :: (cl, listOf vs.toArray n2) :: rest, p.1 ≠ L := fun p hp => (N1 p hp).2.1
  intro oL L' h₁ tk hlt F N
  try dsimp only
  try k_fold
  k_steps
  refine MEnd.intro (by k_asm) (by k_asm) ?_ fun F2 N2 => h _ _ _ _ _ ?_ ?_ F2 N2
  · exact List.forall_mem_cons.mpr ⟨Ne.symm hLt, fun p hp => hLa p (.tail _ hp)⟩
  · rw [Int.fmod_eq_emod_of_nonneg _ (by (first | lia | omega))]; exact Int.emod_nonneg _ (by (first | lia | omega))
  · rw [Int.fmod_eq_emod_of_nonneg _ (by (first | lia | omega))]; exact Int.emod_lt_of_pos _ hlim.1

end
section
section
variable (w : World) (b : Array UInt8) (tb tw : Tok) (x : Bool)
theorem c9_seven (hb : b.size ≤ 2000) : Ctr w 10 208 [.bytes b tb] (PBool (lawPlain b)) := seven_plain b ▸ c_seven w b tb hb
theorem c9_plain (hb : b.size ≤ 2000) : Ctr w 10 235 [.bytes b tb] (PBool (lawPlain b)) :=
  c_plainlaw w b tb (fun y hy => Nat.le_trans (split_le b y hy) hb) (by have := split_num b; (first | lia | omega)) (fun y hy => by have := split_le b y hy; (first | lia | omega))
theorem c9_quoted (hb : b.size ≤ 24) : Ctr w 3 168 [.bytes b tb, .bool x] (PBytes (quotedEnc b x)) := c_quoted9 w b tb x hb (qok b x hb)
theorem c9_ch7 (hb : b.size ≤ 24) (hp : lawPlain b = true) : Ctr w 12 215 [.bytes b tb, .bool x] (PStr (Str.ofString "7bit")) := by
  have h := c_choose w b tb x hb (qok b x hb)
  rwa [← choose_7 (by rw [seven_plain]; exact hp)] at h
theorem c9_chb (hb : b.size ≤ 24) (hp : lawPlain b = false) (hl : 4 * ((b.size + 2) / 3) < (quotedEnc b x).size) : Ctr w 12 215 [.bytes b tb, .bool x] (PStr (Str.ofString "base64")) := by
  have h := c_choose w b tb x hb (qok b x hb)
  rwa [← choose_b (by rw [seven_plain]; exact hp) (by rw [one_len]; exact hl)] at h
theorem c9_chq (hb : b.size ≤ 24) (hp : lawPlain b = false) (hl : ¬ 4 * ((b.size + 2) / 3) < (quotedEnc b x).size) : Ctr w 12 215 [.bytes b tb, .bool x] (PStr (Str.ofString "quoted-printable")) := by
  have h := c_choose w b tb x hb (qok b x hb)
  rwa [← choose_q (by rw [seven_plain]; exact hp) (by rw [one_len]; exact hl)] at h
theorem c9_inb (hb : b.size ≤ 24) : Ctr w 5 222 [.str (Str.ofString "base64") tw, .bytes b tb, .bool x] (PBytes (oneOf b)) := c_in_b w b tb tw x hb
theorem c9_inq (hb : b.size ≤ 24) : Ctr w 5 222 [.str (Str.ofString "quoted-printable") tw, .bytes b tb, .bool x] (PBytes (quotedEnc b x)) := c_in_q w b tb tw x hb (qok b x hb)
theorem c9_in7 : Ctr w 5 222 [.str (Str.ofString "7bit") tw, .bytes b tb, .bool x] (PBytes b) := c_in_7 w b tb tw x
theorem c9_unb (hb : b.size ≤ 24) : Ctr w 5 203 [.str (Str.ofString "base64") tw, .bytes (oneOf b) tb] (PBytes b) := by
  have h := c_undone_b w (oneOf b) tb tw (Nat.le_trans (one_size b hb) (by decide))
  rwa [back_b b hb] at h
theorem c9_unq (hb : b.size ≤ 24) : Ctr w 5 203 [.str (Str.ofString "quoted-printable") tw, .bytes (quotedEnc b x) tb] (PBytes b) := by
  have h := c_undone_q w (quotedEnc b x) tb tw (qok b x hb).2.2.2.2.2 (by rw [back_q b x hb]; (first | lia | omega))
  rwa [back_q b x hb] at h
theorem c9_un7 : Ctr w 5 203 [.str (Str.ofString "7bit") tw, .bytes b tb] (PBytes b) := c_undone_7 w b tb tw
theorem c9_unodd : Ctr w 5 203 [.str (Str.ofString "x-odd") tw, .bytes b tb] (PBytes b) := c_undone_odd w b tb tw
end
section
variable {prog : Program} {w : World} {A : Around} {E : Value → Shared → Prop} {s : Shared} {Q : Value → Shared → Prop}
theorem ne_same9 {a : Array UInt8} {t u : Tok} (h : Q (.bool false) s) : wpAny (model prog w) A (compareOp .NotEq (.bytes a t) (.bytes a u)) Q E s := by
  refine ne_bytes ?_
  have e : (a.toList != a.toList) = false := by simp
  rw [e]; exact h
theorem ne_self9 {c : Bool} (h : Q (.bool false) s) : wpAny (model prog w) A (compareOp .NotEq (.bool c) (.bool c)) Q E s := by
  refine ne_bool ?_
  have e : (c != c) = false := by cases c <;> rfl
  rw [e]; exact h
theorem eq_self9 {c : Bool} (h : Q (.bool true) s) : wpAny (model prog w) A (compareOp .Eq (.bool c) (.bool c)) Q E s := by
  refine eq_bool ?_
  have e : (c == c) = true := by cases c <;> rfl
  rw [e]; exact h
end

end
section
section
variable {M : Model} {A : Around} {E : Value → Shared → Prop} {s : Shared} {env : Env} {h₀ : Heap} {L : Addr} {m : Str → Option Value} {led : List (Addr × Obj)} {t : Sem Value}
theorem execs_cut {Q : Flow → Shared → Prop} {R : Flow → Shared → Prop} (hR : ∀ f s', R f s' → f = .next) (n : Nat) (l : List Stmt) (h1 : wpAny M A (execs (l.take n) env) R E s) (h2 : ∀ s', R .next s' → wpAny M A (execs (l.drop n) env) Q E s') : wpAny M A (execs l env) Q E s := by
  intro Γ p hΓ
  have key : ∀ (n : Nat) (l : List Stmt) (p : Pos) (s : Shared), Sem.wp M Γ (execs (l.take n) env) (fun fl _ s' => R fl s') (fun e _ s' => E e s') p s → (∀ p s', R .next s' → Sem.wp M Γ (execs (l.drop n) env) (fun a _ s' => Q a s') (fun e _ s' => E e s') p s') → Sem.wp M Γ (execs l env) (fun a _ s' => Q a s') (fun e _ s' => E e s') p s := by
    intro n
    induction n with
    | zero => intro l p s h1 h2; exact h2 p s h1
    | succ n ih =>
      intro l p s h1 h2
      cases l with
      | nil => exact h2 p s h1
      | cons st l =>
        rw [List.take_succ_cons, execs_cons, Sem.wp_bind'] at h1
        rw [execs_cons, Sem.wp_bind']
        refine Sem.wp_mono M Γ _ (fun f p' s' h' => ?_) (fun _ _ _ h' => h') _ _ h1
        cases f with
        | next => exact ih l p' s' h' h2
        | _ => exact nomatch hR _ _ h'
  exact key n l p s (h1 Γ p hΓ) fun p s' hr => h2 s' hr Γ p hΓ
def StEnd (h₀ : Heap) (L : Addr) (ps : List (Str × Value)) (led : List (Addr × Obj)) (s : Shared) (fl : Flow) (s' : Shared) : Prop :=
  fl = .next ∧ ∃ h' tk' m' all, s' = { s with heap := h', toks := tk' } ∧ Fr h₀ L h' m' ∧ News h₀ L h' all ∧ (∀ p ∈ led, p ∈ all) ∧ ∀ p ∈ ps, m' p.1 = some p.2
theorem StEnd.intro {ps : List (Str × Value)} {all : List (Addr × Obj)} {h' : Heap} {tk' : Nat} {m' : Str → Option Value} (F : Fr h₀ L h' m') (N : News h₀ L h' all) (hs : ∀ p ∈ led, p ∈ all) (hp : ∀ p ∈ ps, m' p.1 = some p.2) : StEnd h₀ L ps led s .next { s with heap := h', toks := tk' } :=
  ⟨rfl, h', tk', m', all, rfl, F, N, hs, hp⟩
theorem stage {Q : Flow → Shared → Prop} {l : List Stmt} (ps : List (Str × Value)) (n : Nat) (F : Fr h₀ L s.heap m) (N : News h₀ L s.heap led) (hp : ∀ p ∈ ps, m p.1 = some p.2)
    (h1 : wpAny M A (execs (l.take n) env) (StEnd h₀ L ps led s) E s)
    (h2 : ∀ m' h' tk', Fr h₀ L h' (kstB m' ps) → News h₀ L h' led → wpAny M A (execs (l.drop n) env) Q E { s with heap := h', toks := tk' }) : wpAny M A (execs l env) Q E s := by
  have _ := F; have _ := N; have _ := hp
  refine execs_cut (fun f s' h => h.1) n l h1 fun s' hr => ?_
  obtain ⟨_, h', tk', m', all, rfl, F', N', hs, hp'⟩ := hr
  exact h2 m' h' tk' (fr_ps hp' F') fun p hp => N' p (hs p hp)
def ZeroR (h₀ : Heap) (L : Addr) (m : Str → Option Value) (led : List (Addr × Obj)) (s : Shared) (v : Value) (s' : Shared) : Prop :=
  ∃ t h' tk' all, v = .int 0 t ∧ s' = { s with heap := h', toks := tk' } ∧ Fr h₀ L h' m ∧ News h₀ L h' all ∧ ∀ p ∈ led, p ∈ all
theorem ZeroR.intro {x : Int} {t : Tok} {all : List (Addr × Obj)} {h' : Heap} {tk' : Nat} (e : x = 0) (F : Fr h₀ L h' m) (N : News h₀ L h' all) (hs : ∀ p ∈ led, p ∈ all) : ZeroR h₀ L m led s (.int x t) { s with heap := h', toks := tk' } :=
  ⟨t, h', tk', all, by rw [e], rfl, F, N, hs⟩
theorem zero_cut {Q : Value → Shared → Prop} (F : Fr h₀ L s.heap m) (N : News h₀ L s.heap led) (h1 : wpAny M A t (ZeroR h₀ L m led s) E s)
    (h2 : ∀ t h' tk', Fr h₀ L h' m → News h₀ L h' led → Q (.int 0 t) { s with heap := h', toks := tk' }) : wpAny M A t Q E s := by
  have _ := F; have _ := N
  refine wpAny_mono h1 (fun v s' e => ?_) fun _ _ e => e
  obtain ⟨t, h', tk', all, rfl, rfl, F', N', hs⟩ := e
  exact h2 t h' tk' F' fun p hp => N' p (hs p hp)
end

end
section
theorem zk_35 : True := by
  k_with_none
  k_with "side" => (first | with_reducible assumption | (first | lia | omega) | assumption | decide | ((simp (decide := true) only [Int.fdiv_eq_ediv_of_nonneg, Int.fmod_eq_emod_of_nonneg, List.size_toArray, List.length_cons, List.length_nil] at *); (first | lia | omega)))
  k_with "c enter" => (((case ho => k_is); (case hcd => k_is); (case hlv => decide); (case hb => first | exact (fun s X => BindsTo.of_eq rfl) | exact (fun s X => binds_K X rfl (by k_is) rfl rfl rfl)); (case hl => exact locs rfl); (case hc => decide); (case h1 => exact rfl); (case h2 => exact rfl); (case h3 => exact rfl); intro mean mg mb dp un gd fr s g L h₁ tk X T hd hu F N; (try dsimp only); (try k_fold)))
  k_with "c enterI" => (((case ho => k_is); (case hcd => k_is); (case hlv => decide); (case hb => first | exact (fun s X => BindsTo.of_eq rfl) | exact (fun s X => binds_K X rfl (by k_is) rfl rfl rfl)); (case hl => exact locs rfl); (case hc => decide); (case h1 => exact rfl); (case h2 => exact rfl); (case h3 => exact rfl); intro mean mg mb dp un gd fr s g L h₁ tk hI hIL X T hd hu F N; (replace hI := hI _ (List.Mem.head _)); (replace hIL := hIL _ (List.Mem.head _)); (try dsimp only at hI hIL); (try dsimp only); (try k_fold)))
  k_with "c enterC" => (((case ho => k_is); (case hcd => k_is); (case hlv => decide); (case hb => first | exact (fun s X => BindsTo.of_eq rfl) | exact (fun s X => binds_K X rfl (by k_is) rfl rfl rfl)); (case hl => exact rfl); (case hc => decide +kernel); (case h1 => exact rfl); (case h2 => exact rfl); (case h3 => exact rfl); intro mean mg mb dp un gd fr s g L h₁ tk cells X T hd hu F N Y; k_cells Y; (try simp only [List.cons_append, List.nil_append] at N); (try dsimp only); (try k_fold)))
  k_with "c enterIC" => (((case ho => k_is); (case hcd => k_is); (case hlv => decide); (case hb => first | exact (fun s X => BindsTo.of_eq rfl) | exact (fun s X => binds_K X rfl (by k_is) rfl rfl rfl)); (case hl => exact rfl); (case hc => decide +kernel); (case h1 => exact rfl); (case h2 => exact rfl); (case h3 => exact rfl); intro mean mg mb dp un gd fr s g L h₁ tk cells hI hIL X T hd hu F N Y; (replace hI := hI _ (List.Mem.head _)); (replace hIL := hIL _ (List.Mem.head _)); (try dsimp only at hI hIL); k_cells Y; (try simp only [List.cons_append, List.nil_append] at N); (try dsimp only); (try k_fold)))
  k_with "subscriptTail" => ((k_here; (with_reducible show wpAny _ _ (subscriptTail _ (Expr.Slice _ _ none _) (Value.bytes _ _) (Value.ref _)) _ _ _); (with_reducible rename Fr _ _ _ _ => F'); (with_reducible rename News _ _ _ _ => N'); k_dflt (first
      | ((with_reducible show wpAny _ _ (subscriptTail _ (Expr.Slice (some (Expr.UnaryOp _ _ _)) none none _) _ _) _ _ _); refine' slice_last (s := ⟨_, _, _, _, _⟩) F' N' ?qzz ?qze ?_; (case qze => first | rfl | decide); (case qzz => walk_at "side"); k_whole)
      | ((with_reducible show wpAny _ _ (subscriptTail _ (Expr.Slice (some _) (some _) none _) _ _) _ _ _); refine' slice_ss (s := ⟨_, _, _, _, _⟩) F' N' ?qza ?qzb ?qzz ?_; (case qza => walk_at "side"); (case qzb => walk_at "side"); (case qzz => walk_at "side"))
      | ((with_reducible show wpAny _ _ (subscriptTail _ (Expr.Slice (some _) none none _) _ _) _ _ _); refine' slice_sn (s := ⟨_, _, _, _, _⟩) F' N' ?qza ?qzz ?_; (case qza => walk_at "side"); (case qzz => walk_at "side"))
      | ((with_reducible show wpAny _ _ (subscriptTail _ (Expr.Slice none (some _) none _) _ _) _ _ _); refine' slice_ns (s := ⟨_, _, _, _, _⟩) F' N' ?qza ?qzz ?_; (case qza => walk_at "side"); (case qzz => walk_at "side"))); intro _ _ _ hcut F' N'))
  k_with "subscriptTail" => ((k_here; (with_reducible show wpAny _ _ (subscriptTail _ _ (Value.bytes _ _) (Value.int _ _)) _ _ _); k_dflt (refine' item_M ?qzz ?qza ?qzb ?_; (case qzz => walk_at "side"); (case qza => walk_at "side"); (case qzb => walk_at "side")); intro _ _ hlo hhi))
  k_with "getMethod bytes" => ((k_here; first | (with_reducible refine meth_join ?_) | (with_reducible refine meth_find ?_) | (with_reducible refine meth_split ?_) | (with_reducible refine meth_rstrip ?_)))
  k_with "call builtin:bytes.find" => ((k_here; k_dflt first | (refine' find4 ?qza ?qzb ?_; (case qza => walk_at "side"); (case qzb => walk_at "side"); intro _ _) | (refine' find3 ?qza ?_; (case qza => walk_at "side"); intro _ _)))
  k_with "call builtin:bytes.rstrip" => ((k_here; (try dsimp only [List.cons_append, List.nil_append]); k_dflt (refine' rstrip2 ?qza ?_; (case qza => walk_at "side")); intro r' t' k' hr' hrs'))
  k_with "exec For Name Name cons nil" => ((k_here; (rename Fr _ _ _ _ => lF'); (with_unfolding_all refine' For_invVF lF' ?qzk1 ?qzk2 ?_; (case qzk1 => exact rfl); (case qzk2 => exact rfl); k_whole)))
  k_with "exec For Name Call cons nil" => ((k_here; (rename Fr _ _ _ _ => lF'); (with_unfolding_all refine' For_invVF lF' ?qzk1 ?qzk2 ?_; (case qzk1 => exact rfl); (case qzk2 => exact rfl); k_whole)))
  k_with "pyIter bytes" => (((with_reducible show wpAny _ _ (pyIter (Value.bytes _ _)) (fun it s₂ => LoopAtV _ _ _ _ _ _ _ _ _ it s₂) _ _); refine park ?_))
  k_with "pyIter ref" => (((with_reducible show wpAny _ _ (pyIter (Value.ref _)) (fun it s₂ => LoopAtV _ _ _ _ _ _ _ _ _ it s₂) _ _); refine park ?_))
  k_with "exec While Compare cons nil" => ((k_here; refine park ?_))
  k_with "exec While Constant cons nil" => ((k_here; refine park ?_))
  k_with "ints" => (first | assumption | (repeat' (first | exact IntsAre.nil | refine IntsAre.cons _ _ ?_)))
  k_with "in256" => (first | assumption | exact in_nil | (refine in_cons ?qzia ?qzib ?qzic; (case qzia => walk_at "side"); (case qzib => walk_at "side"); (case qzic => walk_at "in256")))
  k_with "call type:bytes" => ((k_here; (with_reducible show wpAny _ _ (call (Value.type "bytes") [Value.ref _]) _ _ _); k_dflt (refine' KBa.make_K ?qzkbaF ?qzkbaN ?qzkbah ?qzkbal ?qzkbai ?qzkbar ?qzkban ?_; (case qzkbaF => k_asm); (case qzkbaN => k_asm); (case qzkbah => rfl); (case qzkbal => kba_isList); (case qzkbai => walk_at "ints"); (case qzkbar => walk_at "in256"); (case qzkban => walk_at "side")); intro _ _ _ F' N' kbaIn; (try k_sweep)))
  k_with "ps" => ((repeat' (first | exact List.forall_mem_nil _ | (refine List.forall_mem_cons.mpr ⟨by with_unfolding_all rfl, ?_⟩))))
  k_with "led" => ((repeat' (first | exact List.forall_mem_nil _ | (refine List.forall_mem_cons.mpr ⟨by k_mem, ?_⟩) | (intro p9 hp9; (repeat' (first | exact hp9 | refine List.Mem.tail _ ?_))))))
  k_with "lsize" => (first | size_fits | ((try rw [PySem.sizeLine_eq]); (simp only [List.size_toArray, Array.size_push]); (first | lia | omega)))
  k_with "call builtin:list.append" => ((k_here; (try dsimp only [List.cons_append, List.nil_append]); (with_reducible show wpAny _ _ (call (Value.builtin _) [Value.ref _, _]) _ _ _); k_dflt (refine' append_K ?qzk1 ?qzk2 ?qzk3 ?_ ?qzz; (case qzk1 => k_asm); (case qzk2 => k_asm); (case qzk3 => k_upd); (case qzz => walk_at "lsize"); k_whole); intro h' F' N'; (try k_sweep)))
  k_with "offI" => ((repeat' (first | exact List.forall_mem_nil _ | assumption | (refine List.forall_mem_cons.mpr ⟨by (refine neN ?_; (try dsimp only); (first | lia | omega)), ?_⟩))))
  k_with "bl get" => (first | (apply Fr.keep (by k_asm); assumption) | exact News.get (by k_asm) (by k_mem))
  k_with "subscriptTail" => ((k_here; (with_reducible show wpAny _ _ (subscriptTail _ _ (Value.ref _) (Value.int _ _)) _ _ _); k_dflt (refine' item_bl ?qzhl ?qzhv ?qza ?qzb ?qzz ?_; (case qzhv => with_reducible assumption); (case qzhl => walk_at "bl get"); (case qza => walk_at "side"); (case qzb => walk_at "side"); (case qzz => walk_at "side")); intro _ _))
  k_with "call builtin:len" => ((k_here; (with_reducible show wpAny _ _ (call (Value.builtin "len") [Value.ref _]) _ _ _); k_dflt (first | (refine' len_base ?qzhl ?qzF ?qzz ?_; (case qzhl => assumption); (case qzF => k_asm); (case qzz => walk_at "side")) | (refine' len_led ?qzN ?qzhm ?qzz ?_; (case qzN => k_asm); (case qzhm => k_mem); (case qzz => walk_at "side"))); intro _ _))
  k_with "binaryOp Add bytes bytes" => ((k_here; (with_reducible show wpAny _ _ (binaryOp Operator.Add (Value.bytes _ _) (Value.bytes _ _)) _ _ _); k_dflt (refine' KBy.add_bytes ?qzz ?_; (case qzz => walk_at "side")); intro _ _))
  k_with "call builtin:bytes.join" => ((k_here; (try dsimp only [List.cons_append, List.nil_append]); k_dflt (refine' join0 ?qzhl ?qzhv ?qzz ?_; (case qzhl => walk_at "bl get"); (case qzhv => walk_at "bytes are"); (case qzz => walk_at "side")); intro _ _))
  k_with "bytes are" => (first | with_reducible assumption | assumption | (repeat' (first | exact BytesAre.nil | refine BytesAre.cons ?_)))
  k_with "call builtin:bytes.split" => ((k_here; (try dsimp only [List.cons_append, List.nil_append]); k_dflt (refine' split1 ?qzF ?qzN ?qzc ?qza ?qzb ?_; (case qzF => k_asm); (case qzN => k_asm); (case qzc => rfl); (case qza => walk_at "side"); (case qzb => walk_at "side")); intro l' vs' h' k' hvs' F' N' hne'; (replace hne' := allNe_of9 hne'); (simp only [NeAll, and_true] at hne'); (try k_sweep)))
  k_with "call builtin:list.extend" => ((k_here; (with_reducible show wpAny _ _ (call (Value.builtin _) [Value.ref _, Value.ref _]) _ _ _); k_dflt (refine' ext_M ?qzF ?qzN ?qza ?qzb ?qzne ?qzU ?qzz ?_; (case qzF => k_asm); (case qzN => k_asm); (case qzb => k_mem); (case qzU => k_upd); (case qzne => walk_at "side"); (case qzz => walk_at "side"); (case qza => trivial)); intro h' F' N'; (try k_sweep)))
  k_with "subscriptTail Name Slice ref ref" => ((k_here; (with_reducible show wpAny _ _ (subscriptTail _ (PySem.Expr.Slice _ _ none _) (Value.ref _) (Value.ref _)) _ _ _); k_dflt (first
      | (refine' lslice_run (s := ⟨_, _, _, _, _⟩) ?qzF ?qzN ?qzhm ?qzhx ?qzhy ?qzhz ?_ ?qzhs ?qzht; (case qzF => k_asm); (case qzN => k_asm); (case qzhm => k_mem); (case qzhx => walk_at "side"); (case qzhy => walk_at "side"); (case qzhz => walk_at "side"); (case qzhs => with_unfolding_all rfl); (case qzht => kmk_pure))
      | (refine' lslice_to (s := ⟨_, _, _, _, _⟩) ?qzF ?qzN ?qzhm ?qzhy ?qzhz ?_ ?qzhs ?qzht; (case qzF => k_asm); (case qzN => k_asm); (case qzhm => k_mem); (case qzhy => walk_at "side"); (case qzhz => walk_at "side"); (case qzhs => with_unfolding_all rfl); (case qzht => kmk_pure))); intro D' h' F' N' l1; (try k_lt l1); (try k_sweep)))
  k_with "binaryOp LShift int int" => ((k_here; (with_reducible show wpAny _ _ (binaryOp Operator.LShift (Value.int _ _) (Value.int _ _)) _ _ _); k_dflt (refine' lshift_int_small ?qza ?qzb ?qzc ?_; (case qza => walk_at "side"); (case qzb => walk_at "side"); (case qzc => walk_at "side"))))
  k_with "binaryOp RShift int int" => ((k_here; (with_reducible show wpAny _ _ (binaryOp Operator.RShift (Value.int _ _) (Value.int _ _)) _ _ _); k_dflt (refine' rshift_int ?qza ?_; (case qza => walk_at "side"))))
  k_with "binaryOp BitAnd int int" => ((k_here; (with_reducible show wpAny _ _ (binaryOp Operator.BitAnd (Value.int _ _) (Value.int _ _)) _ _ _); k_dflt (first | (with_reducible refine and_63 ?_; intro _ _ hlo hhi) | (with_reducible refine and_255 ?_; intro _ _ hlo hhi) | (refine and_gen ?_; intro _ _ _))))
  k_with "comp range" => ((k_here; (with_reducible show wpAny _ _ (eval (PySem.Expr.ListComp _ [⟨PySem.Expr.Name _ _, _, [], _⟩] _ _) _) _ _ _); k_dflt (refine ListComp_RS (by k_asm) (by with_unfolding_all rfl) (by decide) (by rfl) (by decide) (by rfl) ?_)))
  k_with "eval ListComp" => (walk_at "comp range")
  k_with "RangeSrc" => ((refine park ?_))
  trivial
section
variable {M : Model} {A : Around} {E : Value → Shared → Prop} {s : Shared} {h₀ : Heap} {L : Addr} {m : Str → Option Value} {news : List (Addr × Obj)} {t : Sem Value} {Q : Value → Shared → Prop}
def CellsR (h₀ : Heap) (L : Addr) (m : Str → Option Value) (news : List (Addr × Obj)) (s : Shared) (v : Value) (s' : Shared) : Prop :=
  ∃ D ws n h' tk' all, ∃ ns : List Int, v = .ref D ∧ s' = { s with heap := h', toks := tk' } ∧ IntsAre ws ns ∧ 0 < ns.length ∧ ns.length ≤ 30 ∧ Fr h₀ L h' m ∧ News h₀ L h' all ∧ (∀ p ∈ (D, listOf ws.toArray n) :: news, p ∈ all) ∧ (∀ p ∈ news, p.1 ≠ D)
theorem cells_cut (F : Fr h₀ L s.heap m) (N : News h₀ L s.heap news) (h1 : wpAny M A t (CellsR h₀ L m news s) E s)
    (h2 : ∀ D ws n h' tk', ∀ ns : List Int, IntsAre ws ns → 0 < ns.length → ns.length ≤ 30 → Fr h₀ L h' m → News h₀ L h' ((D, listOf ws.toArray n) :: news) → (∀ p ∈ news, p.1 ≠ D) → Q (.ref D) { s with heap := h', toks := tk' }) : wpAny M A t Q E s := by
  have _ := F; have _ := N
  refine wpAny_mono h1 (fun v s' e => ?_) fun _ _ e => e
  obtain ⟨D, ws, n, h', tk', all, ns, rfl, rfl, hi, hp, hl, F', N', hs, hne⟩ := e
  exact h2 D ws n h' tk' ns hi hp hl F' (fun p hp => N' p (hs p hp)) hne
theorem CellsR.intro {D : Addr} {ws : List Value} {n : Nat} {h' : Heap} {tk' : Nat} {all : List (Addr × Obj)} {ns : List Int} (hi : IntsAre ws ns) (hp : 0 < ns.length) (hl : ns.length ≤ 30) (F' : Fr h₀ L h' m) (N' : News h₀ L h' all) (hs : ∀ p ∈ (D, listOf ws.toArray n) :: news, p ∈ all) (hne : ∀ p ∈ news, p.1 ≠ D) : CellsR h₀ L m news s (.ref D) { s with heap := h', toks := tk' } :=
  ⟨D, ws, n, h', tk', all, ns, rfl, rfl, hi, hp, hl, F', N', hs, hne⟩
end
theorem flat_le2 : ∀ bs : List (Array UInt8), (∀ x ∈ bs, x.size ≤ 2) → (flat bs).size ≤ 2 * bs.length
  | [], _ => Nat.le_refl _
  | x :: r, h => by
    have h1 := h x (.head _)
    have h2 := flat_le2 r fun y hy => h y (.tail _ hy)
    rw [flat_size_cons, List.length_cons]
    (first | lia | omega)
def QLe (b : Array UInt8) : Prop := ∀ x, (quotedEnc b x).size ≤ 2000
theorem QLe.le {b : Array UInt8} (h : QLe b) (x : Bool) : (quotedEnc b x).size ≤ 2000 := h x
theorem zk_36 : True := by
  k_with "call builtin:len" => ((k_here; (with_reducible show wpAny _ _ (call (Value.builtin "len") [Value.bytes _ _]) _ _ _); (refine len_bytes (by first | (first | lia | omega) | exact Nat.le_trans (QLe.le (by assumption) _) (by decide)) ?_)))
  k_with "side" => (((simp only [Array.size_append, List.size_toArray, List.length_cons, List.length_nil]); (first | lia | omega)))
  k_with "room" => (first | (first | lia | omega) | decide)
  k_with "compareOp NotEq bytes bytes" => ((with_reducible refine ne_same9 ?_))
  k_with "compareOp NotEq bool bool" => ((with_reducible refine ne_self9 ?_))
  k_with "compareOp Eq bool bool" => ((with_reducible refine eq_self9 ?_))
  k_with "call ref" => ((k_here; (with_reducible show wpAny _ _ (call (Value.ref 208) _) _ _ _); k_dflt (refine' use_bool (c9_seven _ _ _ ?qza) ?qzX ?qzT ?qzF ?qzN ?qzd ?qzu ?_; (case qza => walk_at "side"); (case qzX => k_asm); (case qzT => k_asm); (case qzF => k_asm); (case qzN => k_asm); (case qzd => walk_at "room"); (case qzu => walk_at "room"); intro h' tk' F' N'; (try k_sweep))))
  k_with "call ref" => ((k_here; (with_reducible show wpAny _ _ (call (Value.ref 235) _) _ _ _); k_dflt (refine' use_bool (c9_plain _ _ _ ?qza) ?qzX ?qzT ?qzF ?qzN ?qzd ?qzu ?_; (case qza => walk_at "side"); (case qzX => k_asm); (case qzT => k_asm); (case qzF => k_asm); (case qzN => k_asm); (case qzd => walk_at "room"); (case qzu => walk_at "room"); intro h' tk' F' N'; (try k_sweep))))
  k_with "call ref" => ((k_here; (with_reducible show wpAny _ _ (call (Value.ref 168) _) _ _ _); k_dflt (refine' use_bytes (c9_quoted _ _ _ _ ?qza) ?qzX ?qzT ?qzF ?qzN ?qzd ?qzu ?_; (case qza => walk_at "side"); (case qzX => k_asm); (case qzT => k_asm); (case qzF => k_asm); (case qzN => k_asm); (case qzd => walk_at "room"); (case qzu => walk_at "room"); intro t' h' tk' F' N'; (try k_sweep))))
  k_with "call ref" => ((k_here; (with_reducible show wpAny _ _ (call (Value.ref 215) _) _ _ _); k_dflt (refine' use_str (c9_ch7 _ _ _ _ ?qza ?qzb) ?qzX ?qzT ?qzF ?qzN ?qzd ?qzu ?_; (case qza => walk_at "side"); (case qzb => walk_at "side"); (case qzX => k_asm); (case qzT => k_asm); (case qzF => k_asm); (case qzN => k_asm); (case qzd => walk_at "room"); (case qzu => walk_at "room"); intro t' h' tk' F' N'; (try k_sweep))))
  k_with "call ref" => ((k_here; (with_reducible show wpAny _ _ (call (Value.ref 215) _) _ _ _); k_dflt (refine' use_str (c9_chb _ _ _ _ ?qza ?qzb ?qzc) ?qzX ?qzT ?qzF ?qzN ?qzd ?qzu ?_; (case qza => walk_at "side"); (case qzb => walk_at "side"); (case qzc => walk_at "side"); (case qzX => k_asm); (case qzT => k_asm); (case qzF => k_asm); (case qzN => k_asm); (case qzd => walk_at "room"); (case qzu => walk_at "room"); intro t' h' tk' F' N'; (try k_sweep))))
  k_with "call ref" => ((k_here; (with_reducible show wpAny _ _ (call (Value.ref 215) _) _ _ _); k_dflt (refine' use_str (c9_chq _ _ _ _ ?qza ?qzb ?qzc) ?qzX ?qzT ?qzF ?qzN ?qzd ?qzu ?_; (case qza => walk_at "side"); (case qzb => walk_at "side"); (case qzc => walk_at "side"); (case qzX => k_asm); (case qzT => k_asm); (case qzF => k_asm); (case qzN => k_asm); (case qzd => walk_at "room"); (case qzu => walk_at "room"); intro t' h' tk' F' N'; (try k_sweep))))
  k_with "call ref" => ((k_here; (with_reducible show wpAny _ _ (call (Value.ref 222) (Value.str (Str.ofString "base64") _ :: _)) _ _ _); k_dflt (refine' use_bytes (c9_inb _ _ _ _ _ ?qza) ?qzX ?qzT ?qzF ?qzN ?qzd ?qzu ?_; (case qza => walk_at "side"); (case qzX => k_asm); (case qzT => k_asm); (case qzF => k_asm); (case qzN => k_asm); (case qzd => walk_at "room"); (case qzu => walk_at "room"); intro t' h' tk' F' N'; (try k_sweep))))
  k_with "call ref" => ((k_here; (with_reducible show wpAny _ _ (call (Value.ref 222) (Value.str (Str.ofString "quoted-printable") _ :: _)) _ _ _); k_dflt (refine' use_bytes (c9_inq _ _ _ _ _ ?qza) ?qzX ?qzT ?qzF ?qzN ?qzd ?qzu ?_; (case qza => walk_at "side"); (case qzX => k_asm); (case qzT => k_asm); (case qzF => k_asm); (case qzN => k_asm); (case qzd => walk_at "room"); (case qzu => walk_at "room"); intro t' h' tk' F' N'; (try k_sweep))))
  k_with "call ref" => ((k_here; (with_reducible show wpAny _ _ (call (Value.ref 222) (Value.str (Str.ofString "7bit") _ :: _)) _ _ _); k_dflt (refine' use_bytes (c9_in7 _ _ _ _ _) ?qzX ?qzT ?qzF ?qzN ?qzd ?qzu ?_;  (case qzX => k_asm); (case qzT => k_asm); (case qzF => k_asm); (case qzN => k_asm); (case qzd => walk_at "room"); (case qzu => walk_at "room"); intro t' h' tk' F' N'; (try k_sweep))))
  k_with "call ref" => ((k_here; (with_reducible show wpAny _ _ (call (Value.ref 203) (Value.str (Str.ofString "base64") _ :: _)) _ _ _); k_dflt (refine' use_bytes (c9_unb _ _ _ _ ?qza) ?qzX ?qzT ?qzF ?qzN ?qzd ?qzu ?_; (case qza => walk_at "side"); (case qzX => k_asm); (case qzT => k_asm); (case qzF => k_asm); (case qzN => k_asm); (case qzd => walk_at "room"); (case qzu => walk_at "room"); intro t' h' tk' F' N'; (try k_sweep))))
  k_with "call ref" => ((k_here; (with_reducible show wpAny _ _ (call (Value.ref 203) (Value.str (Str.ofString "quoted-printable") _ :: _)) _ _ _); k_dflt (refine' use_bytes (c9_unq _ _ _ _ _ ?qza) ?qzX ?qzT ?qzF ?qzN ?qzd ?qzu ?_; (case qza => walk_at "side"); (case qzX => k_asm); (case qzT => k_asm); (case qzF => k_asm); (case qzN => k_asm); (case qzd => walk_at "room"); (case qzu => walk_at "room"); intro t' h' tk' F' N'; (try k_sweep))))
  k_with "call ref" => ((k_here; (with_reducible show wpAny _ _ (call (Value.ref 203) (Value.str (Str.ofString "7bit") _ :: _)) _ _ _); k_dflt (refine' use_bytes (c9_un7 _ _ _ _) ?qzX ?qzT ?qzF ?qzN ?qzd ?qzu ?_;  (case qzX => k_asm); (case qzT => k_asm); (case qzF => k_asm); (case qzN => k_asm); (case qzd => walk_at "room"); (case qzu => walk_at "room"); intro t' h' tk' F' N'; (try k_sweep))))
  k_with "call ref" => ((k_here; (with_reducible show wpAny _ _ (call (Value.ref 203) (Value.str (Str.ofString "x-odd") _ :: _)) _ _ _); k_dflt (refine' use_bytes (c9_unodd _ _ _ _) ?qzX ?qzT ?qzF ?qzN ?qzd ?qzu ?_;  (case qzX => k_asm); (case qzT => k_asm); (case qzF => k_asm); (case qzN => k_asm); (case qzd => walk_at "room"); (case qzu => walk_at "room"); intro t' h' tk' F' N'; (try k_sweep))))
  k_with "call ref" => ((k_here; (with_reducible show wpAny _ _ (call (Value.ref 230) [Value.ref _, Value.int _ _]) _ _ _); k_dflt (refine' draw_use ?qzX ?qzT ?qzF ?qzN (fun _ h9 => h9) ⟨?qzne1, ?qzne2⟩ ?qzd ?qzu ?qzhv ?qzh0 ?qzh30 ⟨?qzi0, ?qzi1⟩ ⟨?qzl0, ?qzl1⟩ ?_; (case qzX => k_asm); (case qzT => k_asm); (case qzF => k_asm); (case qzN => k_asm); (case qzne1 => walk_at "side"); (case qzne2 => walk_at "offI"); (case qzd => walk_at "room"); (case qzu => walk_at "room"); (case qzhv => with_reducible assumption); (case qzh0 => walk_at "side"); (case qzh30 => walk_at "side"); (case qzi0 => walk_at "side"); (case qzi1 => walk_at "side"); (case qzl0 => walk_at "side"); (case qzl1 => walk_at "side")); intro d9 td9 h' tk' t29 hd0 hd1 F' N'; (try k_sweep)))
  trivial
def rowOf9 (d : Int) : Array UInt8 := (List.replicate (990 + d).toNat [(120 : UInt8)]).flatten.toArray
theorem row_size {d : Int} (h0 : 0 ≤ d) (h1 : d < 16) : (List.replicate (990 + d).toNat [(120 : UInt8)]).flatten.toArray.size ≤ 1005 := by
  have : ∀ n : Nat, (List.replicate n [(120 : UInt8)]).flatten.length = n := by
    intro n
    induction n with
    | zero => rfl
    | succ n ih => rw [List.replicate_succ, List.flatten_cons, List.length_append, ih]; simp; (first | lia | omega)
  rw [List.size_toArray, this]
  (first | lia | omega)
def small2 : Value → Bool
  | .bytes x _ => decide (x.size ≤ 2)
  | _ => false
theorem small2_inv {v : Value} (h : small2 v = true) : ∃ x t, v = .bytes x t ∧ x.size ≤ 2 := by
  cases v with
  | bytes x t => exact ⟨x, t, rfl, of_decide_eq_true h⟩
  | _ => cases h
section
variable {prog : Program} {w : World} {A : Around} {E : Value → Shared → Prop} {s : Shared} {h₀ : Heap} {L a : Addr} {m : Str → Option Value} {n : Nat}
theorem pool_item {value slice : PySem.Expr} {l : List Value} {dd : Option Addr} {sl : Array (Option Value)} {k : Int} {u : Tok} {Q : Value → Shared → Prop} (F : Fr h₀ L s.heap m) (X₀ : (hd.heap_1 w.params).In h₀) (hl : (hd.heap_1 w.params).lookup a = some ⟨.type "tuple", dd, .seq l.toArray n, sl⟩)
    (hn : l.length = 12) (hsm : l.all small2 = true) (h0 : 0 ≤ k) (h1 : k < 12) (h : ∀ x t, x.size ≤ 2 → Q (.bytes x t) s)
    (hs : subscripted slice false (.ref a) (.int k u) = operate [.ref a, .int k u] (getItem (.ref a) (.int k u)) := by with_unfolding_all rfl) :
    wpAny (model prog w) A (subscriptTail value slice (.ref a) (.int k u)) Q E s := by
  have hlt : k.toNat < l.length := by (first | lia | omega)
  obtain ⟨x, t, hx, hz⟩ := small2_inv (List.all_eq_true.mp hsm _ (List.getElem_mem hlt))
  refine topTup_K (j := k.toNat) F X₀ hl (by (first | lia | omega)) (by (first | lia | omega)) (seqIndex_of h0 (by (first | lia | omega))) (v := .bytes x t) ?_ (h x t hz) hs
  rw [List.getElem?_eq_getElem hlt, hx]
end
theorem zk_37 : True := by
  k_with "subscriptTail" => ((k_here; (with_reducible show wpAny _ _ (subscriptTail _ (PySem.Expr.Call _ _ _ _) (Value.ref _) (Value.int _ _)) _ _ _); k_dflt (refine' pool_item ?qzF ?qzX ?qzl ?qzn ?qzsm ?qza ?qzb ?_; (case qzF => k_asm); (case qzX => k_asm); (case qzl => k_is); (case qzn => rfl); (case qzsm => decide +kernel); (case qza => walk_at "side"); (case qzb => walk_at "side")); intro x9 t9 hx9))
  trivial
def Mark9 : Prop := True
def Mark8 : Prop := True
theorem zk_38 : True := by
  k_with "binaryOp Add bytes bytes" => (((fail_if_success (rename Mark8 => hM8)); refine park ?_))
  k_with "eval IfExp" => (((with_reducible show wpAny _ _ (eval (PySem.Expr.IfExp _ (PySem.Expr.BinOp _ _ _ _) (PySem.Expr.Constant _ _ _) _) _) _ _ _); (fail_if_success (rename Mark9 => hM9)); refine park ?_))
  k_with "execs cons If" => (((with_reducible show wpAny _ _ (execs (PySem.Stmt.If (PySem.Expr.UnaryOp _ _ _) _ _ _ :: _) _) _ _ _); refine park ?_))
  k_with "eval BoolOp Or" => (((fail_if_success (rename Mark9 => hM9)); refine park ?_))
  trivial
def t_law.tw13535771758062581313 : Unit := ()
def t_law.tw6880243475000368253 : Unit := ()
def t_law.tw2976564507533559327 : Unit := ()
def t_law.tw2208982176411212128 : Unit := ()
def t_law.tw9289939650519767910 : Unit := ()
def t_law.tw12083079519871212527 : Unit := ()
def t_law.tw3682444550338788661 : Unit := ()
def t_law.tw14340316008010538080 : Unit := ()
def t_law.tw5452960074081102697 : Unit := ()
def t_law.tw8527873676034701143 : Unit := ()
def t_law.tw9103228008568187770 : Unit := ()
def t_law.tw15114669652143001280 : Unit := ()
def t_law.tw13437642539073411588 : Unit := ()
def t_law.tw15539428481889901384 : Unit := ()
def t_law.tw8597307768115702245 : Unit := ()
def t_law.tw10900157169587844069 : Unit := ()
def t_law.tw10102388472826721443 : Unit := ()
def t_law.tw12070284325708770689 : Unit := ()
def t_law.tw16528653285182803819 : Unit := ()
def t_law.tw5989669544750643340 : Unit := ()
def t_law.tw17868733846777060771 : Unit := ()
def t_law.tw8389791118367654528 : Unit := ()
def t_law.tw14496408600947292535 : Unit := ()
def t_law.tw2788345897913323602 : Unit := ()
def t_law.tw15504559775369977477 : Unit := ()
def t_law.tw110240246306166924 : Unit := ()
def t_law.tw8461517621952543280 : Unit := ()
def t_law.tw9924343125777170690 : Unit := ()
def t_law.tw17914364133280890700 : Unit := ()
def t_law.tw6425147486960190321 : Unit := ()
def t_law.tw5974123845803995747 : Unit := ()
def t_law.tw2556854512607325914 : Unit := ()
def t_law.tw12000053505418916779 : Unit := ()
def t_law.tw11549468147517419306 : Unit := ()
def t_law.tw15162581752754624550 : Unit := ()
def t_law.tw18000323129629588597 : Unit := ()
def t_law.tw5806616670706569345 : Unit := ()
def t_law.tw17696798309470888389 : Unit := ()
def t_law.tw778334888668046676 : Unit := ()
def t_law.tw8901397291622765200 : Unit := ()
def t_law.tw8047250980565464728 : Unit := ()
def t_law.tw4134724346971271481 : Unit := ()
def t_law.tw3124586200893869817 : Unit := ()
def t_law.tw17500509709404947016 : Unit := ()
def t_law.tw4047840326363024169 : Unit := ()
def t_law.tw16913861561166733303 : Unit := ()
def t_law.tw2948267429932123729 : Unit := ()
def t_law.tw4482717449698163422 : Unit := ()
def t_law.tw5765315611125054628 : Unit := ()
def t_law.tw11451714428940423016 : Unit := ()
def t_law.tw16429039675005096036 : Unit := ()
def t_law.tw7893394927323536961 : Unit := ()
def t_law.tw13153191976473412093 : Unit := ()
def t_law.tw11300661977161966008 : Unit := ()
def t_law.tw11570843113357593896 : Unit := ()
def t_law.tw13703985611984098715 : Unit := ()
def t_law.tw12821381958608169935 : Unit := ()
def t_law.tw127625020102656116 : Unit := ()
def t_law.tw14711540246406192431 : Unit := ()
def t_law.tw4941721678122609839 : Unit := ()
def t_law.tw2675056321716105859 : Unit := ()
def t_law.tw1651103416581287424 : Unit := ()
def t_law.tw1752296146318998707 : Unit := ()
def t_law.tw11593718759724329961 : Unit := ()
def t_law.tw15182518658331192166 : Unit := ()
def t_law.tw1065443983065149999 : Unit := ()
def t_law.tw15668757598192413552 : Unit := ()
def t_law.tw16567794319728324825 : Unit := ()
def t_law.tw14946920150829080867 : Unit := ()
def t_law.tw6369847092227640990 : Unit := ()
def t_law.tw2346677803827578898 : Unit := ()
def t_law.tw17580763460154148850 : Unit := ()
def t_law.tw6008568364144596070 : Unit := ()
def t_law.tw15731811074881153902 : Unit := ()
def t_law.tw1644429639640206046 : Unit := ()
def t_law.tw16490044409378558278 : Unit := ()
def t_law.tw1605881932422271494 : Unit := ()
def t_law.tw17934033967920122865 : Unit := ()
def t_law.tw11903395263543997218 : Unit := ()
def t_law.tw11296794544988379734 : Unit := ()
def t_law.tw1207824798226451694 : Unit := ()
def t_law.tw15045214375630026873 : Unit := ()
def t_law.tw8658230862802760950 : Unit := ()
def t_law.tw15023824811269150318 : Unit := ()
def t_law.tw6050046546783890091 : Unit := ()
def t_law.tw1996831775480350967 : Unit := ()
def t_law.tw1567150226933648130 : Unit := ()
def t_law.tw10145565406928965654 : Unit := ()
def t_law.tw2249056247567024015 : Unit := ()
def t_law.tw193550213246130403 : Unit := ()
def t_law.tw2788309000587773321 : Unit := ()
def t_law.tw9196784733090071903 : Unit := ()
def t_law.tw14541912454843994593 : Unit := ()
def t_law.tw11152621728406981080 : Unit := ()
def t_law.tw2569536256167764220 : Unit := ()
def t_law.tw7293453517650344460 : Unit := ()
def t_law.tw1369275965969769553 : Unit := ()
def t_law.tw2919705118840741472 : Unit := ()
def t_law.tw1205519426507138218 : Unit := ()
def t_law.tw7440586947387943382 : Unit := ()
def t_law.tw7633573520984105504 : Unit := ()
def t_law.tw629751004534454126 : Unit := ()
def t_law.tw2653824227427618180 : Unit := ()
def t_law.tw6901662296284033590 : Unit := ()
def t_law.tw10906434426248836002 : Unit := ()
def t_law.tw10181072100616657307 : Unit := ()
def t_law.tw3697454710305183518 : Unit := ()
def t_law.tw7569730626397793117 : Unit := ()
def t_law.tw2943346974665257644 : Unit := ()
def t_law.tw9828113003719335463 : Unit := ()
def t_law.tw6662031636508448762 : Unit := ()
def t_law.tw11769699713832992331 : Unit := ()
def t_law.tw7925477656273477762 : Unit := ()
def t_law.tw6983840964092059729 : Unit := ()
def t_law.tw8402544886070393954 : Unit := ()
def t_law.tw8156929755836206337 : Unit := ()
def t_law.tw4894536952159862982 : Unit := ()
def t_law.tw14557751615566586267 : Unit := ()
def t_law.tw8272705514815577024 : Unit := ()
def t_law.tw7246458376806272887 : Unit := ()
def t_law.tw11522489435494693682 : Unit := ()
def t_law.tw1585677869376448133 : Unit := ()
def t_law.tw11712003995732183283 : Unit := ()
def t_law.tw16852353232705532561 : Unit := ()
def t_law.tw6895486303956040419 : Unit := ()
def t_law.tw14010915857952347519 : Unit := ()
def t_law.tw11481567173472603025 : Unit := ()
def t_law.tw6141745887215320476 : Unit := ()
def t_law.tw17112401632696557469 : Unit := ()
def t_law.tw131734904449502133 : Unit := ()
def t_law.tw2096542160050580374 : Unit := ()
def t_law.tw17978671585250630363 : Unit := ()
def t_law.tw17079842144258604800 : Unit := ()
def t_law.tw12156408134133799192 : Unit := ()
def t_law.tw10494759416861315863 : Unit := ()
def t_law.tw10757334960958544500 : Unit := ()
def t_law.tw14488474996356325485 : Unit := ()
def t_law.tw6872494576592734914 : Unit := ()
def t_law.tw10212899555422184595 : Unit := ()
def t_law.tw2305091200541689476 : Unit := ()
def t_law.tw8127928188347142018 : Unit := ()
def t_law.tw15068202439850461843 : Unit := ()
def t_law.tw16186817207355742488 : Unit := ()
def t_law.tw131891891219141571 : Unit := ()
def t_law.tw9320352005685911021 : Unit := ()
def t_law.tw337671154302939759 : Unit := ()
def t_law.tw3099485304459045366 : Unit := ()
def t_law.tw10699824807094258364 : Unit := ()
def t_law.tw10616939332543643298 : Unit := ()
def t_law.tw15151842235495947556 : Unit := ()
def t_law.tw6787952320323407167 : Unit := ()
def t_law.tw3109486436715316782 : Unit := ()
def t_law.tw14296201905109748428 : Unit := ()
def t_law.tw9761421142792876371 : Unit := ()
def t_law.tw10023498065445421050 : Unit := ()
def t_law.tw6923592699820382742 : Unit := ()
def t_law.tw10676819729709243786 : Unit := ()
def t_law.tw9532573731875469395 : Unit := ()
def t_law.tw2157995483944288520 : Unit := ()
def t_law.tw9196206242940468145 : Unit := ()
def t_law.tw14001400075233906278 : Unit := ()
def t_law.tw13374337775055312074 : Unit := ()
def t_law.tw3658931455698852190 : Unit := ()
def t_law.tw6978555679566152818 : Unit := ()
def t_law.tw17609304081555439127 : Unit := ()
def t_law.tw18399081939625411168 : Unit := ()
def t_law.tw8019363160068006045 : Unit := ()
def t_law.tw6038214375481304016 : Unit := ()
def t_law.tw16856309322146978761 : Unit := ()
def t_law.tw6166308506088319904 : Unit := ()
def t_law.tw7836910360607178799 : Unit := ()
def t_law.tw10780220745826718361 : Unit := ()
def t_law.tw1640631521810936263 : Unit := ()
def t_law.tw6405356875276607047 : Unit := ()
def t_law.tw15080691404821590190 : Unit := ()
def t_law.tw11572375200805572967 : Unit := ()
def t_law.tw2984131455108796196 : Unit := ()
def t_law.tw10791079186741232746 : Unit := ()
def t_law.tw17572749672461552262 : Unit := ()
def t_law.tw10056509901894527181 : Unit := ()
def t_law.tw6719954031471200968 : Unit := ()
def t_law.tw16678619714648066298 : Unit := ()
def t_law.tw11424605894147339788 : Unit := ()
def t_law.tw15974402560822171626 : Unit := ()
def t_law.tw12351143081316562416 : Unit := ()
def t_law.tw16714570660547930037 : Unit := ()
def t_law.tw15663553428836408993 : Unit := ()
def t_law.tw10769953344361915261 : Unit := ()
def t_law.tw10103145602063110799 : Unit := ()
def t_law.tw4655048200923835952 : Unit := ()
def t_law.tw15512242241849182361 : Unit := ()
def t_law.tw16160104101377474085 : Unit := ()
def t_law.tw9223807615392488536 : Unit := ()
def t_law.tw7955060627972571907 : Unit := ()
def t_law.tw692938195985112392 : Unit := ()
def t_law.tw16595394314235287037 : Unit := ()
def t_law.tw2102658231344168304 : Unit := ()
def t_law.tw10283407575048352895 : Unit := ()
def t_law.tw16607146045382823112 : Unit := ()
def t_law.tw9706891398444692004 : Unit := ()
def t_law.tw6823090200416659291 : Unit := ()
def t_law.tw6033152682342315732 : Unit := ()
def t_law.tw10169296565493005305 : Unit := ()
def t_law.tw1727954234307147876 : Unit := ()
def t_law.tw436748026246291851 : Unit := ()
def t_law.tw15420205969904056713 : Unit := ()
def t_law.tw12535620021076401282 : Unit := ()
def t_law.tw17969419188293346977 : Unit := ()
def t_law.tw16821943169339731301 : Unit := ()
def t_law.tw10249072086477484769 : Unit := ()
def t_law.tw11795966873104485512 : Unit := ()
def t_law.tw9090157862077229254 : Unit := ()
def t_law.tw3395990909003377401 : Unit := ()
def t_law.tw10827497869454623489 : Unit := ()
def t_law.tw9749743388695147529 : Unit := ()
def t_law.tw129564036458087414 : Unit := ()
def t_law.tw16600049718742885406 : Unit := ()
def t_law.tw588853662731689192 : Unit := ()
def t_law.tw475436365990320133 : Unit := ()
def t_law.tw17555500386095631065 : Unit := ()
def t_law.tw357486453476387696 : Unit := ()
def t_law.tw2508255044705368994 : Unit := ()
theorem walkO_q {q q' : Program} {lo : List Str} {vs : List (Str × WData)} {YP : World → Heap → Prop} {r : RowW} {d : DefRec} {kwd : List (Str × PySem.Expr)} {run : Value → List Value → Sem Value} (e : q = q') (h : WalkO q' lo (XL q' vs) YP r d kwd run) : WalkO q lo (XL q vs) YP r d kwd run := by subst e; exact h
set_option Elab.async true in
set_option maxHeartbeats 12000000 in
theorem t_law : PySem.Challenge.rw_no0371_01.Holds := by
  w_on; o_law
  o_head (kHook hd.heap_1 (2 :: 3 :: 15 :: 18 :: 19 :: 20 :: 23 :: 24 :: 25 :: 28 :: 29 :: 30 :: 32 :: 33 :: 35 :: 36 :: 37 :: 39 :: 40 :: 42 :: 43 :: 44 :: 47 :: 48 :: 49 :: 50 :: 52 :: 53 :: 55 :: 56 :: 57 :: 59 :: 60 :: 62 :: 63 :: 64 :: 65 :: 67 :: 68 :: 70 :: 71 :: 72 :: 79 :: 80 :: 82 :: 83 :: 85 :: 86 :: 87 :: 89 :: 90 :: 92 :: 93 :: 94 :: 95 :: 96 :: 97 :: 100 :: 107 :: 108 :: 109 :: 112 :: 114 :: 115 :: 117 :: 118 :: 119 :: 121 :: 122 :: 124 :: 125 :: 126 :: 128 :: 129 :: 131 :: 132 :: 133 :: 135 :: 136 :: 138 :: 139 :: 140 :: 142 :: 143 :: 145 :: 146 :: 147 :: 149 :: 150 :: 152 :: 153 :: 154 :: 156 :: 157 :: 159 :: 160 :: 161 :: 162 :: 164 :: 165 :: 167 :: 168 :: 169 :: 171 :: 172 :: 174 :: 175 :: 176 :: 178 :: 179 :: 181 :: 182 :: 183 :: 185 :: 186 :: 188 :: 189 :: 190 :: 192 :: 193 :: 195 :: 196 :: 197 :: 199 :: 200 :: 202 :: 203 :: 204 :: 207 :: 208 :: 209 :: 211 :: 212 :: 214 :: 215 :: 216 :: 218 :: 219 :: 221 :: 222 :: 223 :: 224 :: 226 :: 227 :: 229 :: 230 :: 231 :: 234 :: 235 :: 236 :: 239 :: 240 :: []) (fun _ => by kernel_rfl))
  (case hw => w_witness2)
  refine walkO_q (q' := hd.view_1) rfl ?_
  k_go0; (all_goals try k_fold)
  rename_i w0 s0 s1 mg0 mb0 jG jY fa0 jo jpm jdoc jho jhg jKX jX jV jGL jT jB jTE jTW jw1 jw2 jM jw3 cd0 jhcd jns0 jhs jhlay0 jhL jhr jhl2 jw4 jw5 sc0 jvs jw6 jhLs jra jw7 jr0 jhI jhr2 jhc1 jhc2 jK0 jhD jh1 jtk1 jF jw8 jright jN0 jX0
  k_steps
  unfold Park
  refine' cells_cut (by k_asm) (by k_asm) ?qyown ?qyrest
  case qyown =>
    have hM : Mark9 := trivial
    k_steps
    · refine' CellsR.intro ?qyhi ?qyhp ?qyhl ?qyF ?qyN ?qyhs ?qyhne
      case qyF => k_asm
      case qyN => k_asm
      case qyhs => walk_at "led"
      case qyhi => assumption
      case qyhp => (first | lia | omega)
      case qyhl => (first | lia | omega)
      case qyhne => walk_at "offI"
    · refine' CellsR.intro ?qyhi ?qyhp ?qyhl ?qyF ?qyN ?qyhs ?qyhne
      case qyF => k_asm
      case qyN => k_asm
      case qyhs => walk_at "led"
      case qyhi => exact .cons _ _ .nil
      case qyhp => decide
      case qyhl => decide
      case qyhne => walk_at "offI"
  case qyrest =>
    intro D ws n h00 tk00 ns hws hnp hnl F N hne
    clear jG jY jho jX jV jGL jB jTE jTW jM jhcd jhs jhlay0 jhL jhr jhl2 jra jw7 jr0 jhI jhr2 jhc1 jhc2 jK0 jhD jX0
    have hD9 := hne _ (.head _)
    dsimp only at hD9
    k_steps

    rename_i tp h1 l1 h2 oc hcel F3 N3 h4 tk4 r1 r2 r3 hrng F4 N4 hk4
    unfold Park
    refine' RangeSrc.mk' (d9.toNat) (fun i ys news => ∃ (bs : List (Array UInt8)) (t2 : Tok), BytesAre ys bs ∧ (∀ x ∈ bs, x.size ≤ 2) ∧ bs.length = i ∧ news = [(tp, W.listOf #[.ref D, .int (0 + 1 + (i : Int)) t2] 0), (D, W.listOf ws.toArray n), (s1.heap.objs.size + 1, oc)]) rfl (by assumption) (by assumption) (by assumption) ?qysmall ?qysize ?qyn ?qyj ?qyturn ?qydone
    case qysmall => exact small_one (by (first | lia | omega)) (by (first | lia | omega)) (by (first | lia | omega)) (by (first | lia | omega))
    case qysize => rw [rangeSize_pos (by decide) (by (first | lia | omega))]; (first | lia | omega)
    case qyn => (first | lia | omega)
    case qyj => exact ⟨[], t29, .nil, (fun _ h => nomatch h), rfl, rfl⟩
    case qyturn =>
      intro i k t' I oI C oC D2 m₂ ys news g h tk E' hi hk hJ hC hx F N off ne
      obtain ⟨bs, t2, hb, hbs, hbl, rfl⟩ := hJ
      have o1 : (@Ne Nat tp I) ∧ (@Ne Nat tp C) ∧ (@Ne Nat tp D2) := off _ (.head _)
      have o2 : (@Ne Nat D I) ∧ (@Ne Nat D C) ∧ (@Ne Nat D D2) := off _ (.tail _ (.head _))
      have o3 : (@Ne Nat (s1.heap.objs.size + 1) I) ∧ (@Ne Nat (s1.heap.objs.size + 1) C) ∧ (@Ne Nat (s1.heap.objs.size + 1) D2) := off _ (.tail _ (.tail _ (.head _)))
      have N2 : News _ _ _ [(tp, W.listOf #[.ref D, .int (0 + 1 + (i : Int)) t2] 0), (D, W.listOf ws.toArray n), (I, oI), (C, oC), (D2, LCg.lst ys), (s1.heap.objs.size + 1, oc)] := fun p hp => N p (by
        simp only [List.mem_cons] at hp ⊢
        rcases hp with h | h | h | h | h | h | h <;> simp [h])
      clear N
      k_steps
      refine EltEnd.intro [(tp, W.listOf #[.ref D, .int (0 + 1 + (i : Int) + 1) _] 0), (D, W.listOf ws.toArray n), (s1.heap.objs.size + 1, oc)] (by k_asm) (by k_asm) (by walk_at "led") (List.forall_mem_cons.mpr ⟨o1, List.forall_mem_cons.mpr ⟨o2, List.forall_mem_cons.mpr ⟨o3, fun _ h => nomatch h⟩⟩⟩) ?_
      refine ⟨_, _, hb.append .one, ?_, by simp [hbl], by rw [show (0 + 1 + ((i + 1 : Nat) : Int)) = 0 + 1 + (i : Int) + 1 by (first | lia | omega)]⟩
      intro x hx
      rcases List.mem_append.mp hx with hx | hx
      · exact hbs x hx
      · rw [List.mem_singleton.mp hx]; assumption
    case qydone =>
      intro D3 ys news h tk hJ F N off
      obtain ⟨bs, t2, hb, hbs, hbl, rfl⟩ := hJ
      have hz : (flat bs).size ≤ 24 := by have := flat_le2 bs hbs; (first | lia | omega)
      have hos := one_len (flat bs)
      have hql : QLe (flat bs) := fun x => (qok (flat bs) x hz).2.2.2.2.2
      have hfd : (((flat bs).size : Int) + 2).fdiv 3 = (((flat bs).size : Int) + 2) / 3 := Int.fdiv_eq_ediv_of_nonneg _ (by decide)
      have hfd2 : ¬ 0 < 4 * (((flat bs).size : Int) + 2).fdiv 3 ∨ (4 * (((flat bs).size : Int) + 2).fdiv 3 - 1).fdiv 76 = 0 := by
        rw [hfd, Int.fdiv_eq_ediv_of_nonneg _ (by decide)]
        (first | lia | omega)
      have o1 : @Ne Nat tp D3 := off _ (.head _)
      have o2 : @Ne Nat D D3 := off _ (.tail _ (.head _))
      have o3 : @Ne Nat (s1.heap.objs.size + 1) D3 := off _ (.tail _ (.tail _ (.head _)))
      have N2 : News _ _ _ [(tp, W.listOf #[.ref D, .int (0 + 1 + (d9.toNat : Int)) t2] 0), (D, W.listOf ws.toArray n), (D3, LCg.lst ys), (s1.heap.objs.size + 1, oc)] := fun p hp => N p (by
        simp only [List.mem_cons] at hp ⊢
        rcases hp with h | h | h | h | h <;> simp [h])
      clear N
      k_steps
      unfold Park
      refine' zero_cut (by k_asm) (by k_asm) ?qyz ?qyr
      case qyz =>
        have hM9 : Mark9 := trivial
        k_steps
        all_goals exact ZeroR.intro (by (first | lia | omega)) (by k_asm) (by k_asm) (fun _ h => h)
      case qyr =>
        intro t9 h9 tk9 F9 N9
        k_steps
        unfold Park
        refine' stage [(Str.ofString "octets", .bytes (flat bs) _), (Str.ofString "is_text", .bool _), (Str.ofString "size", .int _ _)] 3 (by k_asm) (by k_asm) (by walk_at "ps") ?qyst ?qyrest2
        case qyst =>
          show wpAny _ _ (execs (_ :: _ :: _ :: []) _) _ _ _
          refine wpAny_execs_cons ?_
          k_steps
          all_goals exact StEnd.intro (by k_asm) (by k_asm) (by walk_at "led") (by walk_at "ps")
        case qyrest2 =>
          intro m9 h9 tk9 F9 N9
          show wpAny _ _ (execs (_ :: _) _) _ _ _
          k_steps
          unfold Park
          have hM8 : Mark8 := trivial
          have hrs := row_size hd0 hd1
          generalize (List.replicate (990 + d9).toNat [(120 : UInt8)]).flatten.toArray = row at *
          k_steps

end
end Mine

theorem PySem.Challenge.cw_no0371_01_holds : PySem.Challenge.rw_no0371_01.Holds :=
  Mine.t_law
