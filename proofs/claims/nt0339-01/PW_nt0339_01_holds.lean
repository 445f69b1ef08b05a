import PyProof.Rows.All
import Wide.All
import OpenK.AllK
import Wide.FinOn
import PySem.Challenge.RW_nt0339_01
set_option Elab.async false
set_option maxRecDepth 100000

/-! HeadT -/
section
open PySem PySem.W PyProof.Rows
set_option maxRecDepth 100000
set_option maxHeartbeats 8000000
namespace Mine
open_top hd for PySem.Challenge.rw_nt0339_01
end Mine
end

/-! Fw -/
section
namespace Mine
open PySem PySem.W PySem.Spec PySem.Calls PyProof.Rows PyProof.V
set_option maxRecDepth 100000

abbrev Led := List (Addr × Obj)
def Hold (g h : Heap) (ps : Led) : Prop := ∀ p ∈ ps, h.get? p.1 = some p.2 ∧ g.get? p.1 = none
def Kept (g h : Heap) : Prop := ∀ b o, g.get? b = some o → h.get? b = some o

section
variable {prog : Program} {w : World} {A : Around} {s : Shared} {g : Heap} {ps : Led}
  {R : Result → Shared → Prop} {name qual : Str} {params : Arguments} {body : List Stmt} {scope : Scope} {cl : List (Str × Addr)} {dV kV doc pm cdv ct : Value} {an : Option Addr} {fo : Obj} {f : Addr} {args : Args} {binds : List (Str × Value)}
theorem enterX (hlim : s.heap.NoLimit) (hk : Kept g s.heap) (hsz : g.objs.size ≤ s.heap.objs.size) (H : Hold g s.heap ps)
    (ho : s.heap.get? f = some fo) (hd : fo.data = .func (fnX name qual params body scope cl dV kV doc pm an cdv ct)) (hcd : s.heap.CodeRec cdv qual) (hroom : A.depth < recursionLimit)
    (hbind : BindsTo s (fnX name qual params body scope cl dV kV doc pm an cdv ct) args binds) (hloc : ∀ y ∈ binds, scope.names.lookup y.1 = some .local)
    (h : ∀ L' h₁, L' = s.heap.objs.size → Fr g L' h₁ (fun y => binds.reverse.lookup y) → News g L' h₁ ps → (∀ p ∈ ps, p.1 < L') →
      wpAny (model prog w) (A.deeper (envX qual scope L' f cdv cl)) (execs body (envX qual scope L' f cdv cl))
        (fun fl s' => R (.ok (.ret (match fl with | .ret v => v | _ => .none))) s')
        (fun e s' => wpAny (model prog w) (A.deeper (envX qual scope L' f cdv cl)) (leaving (envX qual scope L' f cdv cl) e) (fun _ s'' => R (.error e) s'') (fun e' s'' => R (.error e') s'') s')
        { s with heap := h₁, toks := s.toks + binds.length })
    (hcell : ∀ x ∈ scope.names, x.2 ≠ .cell) (hco : scope.isCoroutine = false) (hgen : scope.isGenerator = false) (hkf : scope.kind = .function) : codeAny (model prog w) A (.call (.ref f) args) R s := by
  refine codeAny_call_def (fd := fnX name qual params body scope cl dV kV doc pm an cdv ct) (body := body) (binds := binds) hroom ho hd hlim hcd rfl hbind hcell hloc (fun h₁ hns hk₁ => ?_) hco hgen hkf
  exact h _ h₁ rfl ⟨hns, fun b o e => hk₁ b o (hk b o e), hsz⟩ (fun p hp => ⟨hk₁ _ _ (H p hp).1, Nat.ne_of_lt (Heap.lt_size (H p hp).1), (H p hp).2⟩) (fun p hp => Heap.lt_size (H p hp).1)

theorem enterC (hlim : s.heap.NoLimit) (hk : Kept g s.heap) (hsz : g.objs.size ≤ s.heap.objs.size) (H : Hold g s.heap ps)
    (ho : s.heap.get? f = some fo) (hd : fo.data = .func (fnX name qual params body scope [] dV kV doc pm an cdv ct)) (hcd : s.heap.CodeRec cdv qual) (hroom : A.depth < recursionLimit)
    (hbind : BindsTo s (fnX name qual params body scope [] dV kV doc pm an cdv ct) args binds)
    (hkind : (binds.all fun y => scope.names.lookup y.1 == some .local || scope.names.lookup y.1 == some .cell) = true)
    (hnd : ((cellsFrom 0 scope.names []).map (·.1)).Nodup)
    (h : ∀ L' h₁ tk cells, L' = s.heap.objs.size → Fr g L' h₁ (bindL (envOfC qual scope L' f cdv).kindOf binds fun _ => none) → News g L' h₁ (cells ++ ps) →
      CellsAre (bindC (envOfC qual scope L' f cdv).kindOf binds fun _ => none) (cellsFrom (L' + 1) scope.names []) cells → (∀ p ∈ ps, p.1 < L') →
      wpAny (model prog w) (A.deeper (envOfC qual scope L' f cdv)) (execs body (envOfC qual scope L' f cdv))
        (fun fl s' => R (.ok (.ret (match fl with | .ret v => v | _ => .none))) s')
        (fun e s' => wpAny (model prog w) (A.deeper (envOfC qual scope L' f cdv)) (leaving (envOfC qual scope L' f cdv) e) (fun _ s'' => R (.error e) s'') (fun e' s'' => R (.error e') s'') s')
        { s with heap := h₁, toks := tk })
    (hco : scope.isCoroutine = false) (hgen : scope.isGenerator = false) (hkf : scope.kind = .function) : codeAny (model prog w) A (.call (.ref f) args) R s := by
  refine codeAny_call_function hroom ho hd hco hgen rfl hcd (hbind _ _ _ _ ?_)
  refine wpAny_newFunctionEnv_cells hkf (kindsX hkind _) fun env' he s' x => ?_
  subst he
  refine ⟨hlim.keeps x.toInCall.keep, codeAny_func ?_⟩
  obtain ⟨h₁, tk, rfl, _⟩ := x.done
  have hk₁ := x.toInCall.keep
  obtain ⟨cells, NC, Y⟩ := Cl.news (h₀ := s.heap) (Nat.le_refl _) fun n c hm => ⟨x.cell n c (lookup_of_mem_nodup (cellsFrom_names scope.names 0 (s.heap.objs.size + 1) [] [] rfl ▸ hnd) hm), x.above n c hm⟩
  refine h s.heap.objs.size h₁ tk cells rfl ⟨x.toInCall.ns, fun b o e => hk₁ b o (hk b o e), hsz⟩ (fun p hp => ?_) Y (fun p hp => Heap.lt_size (H p hp).1)
  rcases List.mem_append.mp hp with hp | hp
  · refine ⟨(NC p hp).1, (NC p hp).2.1, ?_⟩
    cases q : g.get? p.1 with
    | none => rfl
    | some o => have := hk _ _ q; rw [(NC p hp).2.2] at this; cases this
  · exact ⟨hk₁ _ _ (H p hp).1, Nat.ne_of_lt (Heap.lt_size (H p hp).1), (H p hp).2⟩
end

/-- what the caller wants behind the call -/
def Ret (g : Heap) (s : Shared) (Post : Nat → Value → Led → Prop) (Q : Value → Shared → Prop) : Prop :=
  ∀ h' tk v ps', Post s.heap.objs.size v ps' → Kept g h' → Hold g h' ps' → s.heap.objs.size ≤ h'.objs.size → Q v { s with heap := h', toks := tk }
theorem fin {g : Heap} {s : Shared} {Post : Nat → Value → Led → Prop} {Q : Value → Shared → Prop} {L' : Addr} {h' : Heap} {m' : Str → Option Value} {news' ps' : Led} {v : Value} {tk : Nat}
    (ret : Ret g s Post Q) (F : Fr g L' h' m') (N : News g L' h' news') (hL : L' = s.heap.objs.size) (hs : ∀ p ∈ ps', p ∈ news') (P : Post s.heap.objs.size v ps') : Q v { s with heap := h', toks := tk } :=
  ret h' tk v ps' P F.keep (fun p hp => ⟨(N p (hs p hp)).1, (N p (hs p hp)).2.2⟩) (Nat.le_of_lt (hL ▸ F.ns.lt))

/-- the contract of a callable over a base heap g, with the ledger ps of what it may change -/
def Spec (w : World) (f : Value) (args : List Value) (dep : Nat) (need : Heap → Prop) (ps : Led) (Post : Nat → Value → Led → Prop) : Prop :=
  ∀ (dp un : Nat) (gd : Option (List Code)) (cn : Str) (cs : Scope) (L a : Addr) (ccd : Value) (cl : List (Str × Addr)) (outer : List Env) (base g : Heap) (p : Program) (loose : List Str) (mean : ExcName → Option Value) (mg mb : Str → Option Value) (s : Shared) (Q E : Value → Shared → Prop),
    cs.kind = .function → dp + dep < recursionLimit → un + 100 * dep < cLine →
    Below (ktrTop dp un gd cn cs L a ccd cl outer) base (envX cn cs L a ccd cl :: outer) g → (hd.heap_39 w.params).In g → Top p loose mean mg mb g → need g →
    Kept g s.heap → g.objs.size ≤ s.heap.objs.size → Hold g s.heap ps →
    Ret g s Post Q →
    wpAny (model PySem.Challenge.rw_nt0339_01.row.prog w) (ktrTop dp un gd cn cs L a ccd cl outer) (call f args) Q E s

theorem Spec.use {w : World} {f : Value} {args : List Value} {dep : Nat} {need : Heap → Prop} {mine : Led} {Post : Nat → Value → Led → Prop} (SP : Spec w f args dep need mine Post)
    {dp un : Nat} {gd : Option (List Code)} {cn : Str} {cs : Scope} {L a : Addr} {ccd : Value} {cl : List (Str × Addr)} {outer : List Env} {A₀ : Around} {base h₀ : Heap} {p : Program} {loose : List Str} {mean : ExcName → Option Value} {mg mb : Str → Option Value} {s : Shared} {Q E : Value → Shared → Prop}
    {m : Str → Option Value} {news : Led} (others : Led)
    (B : Below A₀ base outer h₀) (F : Fr h₀ L s.heap m) (X : (hd.heap_39 w.params).In h₀) (N : News h₀ L s.heap news) (T : Top p loose mean mg mb h₀) (hk : cs.kind = .function)
    (hm : ∀ p ∈ mine, p ∈ news) (ho : ∀ p ∈ others, p ∈ news ∧ p.1 ∉ mine.map (·.1)) (hn : ∀ g, Kept h₀ g → Kept g s.heap → (∀ b o, s.heap.get? b = some o → b ∉ mine.map (·.1) → g.get? b = some o) → need g)
    (hd : dp + dep < recursionLimit) (hu : un + 100 * dep < cLine)
    (ret : ∀ h' tk v ps', Post s.heap.objs.size v ps' → Fr h₀ L h' m → News h₀ L h' (ps' ++ others) → (∀ p ∈ news, p.1 < s.heap.objs.size) → s.heap.objs.size ≤ h'.objs.size → L < s.heap.objs.size → Q v { s with heap := h', toks := tk }) :
    wpAny (model PySem.Challenge.rw_nt0339_01.row.prog w) (ktrTop dp un gd cn cs L a ccd cl outer) (call f args) Q E s := by
  have N' : News h₀ L s.heap mine := fun p hp => N p (hm p hp)
  obtain ⟨FG, BG, st, _⟩ := groundX (A := ktrTop dp un gd cn cs L a ccd cl outer) (env := envX cn cs L a ccd cl) (R := fun _ _ => True) B F N' rfl rfl hk
  refine SP dp un gd cn cs L a ccd cl outer base _ p loose mean mg mb s Q E hk hd hu BG (X.keeps st) (T.keeps st) (hn _ st (fun b o e => of_hideAll _ e) fun b o e q => hideAll_get _ e q) (fun b o e => of_hideAll _ e) (Nat.le_of_eq (hideAll_size _ _))
    (fun q hq => ⟨(N' q hq).1, hideAll_none _ (List.mem_map_of_mem hq)⟩) fun h' tk v ps' P K H hs => ?_
  obtain ⟨oL, es, ep, hL, hLd, hLk, hLf⟩ := FG.ns
  refine ret h' tk v ps' P ⟨⟨oL, es, ep, K _ _ hL, hLd, hLk, hLf⟩, fun b o e => K b o (st b o e), F.above⟩ (fun q hq => ?_) (fun q hq => Heap.lt_size (N q hq).1) hs F.ns.lt
  rcases List.mem_append.mp hq with hq | hq
  · refine ⟨(H q hq).1, fun e => ?_, ?_⟩
    · have := (H q hq).2; rw [e, hL] at this; cases this
    · cases z : h₀.get? q.1 with
      | none => rfl
      | some o => have := (H q hq).2; rw [st _ _ z] at this; cases this
  · obtain ⟨a1, a2⟩ := ho q hq
    exact ⟨K _ _ (hideAll_get _ (N q a1).1 a2), (N q a1).2⟩

section
variable {prog : Program} {w : World} {A : Around} {s : Shared} {g : Heap} {ps : Led} {K : Frag} {p : Program} {loose : List Str} {mean : ExcName → Option Value} {mg mb : Str → Option Value}
  {R : Result → Shared → Prop} {name qual : Str} {params : Arguments} {body : List Stmt} {scope : Scope} {dV kV doc pm cdv ct oc : Value} {an od : Option Addr} {osl : Array (Option Value)} {f : Addr} {args : Args} {binds : List (Str × Value)}
theorem enterXK (X : K.In g) (T : Top p loose mean mg mb g) (hk : Kept g s.heap) (hsz : g.objs.size ≤ s.heap.objs.size) (H : Hold g s.heap ps)
    (ho : K.lookup f = some ⟨oc, od, .func (fnOf name qual params body scope dV kV doc pm an cdv ct), osl⟩) (hcd : codeIn K cdv qual = true) (hroom : A.depth < recursionLimit)
    (hbind : BindsTo s (fnOf name qual params body scope dV kV doc pm an cdv ct) args binds) (hloc : ∀ y ∈ binds, scope.names.lookup y.1 = some .local)
    (h : ∀ L' h₁, L' = s.heap.objs.size → Fr g L' h₁ (fun y => binds.reverse.lookup y) → News g L' h₁ ps → (∀ p ∈ ps, p.1 < L') →
      wpAny (model prog w) (A.deeper (envX qual scope L' f cdv [])) (execs body (envX qual scope L' f cdv []))
        (fun fl s' => R (.ok (.ret (match fl with | .ret v => v | _ => .none))) s')
        (fun e s' => wpAny (model prog w) (A.deeper (envX qual scope L' f cdv [])) (leaving (envX qual scope L' f cdv []) e) (fun _ s'' => R (.error e) s'') (fun e' s'' => R (.error e') s'') s')
        { s with heap := h₁, toks := s.toks + binds.length })
    (hcell : ∀ x ∈ scope.names, x.2 ≠ .cell) (hco : scope.isCoroutine = false) (hgen : scope.isGenerator = false) (hkf : scope.kind = .function) : codeAny (model prog w) A (.call (.ref f) args) R s :=
  enterX (T.nolimit.keeps hk) hk hsz H (hk _ _ (X _ _ ho)) rfl (codeRec_of (X.keeps hk) hcd) hroom hbind hloc h hcell hco hgen hkf
theorem enterCK (X : K.In g) (T : Top p loose mean mg mb g) (hk : Kept g s.heap) (hsz : g.objs.size ≤ s.heap.objs.size) (H : Hold g s.heap ps)
    (ho : K.lookup f = some ⟨oc, od, .func (fnOf name qual params body scope dV kV doc pm an cdv ct), osl⟩) (hcd : codeIn K cdv qual = true) (hroom : A.depth < recursionLimit)
    (hbind : BindsTo s (fnOf name qual params body scope dV kV doc pm an cdv ct) args binds)
    (hkind : (binds.all fun y => scope.names.lookup y.1 == some .local || scope.names.lookup y.1 == some .cell) = true)
    (hnd : ((cellsFrom 0 scope.names []).map (·.1)).Nodup)
    (h : ∀ L' h₁ tk cells, L' = s.heap.objs.size → Fr g L' h₁ (bindL (envOfC qual scope L' f cdv).kindOf binds fun _ => none) → News g L' h₁ (cells ++ ps) →
      CellsAre (bindC (envOfC qual scope L' f cdv).kindOf binds fun _ => none) (cellsFrom (L' + 1) scope.names []) cells → (∀ p ∈ ps, p.1 < L') →
      wpAny (model prog w) (A.deeper (envOfC qual scope L' f cdv)) (execs body (envOfC qual scope L' f cdv))
        (fun fl s' => R (.ok (.ret (match fl with | .ret v => v | _ => .none))) s')
        (fun e s' => wpAny (model prog w) (A.deeper (envOfC qual scope L' f cdv)) (leaving (envOfC qual scope L' f cdv) e) (fun _ s'' => R (.error e) s'') (fun e' s'' => R (.error e') s'') s')
        { s with heap := h₁, toks := tk })
    (hco : scope.isCoroutine = false) (hgen : scope.isGenerator = false) (hkf : scope.kind = .function) : codeAny (model prog w) A (.call (.ref f) args) R s :=
  enterC (T.nolimit.keeps hk) hk hsz H (hk _ _ (X _ _ ho)) rfl (codeRec_of (X.keeps hk) hcd) hroom hbind hkind hnd h hco hgen hkf
end

/-- None, or an int -/
def OptV (v : Value) (o : Option Int) : Prop := match o with | none => v = .none | some x => ∃ t, v = .int x t
end Mine
end

/-! Least -/
section
namespace Mine
open PySem PySem.W PySem.Spec PySem.Calls PyProof.Rows PyProof.V
set_option maxRecDepth 100000
set_option maxHeartbeats 8000000

local macro_rules | `(tactic| ktr_rel) => `(tactic| ((fail_if_success (with_reducible show wpAny _ _ (pyIter _) _ _ _)); (fail_if_success (with_reducible show wpAny _ _ (exec (Stmt.For _ _ _ _ _) _) _ _ _)); (first | (k_unfold; (try dsimp only)) | (k_end; wrow_close) | walk1 | (dsimp only; walk1) | (leave1; (try dsimp only)))))
local macro_rules | `(tactic| ktr_room) => `(tactic| ((try simp only [depth_in1, depth_deeper]); (try dsimp only [ktrTop]); omega))

theorem pin {m : Str → Option Value} {k : Str} {v : Value} (h : m k = some v) : m = fun y => if y = k then some v else m y := by
  funext y
  by_cases e : y = k
  · simp only [e, if_true]; exact h
  · simp only [if_neg e]
theorem take_fold {α β : Type} (f : α → β → α) (z : α) {ns : List β} {i : Nat} {n : β} (h : ns[i]? = some n) : (ns.take (i + 1)).foldl f z = f ((ns.take i).foldl f z) n := by
  rw [List.take_add_one, h]; simp

def leastStep (a e : Int) (f : Option Int) (p : Int) : Option Int :=
  if a ≤ p ∧ p < e ∧ (∀ q ∈ f, p < q) then some p else f
def leastF (ns : List Int) (a e : Int) : Option Int := ns.foldl (leastStep a e) none
def greatStep (a : Int) (f : Option Int) (p : Int) : Option Int :=
  if p ≤ a ∧ (∀ q ∈ f, q < p) then some p else f
def greatF (ns : List Int) (a : Int) : Option Int := ns.foldl (greatStep a) none

theorem least_spec (w : World) {l : Addr} {vs : List Value} {ns : List Int} (hi : IntsAre vs ns) (a₀ e₀ : Int) (t1 t2 : Tok) :
    Spec w (.ref 35) [.ref l, .int a₀ t1, .int e₀ t2] 2 (fun g => g.IsList l vs.toArray) [] (fun _ v ps' => ps' = [] ∧ OptV v (leastF ns a₀ e₀)) := by
  unfold Spec
  k_fill
  intro dp un gd cn cs L a ccd cl outer base g p loose mean mg mb s Q E hcs hdp hun B X T hn hk hsz H ret
  refine wpAny_call ?_
  refine' enterXK (binds := [("places", .ref l), ("at", .int a₀ t1), ("end", .int e₀ t2)]) X T hk hsz H ?k6 ?k7 ?k8 ?k9 ?kB ?_ ?c5 ?c2 ?c3 ?c4
  case k6 => k_is
  case k7 => k_is
  case k8 => (dsimp only [ktrTop]; omega)
  case k9 => exact BindsTo.of_eq rfl
  case kB => exact locs rfl
  case c5 => decide
  case c2 => exact rfl
  case c3 => exact rfl
  case c4 => exact rfl
  intro L' h₁ hL F N hlt
  repeat' ktr_rel
  refine For_invV g (by rfl) (by rfl) ?_
  repeat' ktr_rel
  rename Fr _ _ _ _ => F'
  rename News _ _ _ _ => N'
  refine iter_inv (fun i m => (∃ fv, m "found" = some fv ∧ OptV fv (leastF (ns.take i) a₀ e₀)) ∧ m "at" = some (.int a₀ t1) ∧ m "end" = some (.int e₀ t2)) rfl hn hi F' N' ?_ ?_ ?_
  · exact ⟨⟨_, rfl, rfl⟩, rfl, rfl⟩
  · rintro i n t m₁ h tk own hin ⟨⟨fv, hf, hfo⟩, h1, h2⟩ F₁ N₁
    clear F' N'
    have hs : leastF (ns.take (i + 1)) a₀ e₀ = leastStep a₀ e₀ (leastF (ns.take i) a₀ e₀) n := take_fold _ _ hin
    rw [pin hf] at F₁
    rw [pin h1] at F₁
    rw [pin h2] at F₁
    cases hx : leastF (ns.take i) a₀ e₀ with
    | none =>
      rw [hx] at hfo hs
      cases hfo
      repeat' ktr_rel
      all_goals (refine InvEnd.intro (by assumption) (by assumption) (fun _ hp => hp) ⟨⟨_, rfl, ?_⟩, rfl, rfl⟩; rw [hs])
      all_goals (first | (rw [leastStep, if_pos ⟨by assumption, by assumption, by simp⟩]; exact ⟨_, rfl⟩) | (rw [leastStep, if_neg (by omega)]; rfl))
    | some x =>
      rw [hx] at hfo hs
      obtain ⟨t', rfl⟩ := hfo
      repeat' ktr_rel
      all_goals (refine InvEnd.intro (by assumption) (by assumption) (fun _ hp => hp) ⟨⟨_, rfl, ?_⟩, rfl, rfl⟩; rw [hs])
      all_goals (first | (rw [leastStep, if_pos ⟨by assumption, by assumption, by simpa using by assumption⟩]; exact ⟨_, rfl⟩) | (rw [leastStep, if_neg (by simp; omega)]; exact ⟨_, rfl⟩))
  · rintro m₁ h tk ⟨⟨fv, hf, hfo⟩, h1, h2⟩ F₁ N₁
    clear F' N'
    rw [pin hf] at F₁
    rw [List.take_length] at hfo
    repeat' ktr_rel
    exact ret _ _ _ _ ⟨rfl, hfo⟩ F₁.keep (fun _ hp => nomatch hp) (Nat.le_of_lt (hL ▸ F₁.ns.lt))

theorem great_spec (w : World) {l : Addr} {vs : List Value} {ns : List Int} (hi : IntsAre vs ns) (a₀ : Int) (t1 : Tok) :
    Spec w (.ref 42) [.ref l, .int a₀ t1] 2 (fun g => g.IsList l vs.toArray) [] (fun _ v ps' => ps' = [] ∧ OptV v (greatF ns a₀)) := by
  unfold Spec
  k_fill
  intro dp un gd cn cs L a ccd cl outer base g p loose mean mg mb s Q E hcs hdp hun B X T hn hk hsz H ret
  refine wpAny_call ?_
  refine' enterXK (binds := [("places", .ref l), ("at", .int a₀ t1)]) X T hk hsz H ?k6 ?k7 ?k8 ?k9 ?kB ?_ ?c5 ?c2 ?c3 ?c4
  case k6 => k_is
  case k7 => k_is
  case k8 => (dsimp only [ktrTop]; omega)
  case k9 => exact BindsTo.of_eq rfl
  case kB => exact locs rfl
  case c5 => decide
  case c2 => exact rfl
  case c3 => exact rfl
  case c4 => exact rfl
  intro L' h₁ hL F N hlt
  repeat' ktr_rel
  refine For_invV g (by rfl) (by rfl) ?_
  repeat' ktr_rel
  rename Fr _ _ _ _ => F'
  rename News _ _ _ _ => N'
  refine iter_inv (fun i m => (∃ fv, m "found" = some fv ∧ OptV fv (greatF (ns.take i) a₀)) ∧ m "at" = some (.int a₀ t1)) rfl hn hi F' N' ?_ ?_ ?_
  · exact ⟨⟨_, rfl, rfl⟩, rfl⟩
  · rintro i n t m₁ h tk own hin ⟨⟨fv, hf, hfo⟩, h1⟩ F₁ N₁
    clear F' N'
    have hs : greatF (ns.take (i + 1)) a₀ = greatStep a₀ (greatF (ns.take i) a₀) n := take_fold _ _ hin
    rw [pin hf] at F₁
    rw [pin h1] at F₁
    cases hx : greatF (ns.take i) a₀ with
    | none =>
      rw [hx] at hfo hs
      cases hfo
      repeat' ktr_rel
      all_goals (refine InvEnd.intro (by assumption) (by assumption) (fun _ hp => hp) ⟨⟨_, rfl, ?_⟩, rfl⟩; rw [hs])
      all_goals (first | (rw [greatStep, if_pos ⟨by assumption, by simp⟩]; exact ⟨_, rfl⟩) | (rw [greatStep, if_neg (by omega)]; rfl))
    | some x =>
      rw [hx] at hfo hs
      obtain ⟨t', rfl⟩ := hfo
      repeat' ktr_rel
      all_goals (refine InvEnd.intro (by assumption) (by assumption) (fun _ hp => hp) ⟨⟨_, rfl, ?_⟩, rfl⟩; rw [hs])
      all_goals (first | (rw [greatStep, if_pos ⟨by assumption, by simpa using by assumption⟩]; exact ⟨_, rfl⟩) | (rw [greatStep, if_neg (by simp; omega)]; exact ⟨_, rfl⟩))
  · rintro m₁ h tk ⟨⟨fv, hf, hfo⟩, h1⟩ F₁ N₁
    clear F' N'
    rw [pin hf] at F₁
    rw [List.take_length] at hfo
    repeat' ktr_rel
    exact ret _ _ _ _ ⟨rfl, hfo⟩ F₁.keep (fun _ hp => nomatch hp) (Nat.le_of_lt (hL ▸ F₁.ns.lt))
end Mine
end

/-! Do -/
section
namespace Mine
open PySem PySem.W PySem.Spec PySem.Calls PyProof.Rows PyProof.V
set_option maxRecDepth 100000
set_option maxHeartbeats 8000000

local macro_rules | `(tactic| ktr_rel) => `(tactic| ((fail_if_success (with_reducible show wpAny _ _ (pyIter _) _ _ _)); (fail_if_success (with_reducible show wpAny _ _ (exec (Stmt.For _ _ _ _ _) _) _ _ _)); (fail_if_success (with_reducible show wpAny _ _ (call (Value.builtin "dict.pop") _) _ _ _)); (first | (k_unfold; (try dsimp only)) | (k_end; wrow_close) | walk1 | (dsimp only; walk1) | (leave1; (try dsimp only)))))
local macro_rules | `(tactic| ktr_room) => `(tactic| ((try simp only [depth_in1, depth_deeper]); (try dsimp only [ktrTop]); omega))

abbrev PRG : Program := PySem.Challenge.rw_nt0339_01.row.prog

/-- an object that is a dict of ints with the content c, in order -/
def IsTab (w : World) (o : Obj) (c : List (Int × Int)) : Prop :=
  ∃ kvs, o.IsDictOf (PySem.intKind PySem.Challenge.rw_nt0339_01.row.prog w) kvs ∧ FlatPairs PyData.int kvs (kdfD c)

theorem pop_any {prog : Program} {w : World} {A : Around} {E : Value → Shared → Prop} {s : Shared} {h₀ : Heap} {L d : Addr} {m : Str → Option Value} {news : Led} {u : Obj → Led} {o : Obj} {kvs : List (Int × Value)} {c : List (Int × Int)} {k : Int} {tk : Tok}
    {Q : Value → Shared → Prop} (F : Fr h₀ L s.heap m) (N : News h₀ L s.heap news) (hm : (d, o) ∈ news) (U : UpdF d o news u) (huo : u o = news) (lo : (d == sysModules) = false)
    (hd : o.IsDictOf (PySem.intKind prog w) kvs) (hf : FlatPairs PyData.int kvs (kdfD c)) (hc : c.length ≤ 16777216)
    (h : ∀ h' o' kvs' v, Fr h₀ L h' m → News h₀ L h' (u o') → o'.IsDictOf (PySem.intKind prog w) kvs' → FlatPairs PyData.int kvs' (kdfD (kdyDel c k)) → Q v { s with heap := h', toks := s.toks + 1 }) :
    wpAny (model prog w) A (call (.builtin "dict.pop") [.ref d, .int k tk, .none]) Q E s := by
  cases hk : kdfHas c k with
  | true => exact kdy_pop (more := [.none]) (.inr ⟨_, rfl⟩) (PySem.F.args_dict_pop_3 _ _ _) F N U hd hf hk hc fun h' o' kvs' t F' N' a b => h h' o' kvs' _ F' N' a b
  | false =>
    have e : kdyDel c k = c := by
      unfold kdyDel
      refine List.filter_eq_self.mpr fun p hp => ?_
      have := List.any_eq_false.mp hk p hp
      simpa using this
    refine kt_pop_default (knd := PySem.intKind prog w) (enc := PyData.int) (k := k) PyProof.V.same_int (intKind_is _ _ _ _) (by rfl) (TabAt.ofNews N hm lo hd hf) (PySem.F.args_dict_pop_3 _ _ _) (kdfD_none hk) ?_
    exact h s.heap o kvs .none F (huo ▸ N) hd (by rw [e]; exact hf)

def doC (c : List (Int × Int)) (x len : Int) : List (Int × Int) :=
  if x.fmod 7 < 3 then kdfPut c ((x.fdiv 7).fmod (len + 2)) (1000 + x.fmod 50) else if x.fmod 7 < 6 then kdyDel c ((x.fdiv 7).fmod (len + 2)) else c
def doB (x : Int) : Bool := decide (x.fmod 7 = 6) && decide ((x.fdiv 49).fmod 2 = 0)

theorem do_spec (w : World) {d : Addr} {o : Obj} {kvs : List (Int × Value)} {c : List (Int × Int)} (hd : o.IsDictOf (PySem.intKind PySem.Challenge.rw_nt0339_01.row.prog w) kvs) (hf : FlatPairs PyData.int kvs (kdfD c))
    (lo : (d == sysModules) = false) (hc : c.length ≤ 1000) (x len : Int) (t1 t2 : Tok) (hl0 : 4 ≤ len) (hl1 : len ≤ 12) :
    Spec w (.ref 98) [.ref d, .int x t1, .int len t2] 2 (fun _ => True) [(d, o)] (fun _ v ps' => v = .bool (doB x) ∧ ∃ o', ps' = [(d, o')] ∧ IsTab w o' (doC c x len)) := by
  unfold Spec
  k_fill
  intro dp un gd cn cs L a ccd cl outer base g p loose mean mg mb s Q E hcs hdp hun B X T hn hk hsz H ret
  refine wpAny_call ?_
  refine' enterXK (binds := [("things", .ref d), ("deed", .int x t1), ("length", .int len t2)]) X T hk hsz H ?k6 ?k7 ?k8 ?k9 ?kB ?_ ?c5 ?c2 ?c3 ?c4
  case k6 => k_is
  case k7 => k_is
  case k8 => (dsimp only [ktrTop]; omega)
  case k9 => exact BindsTo.of_eq rfl
  case kB => exact locs rfl
  case c5 => decide
  case c2 => exact rfl
  case c3 => exact rfl
  case c4 => exact rfl
  intro L' h₁ hL F N hlt
  repeat' ktr_rel
  all_goals first | (fail_if_success (with_reducible show wpAny _ _ (call (Value.builtin "dict.pop") _) _ _ _)) | (rename Fr _ _ _ _ => F'; rename News _ _ _ _ => N'; refine pop_any F' N' (by k_mem) (by k_updF) (by rfl) lo hd hf (by omega) ?_; intro h' o' kvs' v F' N' hd' hf'; try dsimp only at N')
  all_goals repeat' ktr_rel
  all_goals (refine fin (s := s) ret (ps' := [(d, _)]) (by assumption) (by assumption) hL (List.forall_mem_singleton.mpr (by k_mem)) ⟨?_, _, rfl, _, by assumption, ?_⟩)
  all_goals first
    | (exfalso; omega)
    | (show Value.bool _ = Value.bool _; unfold doB; rw [decide_eq_true (by assumption), Bool.true_and]; congr 1; done)
    | (show Value.bool _ = Value.bool _; unfold doB; rw [decide_eq_false (by assumption), Bool.false_and]; refine congrArg Value.bool ?_; exact beq_false_of_ne (by assumption))
    | (unfold doC; (repeat' split) <;> first | assumption | (exfalso; omega))
end Mine
end

/-! Each -/
section
namespace Mine
open PySem PySem.W PySem.Spec PySem.Calls PyProof.Rows PyProof.V
set_option maxRecDepth 100000
set_option maxHeartbeats 8000000

local macro_rules | `(tactic| ktr_rel) => `(tactic| ((fail_if_success (with_reducible show wpAny _ _ (pyIter _) _ _ _)); (fail_if_success (with_reducible show wpAny _ _ (exec (Stmt.For _ _ _ _ _) _) _ _ _)); (fail_if_success (with_reducible show wpAny _ _ (exec (Stmt.While _ _ _ _) _) _ _ _)); (fail_if_success (with_reducible show wpAny _ _ (callWith _ _ _ _ _) _ _ _)); (first | (k_unfold; (try dsimp only)) | (k_end; wrow_close) | walk1 | (dsimp only; walk1) | (leave1; (try dsimp only)))))
local macro_rules | `(tactic| ktr_room) => `(tactic| ((try simp only [depth_in1, depth_deeper]); (try dsimp only [ktrTop]); omega))

def Callable (f : Value) (g : Heap) : Prop := ∀ (M : Model) (h : Heap), Kept g h → ∃ k, (k = Keeper.frame ∨ k = Keeper.machine ∨ k = Keeper.boundFrame) ∧ Looks M h (keeperOf f) k

theorem callable_fn {g : Heap} {f : Addr} {o : Obj} {fd : FuncData} (h : g.get? f = some o) (hd : o.data = .func fd) : Callable (.ref f) g := by
  intro M h' K
  obtain ⟨c, d, da, sl⟩ := o
  cases hd
  exact ⟨.frame, .inl rfl, (Looks.ld (part := none) (K _ _ h)).andThen .now⟩

section
variable {M : Model} {A : Around} {E : Value → Shared → Prop} {s : Shared} {env : Env} {pos : Pos} {f : Value} {first : List Value} {Q : Value → Shared → Prop}
theorem callWith_C {g : Heap} {e : Expr} {rest : List Expr} (hc : Callable f g) (h : wpAny M A (spliced (backTo pos (starEach (e :: rest) env))) (fun vs s₁ => Kept g s₁.heap ∧ wpAny M A (call f (first ++ vs)) Q E s₁) E s)
    (he : starEach (e :: rest) env = (false, eval e env) :: starEach rest env := by rfl) (hplain : (backTo pos (starEach rest env)).any (·.1) = false := by rfl) :
    wpAny M A (callWith pos f first (backTo pos (starEach (e :: rest) env)) []) Q E s := by
  rw [he] at h ⊢
  exact callWith_of (P := Kept g) (by show ((false || (backTo pos (starEach rest env)).any (·.1)) || false) = false; rw [hplain]; rfl) (fun h K => hc M h K) (evalArgs_plain h)
end

structure Play (w : World) (σ : Type) (R : Nat → σ → Led → Prop) (need : Heap → Prop) (nf vf : Value) (d : Nat) (nx : σ → Int → Option Int) (vis : σ → Int → σ × Bool) : Prop where
  next : ∀ n x ps i t, R n x ps → Spec w nf [.int i t] d need ps (fun _ v ps' => R n x ps' ∧ OptV v (nx x i))
  visit : ∀ n x ps i j t, R (n + 1) x ps → nx x j = some i → Spec w vf [.int i t] d need ps (fun _ v ps' => R n (vis x i).1 ps' ∧ v = .bool (vis x i).2)
  can : ∀ g, need g → Callable nf g ∧ Callable vf g
  keep : ∀ g g', need g → Kept g g' → need g'

inductive Walk {σ : Type} (nx : σ → Int → Option Int) (vis : σ → Int → σ × Bool) (step : Int) : Nat → σ → Int → σ → Option Int → Prop
  | stop {x i} : nx x i = none → Walk nx vis step 0 x i x none
  | hit {x i a} : nx x i = some a → (vis x a).2 = true → Walk nx vis step 1 x i (vis x a).1 (some a)
  | go {n x i a y r} : nx x i = some a → (vis x a).2 = false → Walk nx vis step n (vis x a).1 (a + step) y r → Walk nx vis step (n + 1) x i y r

theorem each_spec (w : World) {σ : Type} {R : Nat → σ → Led → Prop} {need : Heap → Prop} {nf vf : Value} {d : Nat} {nx : σ → Int → Option Int} {vis : σ → Int → σ × Bool} (P : Play w σ R need nf vf d nx vis)
    {n : Nat} {x y : σ} {b st : Int} {r : Option Int} (W : Walk nx vis st n x b y r) {ps : Led} (hR : R n x ps) (t1 t2 : Tok) :
    Spec w (.ref 49) [nf, .int b t1, .int st t2, vf] (d + 1) need ps (fun _ v ps' => R 0 y ps' ∧ OptV v r) := by
  unfold Spec
  k_fill
  intro dp un gd cn cs L a ccd cl outer base g p loose mean mg mb s Q E hcs hdp hun B X T hn hk hsz H ret
  obtain ⟨cn1, cn2⟩ := P.can g hn
  refine wpAny_call ?_
  refine' enterXK (binds := [("next_place", nf), ("begin", .int b t1), ("step", .int st t2), ("visit", vf)]) X T hk hsz H ?k6 ?k7 ?k8 ?k9 ?kB ?_ ?c5 ?c2 ?c3 ?c4
  case k6 => k_is
  case k7 => k_is
  case k8 => (dsimp only [ktrTop]; omega)
  case k9 => exact BindsTo.of_eq rfl
  case kB => exact locs rfl
  case c5 => decide
  case c2 => exact rfl
  case c3 => exact rfl
  case c4 => exact rfl
  intro L' h₁ hL F N hlt
  repeat' ktr_rel
  refine callWith_C (g := g) cn1 ?_
  repeat' ktr_rel
  · exact F.keep
  refine Spec.use (P.next n x ps b t1 hR) [] B F X N T rfl (fun _ hp => hp) (fun _ hp => nomatch hp) (fun g' k1 _ _ => P.keep g g' hn k1) (by dsimp only [ktrTop, Around.deeper]; omega) (by dsimp only [ktrTop, Around.deeper]; omega) ?_
  clear N
  rintro h' tk v ps' ⟨hR', hv⟩ F' N _ _ _
  rw [List.append_nil] at N
  clear F
  repeat' ktr_rel
  rename Fr _ _ _ _ => F
  rename News _ _ _ _ => N
  refine While_inv2 (fun n m nw => ∃ x i v, R n x nw ∧ Walk nx vis st n x i y r ∧ OptV v (nx x i) ∧ m "at" = some v ∧ m "next_place" = some nf ∧ m "step" = some (.int st t2) ∧ m "visit" = some vf) F N ⟨x, b, v, hR', W, hv, rfl, rfl, rfl, rfl⟩ ?_
  clear F N W hR hR' hv
  clear v
  rintro n m₁ ps h tk F N ⟨x, i, v, hR, W, hv, m1, m2, m3, m4⟩
  rw [pin m1] at F
  rw [pin m2] at F
  rw [pin m3] at F
  rw [pin m4] at F
  cases W with
  | stop e =>
    rw [e] at hv
    cases hv
    repeat' ktr_rel
    exact fin (s := s) ret F N hL (fun _ hp => hp) ⟨hR, rfl⟩
  | hit e e2 =>
    rename_i a'
    have e' := e
    rw [e] at hv
    obtain ⟨ta, rfl⟩ := hv
    repeat' ktr_rel
    refine callWith_C (g := g) cn2 ?_
    repeat' ktr_rel
    · exact F.keep
    refine Spec.use (P.visit _ x ps a' i ta hR e) [] B F X N T rfl (fun _ hp => hp) (fun _ hp => nomatch hp) (fun g' k1 _ _ => P.keep g g' hn k1) (by dsimp only [ktrTop, Around.deeper]; omega) (by dsimp only [ktrTop, Around.deeper]; omega) ?_
    clear N
    rintro h' tk v ps' ⟨hR', hv⟩ F' N _ _ _
    rw [List.append_nil] at N
    rw [e2] at hv
    subst hv
    repeat' ktr_rel
    exact fin (s := s) ret F' N hL (fun _ hp => hp) ⟨hR', _, rfl⟩
  | go e e2 W =>
    rename_i n a'
    rw [e] at hv
    obtain ⟨ta, rfl⟩ := hv
    repeat' ktr_rel
    refine callWith_C (g := g) cn2 ?_
    repeat' ktr_rel
    · exact F.keep
    refine Spec.use (P.visit _ x ps a' i ta hR e) [] B F X N T rfl (fun _ hp => hp) (fun _ hp => nomatch hp) (fun g' k1 _ _ => P.keep g g' hn k1) (by dsimp only [ktrTop, Around.deeper]; omega) (by dsimp only [ktrTop, Around.deeper]; omega) ?_
    clear N
    rintro h' tk v ps' ⟨hR', hv⟩ F' N _ _ _
    rw [List.append_nil] at N
    rw [e2] at hv
    subst hv
    repeat' ktr_rel
    refine callWith_C (g := g) cn1 ?_
    repeat' ktr_rel
    · exact F'.keep
    refine Spec.use (P.next n (vis x a').1 ps' (a' + st) _ hR') [] B F' X N T rfl (fun _ hp => hp) (fun _ hp => nomatch hp) (fun g' k1 _ _ => P.keep g g' hn k1) (by dsimp only [ktrTop, Around.deeper]; omega) (by dsimp only [ktrTop, Around.deeper]; omega) ?_
    clear N
    rintro h'' tk'' v'' ps'' ⟨hR'', hv''⟩ F'' N _ _ _
    rw [List.append_nil] at N
    repeat' ktr_rel
    rename Fr _ _ _ _ => F3
    rename News _ _ _ _ => N3
    exact ⟨_, _, _, ps'', n, rfl, F3, N3, Nat.lt_succ_self _, (vis x a').1, a' + st, v'', hR'', W, hv'', rfl, rfl, rfl, rfl⟩
end Mine
end

/-! DPairs -/
section
namespace Mine
open PySem PySem.W PySem.Spec PySem.Calls PyProof.Rows PyProof.V
set_option maxRecDepth 100000
set_option maxHeartbeats 8000000

theorem getKeys_list {prog : Program} {w : World} {A : Around} {E : Value → Shared → Prop} {s : Shared} {a : Addr} {o : Obj} {xs : Array Value} {k : Nat} {Q : Option Value → Shared → Prop}
    (hx : s.heap.get? a = some o) (hc : o.cls = .type "list") (hdat : o.data = .seq xs k) (hd : o.dict = none) (hA : A.handled = none)
    (h : ∀ h' tk, Kept s.heap h' → Q none { s with heap := h', toks := tk }) :
    wpAny (model prog w) A (getAttr? (.ref a) "keys") Q E s := by
  have hmiss : typeLookup (.type "list") "keys" = pure none := am_miss_of_fast (by kernel_rfl)
  have hname : (["__module__", "__name__", "__qualname__", "__doc__", "__annotations__"] : List Str).contains "keys" = false := by decide
  obtain ⟨c, dct, dat, sl⟩ := o
  simp only at hc hdat hd
  subst hc hdat hd
  obtain ⟨hp, g, d, tk, os⟩ := s
  have hT : ∀ tk', (⟨hp, g, d, tk', os⟩ : Shared).TypeIs (.ref a) "list" := fun _ => ⟨_, hx, rfl⟩
  have f1 := sub_AttributeError
  have f3 := F.slot_list_getattribute.lookup
  have f4 := F.slot_list_getattribute.bind (.ref a)
  have f5 := am_list_getattr_none
  unfold getAttr? getAttrBy? getAttrBy
  repeat (any_goals (first | assumption | exact hT _ | ((with_reducible show wpAny _ _ (call (Value.builtin "list.__getattribute__") _ _) _ _ _); refine call_meets F.slot_list_getattribute (hT _) am_entry_list_getattribute (F.args_list_getattribute_2 _ _) (meets_getattribute_miss_list a xs k sl "keys" _ hmiss hname) ⟨hx, hA, fun h' tk' e hx' => ?_⟩) | wp_step))
  obtain ⟨t', u', he⟩ := hx'.there
  show wpAny _ _ (getattributeRaised _ _ _ _ _ _ _) _ _ _
  unfold getattributeRaised
  repeat (any_goals (first | assumption | wp_step))
  exact h _ _ hx'.keeps

abbrev pairObj (k v : Value) : Obj := { cls := .type "tuple", data := .seq #[k, v] }

theorem entry_dict_update_loop : entryFor table "dict.update.loop" = some Builtin.«dict.update.loop» := entryFor_of_fast (by kernel_rfl)
theorem plain_dict_update_loop : plainId "dict.update.loop" = true := by decide +kernel

section
variable {prog : Program} {w : World} {K : Type} [DecidableEq K] {knd : KeyKind prog w K} {A : Around} {E : Value → Shared → Prop} {s : Shared} {R : Result → Shared → Prop} {kvs : List (K × Value)}

theorem dictOf_at {h h' : Heap} {a : Addr} (x : h.DictOf knd a kvs) (e : ∀ o, h.get? a = some o → h'.get? a = some o) : h'.DictOf knd a kvs :=
  let ⟨o, es, ep, ho, r⟩ := x; ⟨o, es, ep, e o ho, r⟩

theorem pairs_loop {S I l : Addr} {as : List Addr} (hh : A.handled = none) (hSI : S ≠ I) (hSl : S ≠ l) (hIl : I ≠ l) (has : ∀ a ∈ as, a ≠ S ∧ a ≠ I) (hlen : as.length = kvs.length) (hn : kvs.length ≤ 100000) {h₁ : Heap}
    (hp : ∀ (j : Nat) (a : Addr), as[j]? = some a → ∃ key k x, kvs[j]? = some (k, x) ∧ knd.is k key = true ∧ h₁.get? a = some (pairObj key x)) (hl : h₁.IsList l (as.map Value.ref).toArray)
    (hR : ∀ h' tk, (∀ b o, b ≠ S → b ≠ I → h₁.get? b = some o → h'.get? b = some o) → h'.DictOf knd S (merged [] kvs) → R (.ok (.ret .none)) { s with heap := h', toks := tk }) :
    ∀ (k i : Nat) (n : Int) (t : Tok) (h : Heap) (tk : Nat), kvs.length - i = k → i ≤ kvs.length → h.IsListIter I l i → (∀ b o, b ≠ S → b ≠ I → h₁.get? b = some o → h.get? b = some o) → h.DictOf knd S (merged [] (kvs.take i)) →
      codeAny (model prog w) A (.builtin "dict.update.loop" ⟨[.ref S, .ref I, .int n t, .none], []⟩) R { s with heap := h, toks := tk } := by
  intro k
  induction k with
  | zero =>
    intro i n t h tk hk hi hit hkeep hD
    have hin : i = kvs.length := by omega
    subst hin
    rw [List.take_length] at hD
    refine codeAny_builtin entry_dict_update_loop ?_
    rw [Around.under_plainId plain_dict_update_loop _]
    show wpAny _ A.in1 (pyNext (.ref I) >>= _) _ _ _
    refine wpAny_bind (wpAny_pyNext_list_end (s := { s with heap := h, toks := tk }) (A := A.in1) hh hit (hl.at fun o e => hkeep l o (Ne.symm hSl) (Ne.symm hIl) e) (by rw [Array.getElem?_eq_none]; simp [hlen]) fun h' he => ?_)
    refine wpAny_bind (wpAny_pure (wpAny_pure (hR h' tk (fun b o h1 h2 e => he b o h2 (hkeep b o h1 h2 e)) (dictOf_at hD fun o e => he S o hSI e))))
  | succ k ih =>
    intro i n t h tk hk hi hit hkeep hD
    have hlt : i < kvs.length := by omega
    obtain ⟨a, ha⟩ : ∃ a, as[i]? = some a := ⟨as[i]'(by omega), List.getElem?_eq_getElem (by omega)⟩
    obtain ⟨key, kk, x, hx, hkey, hobj⟩ := hp i a ha
    obtain ⟨haS, haI⟩ := has a (List.mem_of_getElem? ha)
    refine codeAny_builtin entry_dict_update_loop ?_
    rw [Around.under_plainId plain_dict_update_loop _]
    show wpAny _ A.in1 (pyNext (.ref I) >>= _) _ _ _
    refine wpAny_bind (wpAny_pyNext_list_item (s := { s with heap := h, toks := tk }) (A := A.in1) (x := Value.ref a) hit (hl.at fun o e => hkeep l o (Ne.symm hSl) (Ne.symm hIl) e) (by simp [ha]) fun h' hit' hs' => ?_)
    have hkp := hs'.extBut
    have ho' : h'.get? a = some (pairObj key x) := hkp a _ haI (hkeep a _ haS haI hobj)
    refine wpAny_bind (wpAny_holding ?_)
    refine wpAny_bind (wpAny_tryCatch ?_)
    unfold Builtin.Dict.pairItems
    refine wpAny_bind (wpAny_typeOf (T := "tuple") ⟨_, ho', rfl⟩ ?_)
    rw [if_pos (by decide)]
    refine wpAny_bind (wpAny_seqItems ho' rfl ?_)
    refine wpAny_pure ?_
    dsimp only [Option.getD_some]
    refine wpAny_holding ?_
    unfold dictSet
    refine wpAny_holding (wpAny_bind (knd.pyHash hkey ?_))
    have hD' : h'.DictOf knd S (merged [] (kvs.take i)) := dictOf_at hD fun o e => hkp S o hSI e
    have hml : (merged [] (kvs.take i)).length ≤ sizeLine := by
      have := merged_length_le ([] : List (K × Value)) (kvs.take i)
      rw [List.length_take, List.length_nil] at this
      rw [sizeLine_eq]; omega
    refine wpAny_dictSetHashed_pairs (s := { s with heap := h', toks := tk + 1 }) (hsz := hml) hkey hD' fun h'' hD'' hs'' => ?_
    have hkp2 := hs''.extBut
    refine wpAny_pure ⟨plainId_quiet plain_dict_update_loop _, ?_⟩
    exact ih (i + 1) (n + 1) _ h'' _ (by omega) (by omega) (hit'.at fun o e => hkp2 I o (Ne.symm hSI) e) (fun b o h1 h2 e => hkp2 b o h1 (hkp b o h2 (hkeep b o h1 h2 e))) (by rw [merged_take_succ [] kvs i (kk, x) hx]; exact hD'')

theorem call_dict_pairs {l : Addr} {ol : Obj} {nl : Nat} {as : List Addr} {Q : Value → Shared → Prop} (hh : A.handled = none) (hlen : as.length = kvs.length) (hn : kvs.length ≤ 100000)
    (hp : ∀ (j : Nat) (a : Addr), as[j]? = some a → ∃ key k x, kvs[j]? = some (k, x) ∧ knd.is k key = true ∧ s.heap.get? a = some (pairObj key x))
    (hol : s.heap.get? l = some ol) (hc : ol.cls = .type "list") (hd : ol.data = .seq (as.map Value.ref).toArray nl) (hdi : ol.dict = none)
    (h : ∀ h' tk, Kept s.heap h' → h'.DictOf knd s.heap.objs.size (merged [] kvs) → Q (.ref s.heap.objs.size) { s with heap := h', toks := tk }) :
    wpAny (model prog w) A (call (.type "dict") [.ref l]) Q E s := by
  refine callType_codes (Q₁ := fun obj s₁ => obj = .ref s.heap.objs.size ∧ s₁ = { s with heap := s.heap.push { cls := .type "dict", data := .dict #[] } }) F.kt_called_dict (F.kt_typeCall_dict_1 _) F.entry_dict_init (kt_code_dict_new _ ⟨rfl, rfl⟩) ?_
  rintro obj s₁ ⟨rfl, rfl⟩
  have hnew : (s.heap.push { cls := .type "dict", data := .dict #[] }).DictOf knd s.heap.objs.size [] := Heap.DictOf.new s.heap
  have up : Kept s.heap (s.heap.push { cls := .type "dict", data := .dict #[] }) := fun b o e => Heap.get?_push_of_some _ e
  have hol' := up _ _ hol
  refine ⟨hnew.typeIs, F.args_dict_init_2 _ _, ?_⟩
  unfold Builtin.«dict.__init__»
  refine wpAny_bind ?_
  unfold Builtin.Dict.selfAndRest
  refine wpAny_bind (wpAny_notOrdered_dict hnew.typeIs ?_)
  show wpAny _ _ (pure (s.heap.objs.size, [Value.ref l])) _ _ _
  refine wpAny_pure ?_
  show wpAny _ _ (Builtin.Dict.updateFrom "dict.__init__" s.heap.objs.size (.ref l) [] .none) _ _ _
  unfold Builtin.Dict.updateFrom
  refine wpAny_bind (wpAny_typeOf (T := "list") ⟨_, hol', hc⟩ ?_)
  rw [if_pos (by decide)]
  refine wpAny_bind (getKeys_list hol' hc hd hdi hh fun h2 tk2 k2 => ?_)
  rw [if_pos (by rfl)]
  refine wpAny_bind (wpAny_rule ?_)
  have hol2 := k2 _ _ hol'
  refine wpAny_bind (wpAny_pyIter_list (items := (as.map Value.ref).toArray) ⟨_, hol2, hc, _, hd⟩ ?_)
  have hlS : l < s.heap.objs.size := Heap.lt_size hol
  have hS2 : s.heap.objs.size < h2.objs.size := Heap.lt_size (k2 _ _ (Heap.get?_push_size _ rfl))
  refine wpAny_pure ⟨plainId_quiet plain_dict_update_loop _, ?_⟩
  have up2 : Kept h2 (h2.push { cls := .type "list_iterator", data := .fields #[.ref l, .int 0 0] }) := fun b o e => Heap.get?_push_of_some _ e
  refine pairs_loop (A := A.in1) (knd := knd) (kvs := kvs) (as := as) (h₁ := h2.push { cls := .type "list_iterator", data := .fields #[.ref l, .int 0 0] }) (s := s) hh (Nat.ne_of_lt hS2) (Nat.ne_of_gt hlS) (Nat.ne_of_gt (Nat.lt_trans hlS hS2)) (fun a ha => ?_) hlen hn (fun j a ha => ?_) ⟨_, up2 _ _ hol2, hc, _, hd⟩ ?_
    kvs.length 0 0 0 _ _ (Nat.sub_zero _) (Nat.zero_le _) ⟨_, Heap.get?_push_size _ rfl, rfl, rfl⟩ (fun _ _ _ _ e => e) ?_
  · obtain ⟨j, hj⟩ := List.mem_iff_getElem?.mp ha
    obtain ⟨_, _, _, _, _, e⟩ := hp j a hj
    have := Heap.lt_size e
    exact ⟨Nat.ne_of_lt this, Nat.ne_of_lt (Nat.lt_trans this hS2)⟩
  · obtain ⟨key, k, x, e1, e2, e3⟩ := hp j a ha
    exact ⟨key, k, x, e1, e2, up2 _ _ (k2 _ _ (up _ _ e3))⟩
  · intro h' tk hk hD
    exact ⟨rfl, h h' tk (fun b o e => hk b o (Nat.ne_of_lt (Heap.lt_size e)) (Nat.ne_of_lt (Nat.lt_trans (Heap.lt_size e) hS2)) (up2 _ _ (k2 _ _ (up _ _ e)))) hD⟩
  · exact dictOf_at (dictOf_at hnew fun o e => k2 _ _ e) fun o e => up2 _ _ e
end

section
variable {prog : Program} {w : World} {A : Around} {E : Value → Shared → Prop} {s : Shared} {h₀ : Heap} {L : Addr} {m : Str → Option Value} {news : Led} {kvs : List (Int × Value)}
/-- list(d.items()), the view being in the ledger -/
theorem items_N {v d : Addr} {od : Obj} {Q : Value → Shared → Prop} (hh : A.handled = none) (F : Fr h₀ L s.heap m) (N : News h₀ L s.heap news) (hvw : (v, { cls := .type "dict_items", data := .fields #[.ref d] }) ∈ news) (hmd : (d, od) ∈ news) (hod : od.IsDictOf (PySem.intKind prog w) kvs) (hn : kvs.length ≤ 16777216)
    (h : ∀ (B : Addr) c (as : List Addr) (tups : Led) h' tk, Fr h₀ L h' m → News h₀ L h' ((B, listOf (as.map Value.ref).toArray c) :: (news ++ tups)) → (∀ q ∈ news, q.1 < B) → as.length = kvs.length → (∀ q ∈ tups, B < q.1) →
      (∀ (j : Nat) (a : Addr), as[j]? = some a → ∃ key k x, kvs[j]? = some (k, x) ∧ (PySem.intKind prog w).is k key = true ∧ (a, pairObj key x) ∈ tups) → Q (.ref B) { s with heap := h', toks := tk }) :
    wpAny (model prog w) A (call (.type "list") [.ref v]) Q E s := by
  obtain ⟨ep, hat⟩ := KdkAt.of hod
  refine kdx_call (knd := PySem.intKind prog w) (kvs := kvs) (ep := ep) hh ⟨_, (N _ hvw).1, rfl, rfl⟩ (hat.dictAt (N _ hmd).1) (kdl_size hn) fun h' tk acc c as hk hS hl hG hacc => ?_
  have ea : acc = (as.map Value.ref).toArray := by rw [← hacc, Array.toArray_toList]
  refine h s.heap.objs.size c as (as.filterMap fun a => (h'.get? a).map fun o => (a, o)) h' tk (F.keeps hk) (fun q hq => ?_) (fun q hq => Heap.lt_size (N q hq).1) hl (fun q hq => ?_) (fun j a hj => ?_)
  · rcases List.mem_cons.mp hq with rfl | hq
    · exact ⟨by rw [← ea]; exact hS, kdx_fresh F (Nat.le_refl _)⟩
    · rcases List.mem_append.mp hq with hq | hq
      · exact ⟨hk _ _ (N q hq).1, (N q hq).2⟩
      · obtain ⟨a, ha, e⟩ := List.mem_filterMap.mp hq
        cases z : h'.get? a with
        | none => rw [z] at e; cases e
        | some o =>
          rw [z] at e
          cases e
          exact ⟨z, kdx_fresh F (Nat.le_of_lt (hG.above _ ha))⟩
  · obtain ⟨a, ha, e⟩ := List.mem_filterMap.mp hq
    cases z : h'.get? a with
    | none => rw [z] at e; cases e
    | some o => rw [z] at e; cases e; exact hG.above _ ha
  · obtain ⟨key, k, x, e1, e2, e3⟩ := hG.pairs j a hj
    exact ⟨key, k, x, e1, e2, List.mem_filterMap.mpr ⟨a, List.mem_of_getElem? hj, by rw [e3]; rfl⟩⟩

theorem dict_pairs_N {l : Addr} {nl : Nat} {as : List Addr} {Q : Value → Shared → Prop} (hh : A.handled = none) (F : Fr h₀ L s.heap m) (N : News h₀ L s.heap news) (hbig : sysModules < h₀.objs.size) (hl : (l, listOf (as.map Value.ref).toArray nl) ∈ news)
    (hlen : as.length = kvs.length) (hn : kvs.length ≤ 100000) (hnd : (kvs.map (·.1)).Nodup) (hp : ∀ (j : Nat) (a : Addr), as[j]? = some a → ∃ key k x, kvs[j]? = some (k, x) ∧ (PySem.intKind prog w).is k key = true ∧ (a, pairObj key x) ∈ news)
    (h : ∀ (S : Addr) o h' tk, Fr h₀ L h' m → News h₀ L h' ((S, o) :: news) → (∀ q ∈ news, q.1 < S) → (S == sysModules) = false → sysModules < S → o.IsDictOf (PySem.intKind prog w) kvs → Q (.ref S) { s with heap := h', toks := tk }) :
    wpAny (model prog w) A (call (.type "dict") [.ref l]) Q E s := by
  refine call_dict_pairs (knd := PySem.intKind prog w) (kvs := kvs) (as := as) hh hlen hn (fun j a ha => ?_) (N _ hl).1 rfl rfl rfl fun h' tk hk hD => ?_
  · obtain ⟨key, k, x, e1, e2, e3⟩ := hp j a ha
    exact ⟨key, k, x, e1, e2, (N _ e3).1⟩
  · obtain ⟨o, ho, hd⟩ := Heap.dictOf_iff.mp hD
    rw [merged_nil_of_nodup kvs hnd] at hd
    refine h _ o h' tk (F.keeps hk) (fun q hq => ?_) (fun q hq => Heap.lt_size (N q hq).1) ?_ (Nat.lt_of_lt_of_le hbig (Nat.le_trans F.above (Nat.le_of_lt F.ns.lt))) hd
    · rcases List.mem_cons.mp hq with rfl | hq
      · exact ⟨ho, kdx_fresh F (Nat.le_refl _)⟩
      · exact ⟨hk _ _ (N q hq).1, (N q hq).2⟩
    · exact F.notModules hbig
end
end Mine
end

/-! Iter -/
section
namespace Mine
open PySem PySem.W PySem.Spec PySem.Calls PyProof.Rows PyProof.V
set_option maxRecDepth 100000

section
variable {prog : Program} {w : World} {A : Around} {E : Value → Shared → Prop} {s : Shared} {env : Env} {h₀ : Heap} {x : Str} {body : List Stmt} {Q : Flow → Shared → Prop}
def TurnE (h₀ : Heap) (L : Addr) (J : (Str → Option Value) → Led → Prop) (I : Addr) (oI : Obj) (s₁ : Shared) (Q : Flow → Shared → Prop) (f : Flow) (s₂ : Shared) : Prop :=
  match f with
  | .ret v => Q (.ret v) s₂
  | .brk => Q .next s₂
  | _ => ∃ h' tk m' news', s₂ = { s₁ with heap := h', toks := tk } ∧ Fr h₀ L h' m' ∧ News h₀ L h' ((I, oI) :: news') ∧ (∀ p ∈ news', p.1 ≠ I) ∧ J m' news'

theorem iterR {r : Addr} {a₀ b₀ : Int} {t₀ u₀ v₀ : Tok} {n : Nat} {m₀ : Str → Option Value} {news : Led} (J : Nat → (Str → Option Value) → Led → Prop)
    (hh : A.handled = none) (hr : IsRange s.heap r a₀ b₀ 1 t₀ u₀ v₀) (hsmall : Builtin.Range.small a₀ b₀ 1 = true) (hn : Builtin.Range.rangeSize a₀ b₀ 1 = (n : Int)) (F : Fr h₀ env.locals s.heap m₀) (N : News h₀ env.locals s.heap news) (hj : J 0 m₀ news)
    (turn : ∀ (i : Nat) t m₁ news₁ h tk (I : Addr) (oI : Obj), i < n → J i m₁ news₁ → (∀ p ∈ news₁, p.1 ≠ I) → Fr h₀ env.locals h (fun y => if y = x then some (.int (a₀ + i) t) else m₁ y) → News h₀ env.locals h ((I, oI) :: news₁) →
      wpAny (model prog w) A (execs body env) (TurnE h₀ env.locals (J (i + 1)) I oI { s with heap := h, toks := tk } Q) E { s with heap := h, toks := tk })
    (done : ∀ m₁ news₁ h tk, J n m₁ news₁ → Fr h₀ env.locals h m₁ → News h₀ env.locals h news₁ → Q .next { s with heap := h, toks := tk }) :
    wpAny (model prog w) A (pyIter (.ref r)) (fun it s₂ => LoopAtV prog w A h₀ env x body Q E it s₂) E s := by
  refine wpAny_pyIter_range hr hsmall ?_
  have W : Walks prog w A s.heap.objs.size [s.heap.objs.size] [s.heap.objs.size] n (fun i v => i < n ∧ ∃ t, v = .int (a₀ + i * 1) t)
      (fun i h => IsRangeIter h s.heap.objs.size (a₀ + (i : Nat) * 1) ((n : Int) - (i : Nat)) 1) := (Walks.range hh _ a₀ 1 n).bound
  refine ⟨s.heap.objs.size, _, _, n, _, _, m₀, news, J, rfl, W, ?_, ?_, ?_, (by show IsRangeIter _ _ _ _ _; rw [hn]; simpa using Heap.get?_push_size _ rfl), F.push _, (fun p hp => ⟨Heap.get?_push_of_some _ (N p hp).1, (N p hp).2⟩), hj, ?_, ?_⟩
  · intro hm
    exact absurd F.ns.lt ((List.mem_singleton.mp hm) ▸ Nat.lt_irrefl _)
  · intro b hb
    rw [List.mem_singleton.mp hb]
    exact next_is_new F
  · intro p hp hI
    exact absurd (Heap.lt_size (N p hp).1) ((List.mem_singleton.mp hI) ▸ Nat.lt_irrefl _)
  · rintro i v m₁ news₁ s₁ own ⟨hh', tk', rfl⟩ hin ⟨_, t, rfl⟩ hJ hoff hown hown2 hall hst F₁ N₁
    obtain ⟨oI, hoI⟩ : ∃ oI, hh'.get? s.heap.objs.size = some oI := ⟨_, hst⟩
    have hmem : (s.heap.objs.size, oI) ∈ own := hall _ (List.mem_singleton.mpr rfl) (next_is_new F) oI hoI
    have honly : ∀ p ∈ own, p = (s.heap.objs.size, oI) := fun p hp => by
      have e1 := List.mem_singleton.mp (hown p hp)
      have e2 : hh'.get? p.1 = some p.2 := hown2 p hp
      rw [e1, hoI] at e2
      exact Prod.ext e1 (Option.some.inj e2).symm
    have hne : ∀ p ∈ news₁, p.1 ≠ s.heap.objs.size := fun p hp e => hoff p hp (List.mem_singleton.mpr e)
    have N₂ : News h₀ env.locals hh' ((s.heap.objs.size, oI) :: news₁) := fun p hp => by
      rcases List.mem_cons.mp hp with rfl | hp
      · exact N₁ _ (List.mem_append_left _ hmem)
      · exact N₁ _ (List.mem_append_right _ hp)
    rw [Int.mul_one] at F₁
    refine wpAny_mono (turn i t m₁ news₁ hh' tk' _ oI hin hJ hne F₁ N₂) (fun f s₂ p => ?_) fun _ _ e => e
    have fin : (∃ h' tk m' news', s₂ = { s with heap := h', toks := tk } ∧ Fr h₀ env.locals h' m' ∧ News h₀ env.locals h' ((s.heap.objs.size, oI) :: news') ∧ (∀ p ∈ news', p.1 ≠ s.heap.objs.size) ∧ J (i + 1) m' news') →
        LoopStepU h₀ env.locals [s.heap.objs.size] own (J (i + 1)) { s with heap := hh', toks := tk' } .next s₂ := by
      rintro ⟨h', tk, m', news', e, F', N', hn', hm⟩
      refine ⟨rfl, h', tk, m', news', e, F', fun p hp => ?_, fun p hp hq => hn' p hp (List.mem_singleton.mp hq), hm⟩
      rcases List.mem_append.mp hp with hp | hp
      · rw [honly p hp]; exact N' _ (.head _)
      · exact N' p (.tail _ hp)
    cases f with
    | ret v => exact .ret p
    | brk => exact .brk p
    | next => exact .next (fin p)
    | cont => exact .cont (fin p)
  · rintro h' tk m' news' F' N' _ hJ
    exact done m' news' h' tk hJ F' N'
end
end Mine
end

/-! IterL -/
section
namespace Mine
open PySem PySem.W PySem.Spec PySem.Calls PyProof.Rows PyProof.V
set_option maxRecDepth 100000

section
variable {prog : Program} {w : World} {A : Around} {E : Value → Shared → Prop} {s : Shared} {env : Env} {h₀ : Heap} {x : Str} {body : List Stmt} {Q : Flow → Shared → Prop}
def TurnL (h₀ : Heap) (L : Addr) (J : (Str → Option Value) → Led → Prop) (I l : Addr) (oI ol : Obj) (s₁ : Shared) (Q : Flow → Shared → Prop) (f : Flow) (s₂ : Shared) : Prop :=
  match f with
  | .ret v => Q (.ret v) s₂
  | .brk => Q .next s₂
  | _ => ∃ h' tk m' news', s₂ = { s₁ with heap := h', toks := tk } ∧ Fr h₀ L h' m' ∧ News h₀ L h' ((I, oI) :: (l, ol) :: news') ∧ (∀ p ∈ news', p.1 ≠ I) ∧ J m' news'

theorem iterLed {l : Addr} {vs : List Value} {ns : List Int} {k : Nat} {m₀ : Str → Option Value} {all news : Led} (J : Nat → (Str → Option Value) → Led → Prop)
    (hh : A.handled = none) (hi : IntsAre vs ns) (F : Fr h₀ env.locals s.heap m₀) (N : News h₀ env.locals s.heap all) (hm : (l, listOf vs.toArray k) ∈ all) (hs : ∀ p ∈ news, p ∈ all) (hj : J 0 m₀ news)
    (turn : ∀ (i : Nat) n t m₁ news₁ h tk (I : Addr) (oI ol : Obj), ns[i]? = some n → J i m₁ news₁ → (∀ p ∈ news₁, p.1 ≠ I) → Fr h₀ env.locals h (fun y => if y = x then some (.int n t) else m₁ y) → News h₀ env.locals h ((I, oI) :: (l, ol) :: news₁) →
      wpAny (model prog w) A (execs body env) (TurnL h₀ env.locals (J (i + 1)) I l oI ol { s with heap := h, toks := tk } Q) E { s with heap := h, toks := tk })
    (done : ∀ m₁ news₁ h tk, J ns.length m₁ news₁ → Fr h₀ env.locals h m₁ → News h₀ env.locals h news₁ → Q .next { s with heap := h, toks := tk }) :
    wpAny (model prog w) A (pyIter (.ref l)) (fun it s₂ => LoopAtV prog w A h₀ env x body Q E it s₂) E s := by
  have hl := N _ hm
  have hls : s.heap.IsList l vs.toArray := ⟨_, hl.1, rfl, _, rfl⟩
  have hlt : l < s.heap.objs.size := Heap.lt_size hl.1
  have hne : l ≠ s.heap.objs.size := Nat.ne_of_lt hlt
  refine wpAny_pyIter_list hls ?_
  have W := Walks.list (prog := prog) (w := w) hh s.heap.objs.size l hne vs.toArray
  have hlen : vs.toArray.size = ns.length := by simp [hi.length]
  rw [hlen] at W
  refine ⟨s.heap.objs.size, _, _, ns.length, _, _, m₀, news, fun i m nw => J i m nw, rfl, W, ?_, ?_, ?_, ⟨⟨_, Heap.get?_push_size _ rfl, rfl, rfl⟩, hls.at fun o e => Heap.get?_push_of_some _ e⟩, F.push _, (fun p hp => ⟨Heap.get?_push_of_some _ (N p (hs p hp)).1, (N p (hs p hp)).2⟩), hj, ?_, ?_⟩
  · intro hm'
    rcases List.mem_cons.mp hm' with e | hm'
    · exact absurd F.ns.lt (e ▸ Nat.lt_irrefl _)
    · exact hl.2.1 (List.mem_singleton.mp hm').symm
  · intro b hb
    rw [List.mem_singleton.mp hb]
    exact next_is_new F
  · intro p hp hI
    exact absurd (Heap.lt_size (N p (hs p hp)).1) ((List.mem_singleton.mp hI) ▸ Nat.lt_irrefl _)
  · rintro i v m₁ news₁ s₁ own ⟨hh', tk', rfl⟩ hin hP hJ hoff hown hown2 hall hst F₁ N₁
    obtain ⟨⟨oI, hoI, _⟩, ⟨ol, hol, hcl, nl, hdl⟩⟩ := id hst
    have hmem : (s.heap.objs.size, oI) ∈ own := hall _ (by simp) (next_is_new F) oI hoI
    have hmem2 : (l, ol) ∈ own := hall _ (by simp) hl.2.2 ol hol
    have honly : ∀ p ∈ own, p = (s.heap.objs.size, oI) ∨ p = (l, ol) := fun p hp => by
      have e2 : hh'.get? p.1 = some p.2 := hown2 p hp
      rcases List.mem_cons.mp (hown p hp) with e1 | e1
      · rw [e1, hoI] at e2; exact .inl (Prod.ext e1 (Option.some.inj e2).symm)
      · have e1 := List.mem_singleton.mp e1
        rw [e1, hol] at e2; exact .inr (Prod.ext e1 (Option.some.inj e2).symm)
    have hne1 : ∀ p ∈ news₁, p.1 ≠ s.heap.objs.size := fun p hp e => hoff p hp (by rw [e]; simp)
    have N₂ : News h₀ env.locals hh' ((s.heap.objs.size, oI) :: (l, ol) :: news₁) := fun p hp => by
      rcases List.mem_cons.mp hp with rfl | hp
      · exact N₁ _ (List.mem_append_left _ hmem)
      · rcases List.mem_cons.mp hp with rfl | hp
        · exact N₁ _ (List.mem_append_left _ hmem2)
        · exact N₁ _ (List.mem_append_right _ hp)
    have hv : vs[i]? = some v := by
      simpa using hP
    obtain ⟨n, t, rfl, hn⟩ : ∃ n t, v = .int n t ∧ ns[i]? = some n := hi.at _ _ hv
    refine wpAny_mono (turn i n t m₁ news₁ hh' tk' _ oI ol hn hJ hne1 F₁ N₂) (fun f s₂ p => ?_) fun _ _ e => e
    have fin : (∃ h' tk m' news', s₂ = { s with heap := h', toks := tk } ∧ Fr h₀ env.locals h' m' ∧ News h₀ env.locals h' ((s.heap.objs.size, oI) :: (l, ol) :: news') ∧ (∀ p ∈ news', p.1 ≠ s.heap.objs.size) ∧ J (i + 1) m' news') →
        LoopStepU h₀ env.locals [s.heap.objs.size] own (J (i + 1)) { s with heap := hh', toks := tk' } .next s₂ := by
      rintro ⟨h', tk, m', news', e, F', N', hn', hm⟩
      refine ⟨rfl, h', tk, m', news', e, F', fun p hp => ?_, fun p hp hq => ?_, hm⟩
      · rcases List.mem_append.mp hp with hp | hp
        · rcases honly p hp with rfl | rfl
          · exact N' _ (.head _)
          · exact N' _ (.tail _ (.head _))
        · exact N' p (.tail _ (.tail _ hp))
      · exact hn' p hp (List.mem_singleton.mp hq)
    cases f with
    | ret v => exact .ret p
    | brk => exact .brk p
    | next => exact .next (fin p)
    | cont => exact .cont (fin p)
  · rintro h' tk m' news' F' N' _ hJ
    exact done m' news' h' tk hJ F' N'
end
end Mine
end

/-! IterT -/
section
namespace Mine
open PySem PySem.W PySem.Spec PySem.Calls PyProof.Rows PyProof.V
set_option maxRecDepth 100000

section
variable {prog : Program} {w : World} {A : Around} {E : Value → Shared → Prop} {s : Shared} {env : Env} {h₀ : Heap} {x : Str} {body : List Stmt} {Q : Flow → Shared → Prop}
theorem iterTup {l : Addr} {vs : Array Value} {m₀ : Str → Option Value} {all news : Led} (J : Nat → (Str → Option Value) → Led → Prop)
    (hh : A.handled = none) (F : Fr h₀ env.locals s.heap m₀) (N : News h₀ env.locals s.heap all) (hm : (l, ({ cls := .type "tuple", data := .seq vs } : Obj)) ∈ all) (hs : ∀ p ∈ news, p ∈ all) (hj : J 0 m₀ news)
    (turn : ∀ (i : Nat) v m₁ news₁ h tk (I : Addr) (oI ol : Obj), vs[i]? = some v → J i m₁ news₁ → (∀ p ∈ news₁, p.1 ≠ I) → Fr h₀ env.locals h (fun y => if y = x then some v else m₁ y) → News h₀ env.locals h ((I, oI) :: (l, ol) :: news₁) →
      wpAny (model prog w) A (execs body env) (TurnL h₀ env.locals (J (i + 1)) I l oI ol { s with heap := h, toks := tk } Q) E { s with heap := h, toks := tk })
    (done : ∀ m₁ news₁ h tk, J vs.size m₁ news₁ → Fr h₀ env.locals h m₁ → News h₀ env.locals h news₁ → Q .next { s with heap := h, toks := tk }) :
    wpAny (model prog w) A (pyIter (.ref l)) (fun it s₂ => LoopAtV prog w A h₀ env x body Q E it s₂) E s := by
  have hl := N _ hm
  have hls : s.heap.IsTuple l vs := ⟨_, hl.1, rfl, _, rfl⟩
  have hlt : l < s.heap.objs.size := Heap.lt_size hl.1
  have hne : l ≠ s.heap.objs.size := Nat.ne_of_lt hlt
  refine wpAny_pyIter_tuple hls ?_
  have W := Walks.tuple (prog := prog) (w := w) hh s.heap.objs.size l hne vs
  refine ⟨s.heap.objs.size, _, _, vs.size, _, _, m₀, news, fun i m nw => J i m nw, rfl, W, ?_, ?_, ?_, ⟨⟨_, Heap.get?_push_size _ rfl, rfl, rfl⟩, hls.at fun o e => Heap.get?_push_of_some _ e⟩, F.push _, (fun p hp => ⟨Heap.get?_push_of_some _ (N p (hs p hp)).1, (N p (hs p hp)).2⟩), hj, ?_, ?_⟩
  · intro hm'
    rcases List.mem_cons.mp hm' with e | hm'
    · exact absurd F.ns.lt (e ▸ Nat.lt_irrefl _)
    · exact hl.2.1 (List.mem_singleton.mp hm').symm
  · intro b hb
    rw [List.mem_singleton.mp hb]
    exact next_is_new F
  · intro p hp hI
    exact absurd (Heap.lt_size (N p (hs p hp)).1) ((List.mem_singleton.mp hI) ▸ Nat.lt_irrefl _)
  · rintro i v m₁ news₁ s₁ own ⟨hh', tk', rfl⟩ hin hP hJ hoff hown hown2 hall hst F₁ N₁
    obtain ⟨⟨oI, hoI, _⟩, ⟨ol, hol, hcl, nl, hdl⟩⟩ := id hst
    have hmem : (s.heap.objs.size, oI) ∈ own := hall _ (by simp) (next_is_new F) oI hoI
    have hmem2 : (l, ol) ∈ own := hall _ (by simp) hl.2.2 ol hol
    have honly : ∀ p ∈ own, p = (s.heap.objs.size, oI) ∨ p = (l, ol) := fun p hp => by
      have e2 : hh'.get? p.1 = some p.2 := hown2 p hp
      rcases List.mem_cons.mp (hown p hp) with e1 | e1
      · rw [e1, hoI] at e2; exact .inl (Prod.ext e1 (Option.some.inj e2).symm)
      · have e1 := List.mem_singleton.mp e1
        rw [e1, hol] at e2; exact .inr (Prod.ext e1 (Option.some.inj e2).symm)
    have hne1 : ∀ p ∈ news₁, p.1 ≠ s.heap.objs.size := fun p hp e => hoff p hp (by rw [e]; simp)
    have N₂ : News h₀ env.locals hh' ((s.heap.objs.size, oI) :: (l, ol) :: news₁) := fun p hp => by
      rcases List.mem_cons.mp hp with rfl | hp
      · exact N₁ _ (List.mem_append_left _ hmem)
      · rcases List.mem_cons.mp hp with rfl | hp
        · exact N₁ _ (List.mem_append_left _ hmem2)
        · exact N₁ _ (List.mem_append_right _ hp)
    refine wpAny_mono (turn i v m₁ news₁ hh' tk' _ oI ol hP hJ hne1 F₁ N₂) (fun f s₂ p => ?_) fun _ _ e => e
    have fin : (∃ h' tk m' news', s₂ = { s with heap := h', toks := tk } ∧ Fr h₀ env.locals h' m' ∧ News h₀ env.locals h' ((s.heap.objs.size, oI) :: (l, ol) :: news') ∧ (∀ p ∈ news', p.1 ≠ s.heap.objs.size) ∧ J (i + 1) m' news') →
        LoopStepU h₀ env.locals [s.heap.objs.size] own (J (i + 1)) { s with heap := hh', toks := tk' } .next s₂ := by
      rintro ⟨h', tk, m', news', e, F', N', hn', hm⟩
      refine ⟨rfl, h', tk, m', news', e, F', fun p hp => ?_, fun p hp hq => ?_, hm⟩
      · rcases List.mem_append.mp hp with hp | hp
        · rcases honly p hp with rfl | rfl
          · exact N' _ (.head _)
          · exact N' _ (.tail _ (.head _))
        · exact N' p (.tail _ (.tail _ hp))
      · exact hn' p hp (List.mem_singleton.mp hq)
    cases f with
    | ret v => exact .ret p
    | brk => exact .brk p
    | next => exact .next (fin p)
    | cont => exact .cont (fin p)
  · rintro h' tk m' news' F' N' _ hJ
    exact done m' news' h' tk hJ F' N'
end
end Mine
end

/-! Plain -/
section
namespace Mine
open PySem PySem.W PySem.Spec PySem.Calls PyProof.Rows PyProof.V
set_option maxRecDepth 100000
set_option maxHeartbeats 8000000

def Readable (ps : Led) (v : Value) (D : PyData) : Prop := ∀ h : Heap, (∀ p ∈ ps, h.get? p.1 = some p.2) → ∃ as, Reads h v D as ∧ sysModules ∉ as

abbrev St := List (Int × Int) × List (Int × Int)
def visF (cd : List (Int × Int)) (len : Int) (x : St) (a : Int) : St × Bool :=
  if kdfHas cd a = true then ((doC x.1 (kdfLook cd a 0) len, x.2 ++ [(a, kdfLook x.1 a 0)]), doB (kdfLook cd a 0)) else ((x.1, x.2 ++ [(a, kdfLook x.1 a 0)]), false)
def atF (fwd : Bool) (len : Int) (i : Int) : Int := if fwd then i else len - 1 - i
noncomputable def plainGo (cd : List (Int × Int)) (len : Int) (fwd : Bool) : Nat → Int → St → St × Option Int
  | 0, _, x => (x, none)
  | k + 1, i, x => if kdfHas x.1 (atF fwd len i) = true then (if (visF cd len x (atF fwd len i)).2 = true then ((visF cd len x (atF fwd len i)).1, some (atF fwd len i)) else plainGo cd len fwd k (i + 1) (visF cd len x (atF fwd len i)).1)
      else plainGo cd len fwd k (i + 1) x
def pairD (p : Int × Int) : PyData := .tuple [.int p.1, .int p.2]
def endD : Option Int → PyData | none => .none | some a => .int a
def outD (r : St × Option Int) : PyData := .tuple [.list (r.1.2.map pairD), endD r.2, .dict (kdfD r.1.1)]

theorem visF_has {cd : List (Int × Int)} {len : Int} {c met : List (Int × Int)} {a : Int} (h : kdfHas cd a = true) : visF cd len (c, met) a = ((doC c (kdfLook cd a 0) len, met ++ [(a, kdfLook c a 0)]), doB (kdfLook cd a 0)) := by
  unfold visF; rw [if_pos h]
theorem visF_not {cd : List (Int × Int)} {len : Int} {c met : List (Int × Int)} {a : Int} (h : kdfHas cd a = false) : visF cd len (c, met) a = ((c, met ++ [(a, kdfLook c a 0)]), false) := by
  unfold visF; rw [if_neg (by rw [h]; decide)]
theorem go_skip {cd : List (Int × Int)} {len : Int} {fwd : Bool} {N i : Nat} {x : St} {a : Int} (ha : a = atF fwd len i) (hi : i < N) (h : kdfHas x.1 a = false) : plainGo cd len fwd (N - i) i x = plainGo cd len fwd (N - (i + 1)) (i + 1 : Nat) x := by
  subst ha
  rw [show N - i = (N - (i + 1)) + 1 by omega, plainGo, if_neg (by rw [h]; decide)]; rfl
theorem go_hit {cd : List (Int × Int)} {len : Int} {fwd : Bool} {N i : Nat} {x y : St} {a : Int} (ha : a = atF fwd len i) (hi : i < N) (h : kdfHas x.1 a = true) (hv : visF cd len x a = (y, true)) : plainGo cd len fwd (N - i) i x = (y, some a) := by
  subst ha
  rw [show N - i = (N - (i + 1)) + 1 by omega, plainGo, if_pos h, hv, if_pos rfl]
theorem go_on {cd : List (Int × Int)} {len : Int} {fwd : Bool} {N i : Nat} {x y : St} {a : Int} (ha : a = atF fwd len i) (hi : i < N) (h : kdfHas x.1 a = true) (hv : visF cd len x a = (y, false)) : plainGo cd len fwd (N - i) i x = plainGo cd len fwd (N - (i + 1)) (i + 1 : Nat) y := by
  subst ha
  rw [show N - i = (N - (i + 1)) + 1 by omega, plainGo, if_pos h, hv, if_neg (by simp)]; rfl
theorem doC_len (c : List (Int × Int)) (x len : Int) : (doC c x len).length ≤ c.length + 1 := by
  unfold doC
  split
  · exact kdfPut_len _ _ _
  · split
    · exact Nat.le_trans (kdyDel_len _ _) (Nat.le_succ _)
    · exact Nat.le_succ _

theorem oth1 {q : Addr × Obj} {l news : Led} {d : Addr} {o : Obj} (h1 : q ∈ news) (h2 : @Ne Nat q.1 d) (r : ∀ p ∈ l, p ∈ news ∧ p.1 ∉ ([(d, o)] : Led).map (·.1)) : ∀ p ∈ q :: l, p ∈ news ∧ p.1 ∉ ([(d, o)] : Led).map (·.1) := fun p hp => by
  rcases List.mem_cons.mp hp with rfl | hp
  · exact ⟨h1, fun e => h2 (List.mem_singleton.mp e)⟩
  · exact r p hp
theorem oth1t {l news : Led} {d : Addr} {o : Obj} (h1 : ∀ p ∈ l, p ∈ news) (h2 : ∀ p ∈ l, p.1 ≠ d) : ∀ p ∈ l, p ∈ news ∧ p.1 ∉ ([(d, o)] : Led).map (·.1) := fun p hp => ⟨h1 p hp, fun e => h2 p hp (List.mem_singleton.mp e)⟩

/-- the list of what was met: each item a tuple of the ledger's tail -/
noncomputable def MetAt : List Value → List (Int × Int) → Led → Prop
  | [], [], _ => True
  | v :: vs, p :: ps, T => (∃ a t1 t2, v = .ref a ∧ (a, pairObj (.int p.1 t1) (.int p.2 t2)) ∈ T) ∧ MetAt vs ps T
  | _, _, _ => False
theorem MetAt.mono : ∀ {vs : List Value} {ps : List (Int × Int)} {T T' : Led}, MetAt vs ps T → (∀ p ∈ T, p ∈ T') → MetAt vs ps T'
  | [], [], _, _, _, _ => trivial
  | _ :: _, _ :: _, _, _, ⟨⟨a, t1, t2, e, m⟩, r⟩, h => ⟨⟨a, t1, t2, e, h _ m⟩, r.mono h⟩
theorem MetAt.snoc : ∀ {vs : List Value} {ps : List (Int × Int)} {T : Led} {a : Addr} {x y : Int} {t1 t2 : Tok}, MetAt vs ps T → (a, pairObj (.int x t1) (.int y t2)) ∈ T → MetAt (vs ++ [.ref a]) (ps ++ [(x, y)]) T
  | [], [], _, a, _, _, t1, t2, _, m => ⟨⟨a, t1, t2, rfl, m⟩, trivial⟩
  | _ :: _, _ :: _, _, _, _, _, _, _, ⟨h, r⟩, m => ⟨h, r.snoc m⟩
theorem MetAt.len : ∀ {vs : List Value} {ps : List (Int × Int)} {T : Led}, MetAt vs ps T → vs.length = ps.length
  | [], [], _, _ => rfl
  | _ :: _, _ :: _, _, ⟨_, r⟩ => by simp [r.len]

theorem MetAt.reads {h : Heap} : ∀ {vs : List Value} {ps : List (Int × Int)} {T : Led}, MetAt vs ps T → (∀ p ∈ T, h.get? p.1 = some p.2) → ReadsAll h vs (ps.map pairD) []
  | [], [], _, _, _ => .nil
  | v :: vs, p :: ps, T, ⟨⟨a, t1, t2, e, m⟩, r⟩, hT => by
    subst e
    have h1 : Reads h (.ref a) (pairD p) [] := .tuple (vs := #[.int p.1 t1, .int p.2 t2]) (hT _ m) rfl rfl (.cons (.int _ _) (.cons (.int _ _) .nil))
    exact .cons h1 (r.reads hT)
theorem readable_out {w : World} {rest T : Led} {t lm S : Addr} {o : Obj} {its : Array Value} {nn : Nat} {kvs : List (Int × Value)} {c met : List (Int × Int)} {ev : Value} {e : Option Int}
    (hT : (t, ({ cls := .type "tuple", data := .seq #[.ref lm, ev, .ref S] } : Obj)) ∈ rest) (hl : (lm, listOf its nn) ∈ rest) (hS : (S, o) ∈ rest) (hM : MetAt its.toList met T) (hsub : ∀ p ∈ T, p ∈ rest)
    (hd : o.IsDictOf (PySem.intKind PySem.Challenge.rw_nt0339_01.row.prog w) kvs) (hf : FlatPairs PyData.int kvs (kdfD c)) (he : OptV ev e) (b1 : @LT.lt Nat _ sysModules S) (b2 : @LT.lt Nat _ sysModules lm) : Readable rest (.ref t) (outD ((c, met), e)) := by
  intro h hh
  have r1 : Reads h (.ref lm) (.list (met.map pairD)) [lm] := .list (hh _ hl) rfl rfl (hM.reads fun p hp => hh p (hsub p hp))
  have r2 : Reads h ev (endD e) [] := by
    cases e with
    | none => cases he; exact .none
    | some x => obtain ⟨tx, rfl⟩ := he; exact .int _ _
  have r3 : Reads h (.ref S) (.dict (kdfD c)) [S] := reads_dictOf (knd := PySem.intKind PySem.Challenge.rw_nt0339_01.row.prog w) (enc := PyData.int) (fun k key hk => by obtain ⟨tk, rfl⟩ := Value.isInt_shape hk; exact .int _ _)
    (Heap.dictOf_iff.mpr ⟨o, hh _ hS, hd⟩) (hf.pairsRead h)
  refine ⟨[lm, S], .tuple (vs := #[.ref lm, ev, .ref S]) (hh _ hT) rfl rfl (.cons r1 (.cons r2 (.cons r3 .nil))), ?_⟩
  simp only [List.mem_cons, List.not_mem_nil, or_false, not_or]
  exact ⟨Nat.ne_of_lt b2, Nat.ne_of_lt b1⟩

theorem readable_snoc {w : World} {rest T : Led} {t lm S D : Addr} {o : Obj} {its : Array Value} {nn : Nat} {kvs : List (Int × Value)} {c met : List (Int × Int)} {ev : Value} {e : Option Int} {x y : Int} {t1 t2 : Tok}
    (hT : (t, ({ cls := .type "tuple", data := .seq #[.ref lm, ev, .ref S] } : Obj)) ∈ rest) (hl : (lm, listOf (its.push (.ref D)) nn) ∈ rest) (hS : (S, o) ∈ rest) (hD : (D, pairObj (.int x t1) (.int y t2)) ∈ rest) (hM : MetAt its.toList met T) (hsub : ∀ p ∈ T, p ∈ rest)
    (hd : o.IsDictOf (PySem.intKind PySem.Challenge.rw_nt0339_01.row.prog w) kvs) (hf : FlatPairs PyData.int kvs (kdfD c)) (he : OptV ev e) (b1 : @LT.lt Nat _ sysModules S) (b2 : @LT.lt Nat _ sysModules lm) : Readable rest (.ref t) (outD ((c, met ++ [(x, y)]), e)) :=
  readable_out (w := w) (T := (D, pairObj (.int x t1) (.int y t2)) :: T) hT hl hS (by rw [Array.toList_push]; exact (hM.mono (fun p hp => List.mem_cons_of_mem _ hp)).snoc (List.Mem.head _)) (List.forall_mem_cons.mpr ⟨hD, hsub⟩) hd hf he b1 b2

theorem TurnE.next {h₀ h' : Heap} {L : Addr} {J : (Str → Option Value) → Led → Prop} {s₁ : Shared} {Q : Flow → Shared → Prop} {tk : Nat} {m' : Str → Option Value} {all tups : Led} {I lm S dt dd D : Addr} {oI ol oS ot od oD : Obj} (F : Fr h₀ L h' m') (N : News h₀ L h' all)
    (a1 : (I, oI) ∈ all) (a2 : (lm, ol) ∈ all) (a3 : (S, oS) ∈ all) (a4 : (dt, ot) ∈ all) (a5 : (dd, od) ∈ all) (a6 : (D, oD) ∈ all) (a7 : ∀ p ∈ tups, p ∈ all)
    (b2 : @Ne Nat lm I) (b3 : @Ne Nat S I) (b4 : @Ne Nat dt I) (b5 : @Ne Nat dd I) (b6 : @Ne Nat D I) (b7 : ∀ p ∈ tups, p.1 ≠ I)
    (j : J m' ((lm, ol) :: (S, oS) :: (dt, ot) :: (dd, od) :: (D, oD) :: tups)) : TurnE h₀ L J I oI s₁ Q .next { s₁ with heap := h', toks := tk } :=
  ⟨h', tk, m', _, rfl, F, List.forall_mem_cons.mpr ⟨N _ a1, List.forall_mem_cons.mpr ⟨N _ a2, List.forall_mem_cons.mpr ⟨N _ a3, List.forall_mem_cons.mpr ⟨N _ a4, List.forall_mem_cons.mpr ⟨N _ a5, List.forall_mem_cons.mpr ⟨N _ a6, fun p hp => N p (a7 p hp)⟩⟩⟩⟩⟩⟩,
    List.forall_mem_cons.mpr ⟨b2, List.forall_mem_cons.mpr ⟨b3, List.forall_mem_cons.mpr ⟨b4, List.forall_mem_cons.mpr ⟨b5, List.forall_mem_cons.mpr ⟨b6, b7⟩⟩⟩⟩⟩, j⟩

theorem atF_in {fwd : Bool} {len : Int} {i : Nat} (h : i < len.toNat) : 0 ≤ atF fwd len i ∧ atF fwd len i < len := by
  unfold atF
  split <;> omega
/-- where the two ways of a place meet -/
def PlainMid (s : Shared) (g : Heap) (L S lm dd : Addr) (len : Int) (t1 : Tok) (fwd : Bool) (i : Nat) (news : Led) (fl : Flow) (s' : Shared) : Prop :=
  fl = Flow.next ∧ ∃ (h : Heap) (tk : Nat) (z : Int) (tz : Tok) (m : Str → Option Value), s' = { s with heap := h, toks := tk } ∧ Fr g L h m ∧ News g L h news ∧ z = atF fwd len i ∧ 0 ≤ z ∧ z < len ∧
    m "things" = some (.ref S) ∧ m "met" = some (.ref lm) ∧ m "deeds" = some (.ref dd) ∧ m "length" = some (.int len t1) ∧ m "is_forward" = some (.bool fwd) ∧ m "at" = some (.int z tz)

section
local macro_rules | `(tactic| ktr_rel) => `(tactic| ((fail_if_success (with_reducible show wpAny _ _ (pyIter _) _ _ _)); (fail_if_success (with_reducible show wpAny _ _ (exec (Stmt.For _ _ _ _ _) _) _ _ _)); (fail_if_success (with_reducible show wpAny _ _ (call (Value.type "dict") _) _ _ _)); (fail_if_success (with_reducible show wpAny _ _ (call (Value.type "list") _) _ _ _)); (fail_if_success (with_reducible show wpAny _ _ (call (Value.ref _) _) _ _ _)); (fail_if_success (with_reducible show wpAny _ _ (call (Value.builtin "list.append") _) _ _ _)); (first | (k_unfold; (try dsimp only)) | (k_end; wrow_close) | walk1 | (dsimp only; walk1) | (leave1; (try dsimp only)))))
local macro_rules | `(tactic| k_data) => `(tactic| ((fail_if_success (with_reducible show wpAny _ _ (newTuple _) _ _ _)); ktr_rel))
local macro_rules | `(tactic| ktr_room) => `(tactic| ((try simp only [depth_in1, depth_deeper]); (try dsimp only [ktrTop]); omega))
local macro_rules | `(tactic| k_all) => `(tactic| assumption)

theorem plain_spec (w : World) (fwd : Bool) {dt dd : Addr} {ot od : Obj} {kt kd : List (Int × Value)} {ct cd : List (Int × Int)} (hdt : ot.IsDictOf (PySem.intKind PySem.Challenge.rw_nt0339_01.row.prog w) kt) (hft : FlatPairs PyData.int kt (kdfD ct))
    (hdd : od.IsDictOf (PySem.intKind PySem.Challenge.rw_nt0339_01.row.prog w) kd) (hfd : FlatPairs PyData.int kd (kdfD cd)) (lot : (dt == sysModules) = false) (lod : (dd == sysModules) = false)
    (hct : ct.length ≤ 100) (hcd : cd.length ≤ 100) (hne : dt ≠ dd) (len : Int) (hl0 : 4 ≤ len) (hl1 : len ≤ 12) (t1 : Tok) :
    Spec w (.ref 105) [.int len t1, .ref dt, .ref dd, .bool fwd] 4 (fun _ => True) [(dt, ot), (dd, od)]
      (fun _ v ps' => ∃ rest, ps' = (dt, ot) :: (dd, od) :: rest ∧ Readable rest v (outD (plainGo cd len fwd len.toNat 0 (ct, [])))) := by
  unfold Spec
  k_fill
  intro dp un gd cn cs L a ccd cl outer base g p loose mean mg mb s Q E hcs hdp hun B X T hn hk hsz H ret
  refine wpAny_call ?_
  refine' enterXK (binds := [("length", .int len t1), ("things", .ref dt), ("deeds", .ref dd), ("is_forward", .bool fwd)]) X T hk hsz H ?k6 ?k7 ?k8 ?k9 ?kB ?_ ?c5 ?c2 ?c3 ?c4
  case k6 => k_is
  case k7 => k_is
  case k8 => (dsimp only [ktrTop]; omega)
  case k9 => exact BindsTo.of_eq rfl
  case kB => exact locs rfl
  case c5 => decide
  case c2 => exact rfl
  case c3 => exact rfl
  case c4 => exact rfl
  intro L' h₁ hL F N hlt
  repeat' ktr_rel
  rename Fr _ _ _ _ => F1
  rename News _ _ _ _ => N1
  have hlen : kt.length = ct.length := by rw [← hft.length, kdfD_length]
  refine items_N rfl F1 N1 (by k_mem) (by k_mem) hdt (by omega) ?_
  clear F1 N1
  rintro B1 c as tups h' tk F1 N1 l2 hla htl hpr
  repeat' ktr_rel
  refine dict_pairs_N (kvs := kt) rfl F1 N1 (modules_low T.nolimit) (by k_mem) hla (by omega) (let ⟨_, _, _, _, _, _, hn⟩ := hdt; hn)
    (fun j a ha => by obtain ⟨key, k, x, e1, e2, e3⟩ := hpr j a ha; exact ⟨key, k, x, e1, e2, List.mem_cons_of_mem _ (List.mem_append_right _ e3)⟩) ?_
  rintro S o h'' tk2 F2 N2 l3 loS bigS hd
  replace N2 : News g L' h'' [(S, o), (dt, ot), (dd, od)] := fun p hp => N2 p (by revert p; (repeat' (first | exact List.forall_mem_nil _ | (refine List.forall_mem_cons.mpr ⟨by first | ((repeat (first | exact List.Mem.head _ | refine List.Mem.tail _ ?_)); done) | k_mem, ?_⟩) | (refine List.forall_mem_append.mpr ⟨?_, ?_⟩))); all_goals (intro p hp; (repeat (refine List.Mem.tail _ ?_)); first | exact hp | exact List.mem_append_left _ hp | exact List.mem_append_right _ hp | exact List.mem_append_left _ (List.mem_append_left _ hp) | exact List.mem_append_left _ (List.mem_append_right _ hp) | (refine List.mem_append_left _ ?_; (repeat (refine List.Mem.tail _ ?_)); first | exact hp | exact List.mem_append_left _ hp | exact List.mem_append_right _ hp) | (refine List.mem_append_right _ ?_; (repeat (refine List.Mem.tail _ ?_)); first | exact hp | exact List.mem_append_left _ hp | exact List.mem_append_right _ hp)))
  have m1 := ltN (l3 (dt, ot) (by first | ((repeat (first | exact List.Mem.head _ | refine List.Mem.tail _ ?_)); done) | k_mem))
  have m2 := ltN (l3 (dd, od) (by first | ((repeat (first | exact List.Mem.head _ | refine List.Mem.tail _ ?_)); done) | k_mem))
  clear F1 N1 l3 hpr htl hla l2 N F
  repeat' ktr_rel
  refine For_invV g (by rfl) (by rfl) ?_
  repeat' ktr_rel
  rename Fr _ _ _ _ => F3
  rename News _ _ _ _ => N3
  refine iterR (n := len.toNat) (fun i m nw => ∃ (lm : Addr) (o : Obj) (kvs : List (Int × Value)) (c met : List (Int × Int)) (its : Array Value) (nn : Nat) (tups : Led),
      nw = (lm, listOf its nn) :: (S, o) :: (dt, ot) :: (dd, od) :: tups ∧ S < lm ∧ (∀ p ∈ tups, lm < p.1) ∧ o.IsDictOf (PySem.intKind PySem.Challenge.rw_nt0339_01.row.prog w) kvs ∧ FlatPairs PyData.int kvs (kdfD c) ∧ MetAt its.toList met tups ∧
      its.size ≤ i ∧ c.length ≤ 100 + i ∧ i ≤ len.toNat ∧ plainGo cd len fwd len.toNat 0 (ct, []) = plainGo cd len fwd (len.toNat - i) i (c, met) ∧
      m "things" = some (.ref S) ∧ m "met" = some (.ref lm) ∧ m "deeds" = some (.ref dd) ∧ m "length" = some (.int len t1) ∧ m "is_forward" = some (.bool fwd))
    rfl (by assumption) (small_one (by omega) (by omega) (by omega) (by omega)) (by rw [rangeSize_nat, Int.sub_zero]) F3 (fun p hp => N3 p (.tail _ hp))
    ⟨_, _, kt, ct, [], #[], 0, [], rfl, ltN (by omega), (fun _ hp => nomatch hp), hd, hft, trivial, Nat.le_refl _, by omega, Nat.zero_le _, rfl, rfl, rfl, rfl, rfl, rfl⟩ ?_ ?_
  · clear F3 N3
    rintro i ti m₁ nw h tk I oI hi ⟨lm, o, kvs, c, met, its, nn, tups, rfl, hSl, htl, hdo, hfo, hM, hz, hcl, _, hgo, e1, e2, e3, e4, e5⟩ hoff F N
    rw [Int.zero_add] at F
    rw [pin e1] at F
    rw [pin e2] at F
    rw [pin e3] at F
    rw [pin e4] at F
    rw [pin e5] at F
    have q1 := neN (hoff (S, o) (by first | ((repeat (first | exact List.Mem.head _ | refine List.Mem.tail _ ?_)); done) | k_mem))
    have q2 := neN (hoff (lm, listOf its nn) (by first | ((repeat (first | exact List.Mem.head _ | refine List.Mem.tail _ ?_)); done) | k_mem))
    have q3 := neN (hoff (dt, ot) (by first | ((repeat (first | exact List.Mem.head _ | refine List.Mem.tail _ ?_)); done) | k_mem))
    have q4 := neN (hoff (dd, od) (by first | ((repeat (first | exact List.Mem.head _ | refine List.Mem.tail _ ?_)); done) | k_mem))
    have q5 : ∀ p ∈ tups, p.1 ≠ lm := fun p hp => Nat.ne_of_gt (htl p hp)
    have q6 : ∀ p ∈ tups, p.1 ≠ S := fun p hp => Nat.ne_of_gt (Nat.lt_trans hSl (htl p hp))
    have hsz : its.size ≤ 1000 := by omega
    have q7 := ltN hSl
    repeat' ((fail_if_success (with_reducible show wpAny _ _ (exec (Stmt.Assign _ _ _) _) _ _ _)); k_data)
    rename Fr _ _ _ _ => F5
    rename News _ _ _ _ => N5
    refine wpAny_mono (Q := PlainMid { s with heap := h, toks := tk } g L' S lm dd len t1 fwd i ((I, oI) :: (lm, listOf its nn) :: (S, o) :: (dt, ot) :: (dd, od) :: tups)) ?_ ?_ (fun _ _ h => h)
    · cases fwd with
      | true =>
        repeat' ktr_rel
        rename Fr _ _ _ _ => F6
        rename News _ _ _ _ => N6
        unfold PlainMid
        exact ⟨rfl, _, _, _, _, _, rfl, F6, N6, rfl, (atF_in hi).1, (atF_in hi).2, rfl, rfl, rfl, rfl, rfl, rfl⟩
      | false =>
        repeat' ktr_rel
        rename Fr _ _ _ _ => F6
        rename News _ _ _ _ => N6
        unfold PlainMid
        exact ⟨rfl, _, _, _, _, _, rfl, F6, N6, rfl, (atF_in hi).1, (atF_in hi).2, rfl, rfl, rfl, rfl, rfl, rfl⟩
    clear F5 N5
    rintro _ _ ⟨rfl, h7, tk7, z, tz, m7, rfl, F7, N7, ha, z1, z2, k1, k2, k3, k4, k5, k6⟩
    rw [pin k1] at F7
    rw [pin k2] at F7
    rw [pin k3] at F7
    rw [pin k4] at F7
    rw [pin k5] at F7
    rw [pin k6] at F7
    clear k1 k2 k3 k4 k5 k6
    dsimp only
    repeat' k_data
    · have hhas : kdfHas c z = true := by assumption
      rename Fr _ _ _ _ => F4
      rename News _ _ _ _ => N4
      refine kup_newTuple F4 N4 ?_ (by kmk_size)
      clear N4
      intro D h4 F4 N4 l1
      k_lt l1
      repeat' ktr_rel
      refine append_K F4 N4 (by k_upd) ?_ (by rw [sizeLine_eq]; omega)
      clear N4
      intro h4 F4 N4
      have htl' : ∀ q : Obj, ∀ p ∈ (D, q) :: tups, @LT.lt Nat _ lm p.1 := fun q => List.forall_mem_cons.mpr ⟨ltN (by omega), htl⟩
      repeat' ktr_rel
      · have hcdh : kdfHas cd z = true := by assumption
        refine Spec.use (do_spec w hdo hfo loS (by omega) _ len _ t1 hl0 hl1) ((D, _) :: (I, oI) :: (lm, _) :: (dt, ot) :: (dd, od) :: tups) B F4 X N4 T rfl (List.forall_mem_singleton.mpr (by k_mem))
          (oth1 (List.Mem.head _) (by k_ne) <| oth1 (by k_mem) (by k_ne) <| oth1 (by k_mem) (by k_ne) <| oth1 (by k_mem) (by k_ne) <| oth1 (by k_mem) (by k_ne) <| oth1t (fun p hp => by (repeat (refine List.Mem.tail _ ?_)); first | exact hp | exact List.mem_append_left _ hp | exact List.mem_append_right _ hp | exact List.mem_append_left _ (List.mem_append_left _ hp) | exact List.mem_append_left _ (List.mem_append_right _ hp) | (refine List.mem_append_left _ ?_; (repeat (refine List.Mem.tail _ ?_)); first | exact hp | exact List.mem_append_left _ hp | exact List.mem_append_right _ hp) | (refine List.mem_append_right _ ?_; (repeat (refine List.Mem.tail _ ?_)); first | exact hp | exact List.mem_append_left _ hp | exact List.mem_append_right _ hp)) q6) (fun _ _ _ _ => trivial) (by dsimp only [ktrTop, Around.deeper]; omega) (by dsimp only [ktrTop, Around.deeper]; omega) ?_
        clear N4
        rintro h5 tk5 v ps' ⟨rfl, o5, rfl, kvs5, hd5, hf5⟩ F5 N5 _ _ _
        simp only [List.cons_append, List.nil_append] at N5
        repeat' ktr_rel
        · have hB : doB (kdfLook cd z 0) = true := by assumption
          have hend := hgo.trans (go_hit ha hi hhas (by rw [visF_has hcdh, hB]))
          rw [hend] at ret
          rename Fr _ _ _ _ => F6
          rename News _ _ _ _ => N6
          refine fin (s := s) ret (ps' := (dt, ot) :: (dd, od) :: _) F6 N6 hL
            (List.forall_mem_cons.mpr ⟨by k_mem, List.forall_mem_cons.mpr ⟨by k_mem, fun p hp => hp⟩⟩)
            ⟨_, rfl, readable_snoc (w := w) (T := tups) (by k_mem) (by k_mem) (by k_mem) (by k_mem) hM (fun p hp => by (repeat (refine List.Mem.tail _ ?_)); first | exact hp | exact List.mem_append_left _ hp | exact List.mem_append_right _ hp | exact List.mem_append_left _ (List.mem_append_left _ hp) | exact List.mem_append_left _ (List.mem_append_right _ hp) | (refine List.mem_append_left _ ?_; (repeat (refine List.Mem.tail _ ?_)); first | exact hp | exact List.mem_append_left _ hp | exact List.mem_append_right _ hp) | (refine List.mem_append_right _ ?_; (repeat (refine List.Mem.tail _ ?_)); first | exact hp | exact List.mem_append_left _ hp | exact List.mem_append_right _ hp)) hd5 hf5 ⟨_, rfl⟩ bigS (Nat.lt_trans bigS hSl)⟩
        · have hB : doB (kdfLook cd z 0) = false := by assumption
          have hend := hgo.trans (go_on ha hi hhas (by rw [visF_has hcdh, hB]))
          rename Fr _ _ _ _ => F6
          rename News _ _ _ _ => N6
          refine TurnE.next (lm := lm) (S := S) (dt := dt) (dd := dd) (D := D) (tups := tups) F6 N6 (by k_mem) (by k_mem) (by k_mem) (by k_mem) (by k_mem) (by k_mem) (fun p hp => by (repeat (refine List.Mem.tail _ ?_)); first | exact hp | exact List.mem_append_left _ hp | exact List.mem_append_right _ hp | exact List.mem_append_left _ (List.mem_append_left _ hp) | exact List.mem_append_left _ (List.mem_append_right _ hp) | (refine List.mem_append_left _ ?_; (repeat (refine List.Mem.tail _ ?_)); first | exact hp | exact List.mem_append_left _ hp | exact List.mem_append_right _ hp) | (refine List.mem_append_right _ ?_; (repeat (refine List.Mem.tail _ ?_)); first | exact hp | exact List.mem_append_left _ hp | exact List.mem_append_right _ hp)) q2 q1 q3 q4 (by k_ne) (fun p hp => hoff p (by (repeat (refine List.Mem.tail _ ?_)); first | exact hp | exact List.mem_append_left _ hp | exact List.mem_append_right _ hp | exact List.mem_append_left _ (List.mem_append_left _ hp) | exact List.mem_append_left _ (List.mem_append_right _ hp) | (refine List.mem_append_left _ ?_; (repeat (refine List.Mem.tail _ ?_)); first | exact hp | exact List.mem_append_left _ hp | exact List.mem_append_right _ hp) | (refine List.mem_append_right _ ?_; (repeat (refine List.Mem.tail _ ?_)); first | exact hp | exact List.mem_append_left _ hp | exact List.mem_append_right _ hp))) ?_
          exact ⟨lm, o5, kvs5, _, _, _, _, _, rfl, hSl, htl' _, hd5, hf5, (by rw [Array.toList_push]; exact (hM.mono (fun p hp => List.mem_cons_of_mem _ hp)).snoc (List.Mem.head _)), (by rw [Array.size_push]; omega), Nat.le_trans (doC_len _ _ _) (by omega), hi, hend, rfl, rfl, rfl, rfl, rfl⟩
      · have hcdh : kdfHas cd z = false := by assumption
        have hend := hgo.trans (go_on ha hi hhas (visF_not hcdh))
        rename Fr _ _ _ _ => F6
        rename News _ _ _ _ => N6
        refine TurnE.next (lm := lm) (S := S) (dt := dt) (dd := dd) (D := D) (tups := tups) F6 N6 (by k_mem) (by k_mem) (by k_mem) (by k_mem) (by k_mem) (by k_mem) (fun p hp => by (repeat (refine List.Mem.tail _ ?_)); first | exact hp | exact List.mem_append_left _ hp | exact List.mem_append_right _ hp | exact List.mem_append_left _ (List.mem_append_left _ hp) | exact List.mem_append_left _ (List.mem_append_right _ hp) | (refine List.mem_append_left _ ?_; (repeat (refine List.Mem.tail _ ?_)); first | exact hp | exact List.mem_append_left _ hp | exact List.mem_append_right _ hp) | (refine List.mem_append_right _ ?_; (repeat (refine List.Mem.tail _ ?_)); first | exact hp | exact List.mem_append_left _ hp | exact List.mem_append_right _ hp)) q2 q1 q3 q4 (by k_ne) (fun p hp => hoff p (by (repeat (refine List.Mem.tail _ ?_)); first | exact hp | exact List.mem_append_left _ hp | exact List.mem_append_right _ hp | exact List.mem_append_left _ (List.mem_append_left _ hp) | exact List.mem_append_left _ (List.mem_append_right _ hp) | (refine List.mem_append_left _ ?_; (repeat (refine List.Mem.tail _ ?_)); first | exact hp | exact List.mem_append_left _ hp | exact List.mem_append_right _ hp) | (refine List.mem_append_right _ ?_; (repeat (refine List.Mem.tail _ ?_)); first | exact hp | exact List.mem_append_left _ hp | exact List.mem_append_right _ hp))) ?_
        exact ⟨lm, o, kvs, c, _, _, _, _, rfl, hSl, htl' _, hdo, hfo, (by rw [Array.toList_push]; exact (hM.mono (fun p hp => List.mem_cons_of_mem _ hp)).snoc (List.Mem.head _)), (by rw [Array.size_push]; omega), (by omega), hi, hend, rfl, rfl, rfl, rfl, rfl⟩
    · have hhas : kdfHas c z = false := by assumption
      have hend := hgo.trans (go_skip ha hi hhas)
      rename Fr _ _ _ _ => F6
      rename News _ _ _ _ => N6
      exact ⟨_, _, _, (lm, listOf its nn) :: (S, o) :: (dt, ot) :: (dd, od) :: tups, rfl, F6, N6, hoff, lm, o, kvs, c, met, its, nn, tups, rfl, hSl, htl, hdo, hfo, hM, by omega, by omega, hi, hend, rfl, rfl, rfl, rfl, rfl⟩
  · clear F3 N3
    rintro m₁ nw h tk ⟨lm, o, kvs, c, met, its, nn, tups, rfl, hSl, htl, hdo, hfo, hM, hz, hcl, _, hgo, e1, e2, e3, e4, e5⟩ F N
    rw [pin e1] at F
    rw [pin e2] at F
    repeat' ktr_rel
    rw [Nat.sub_self] at hgo
    rw [hgo] at ret
    rename Fr _ _ _ _ => F6
    rename News _ _ _ _ => N6
    refine fin (s := s) ret (ps' := (dt, ot) :: (dd, od) :: (_ :: (lm, listOf its nn) :: (S, o) :: tups)) F6 N6 hL
      (List.forall_mem_cons.mpr ⟨by k_mem, List.forall_mem_cons.mpr ⟨by k_mem, List.forall_mem_cons.mpr ⟨List.Mem.head _, List.forall_mem_cons.mpr ⟨by k_mem, List.forall_mem_cons.mpr ⟨by k_mem, fun p hp => by (repeat (refine List.Mem.tail _ ?_)); first | exact hp | exact List.mem_append_left _ hp | exact List.mem_append_right _ hp | exact List.mem_append_left _ (List.mem_append_left _ hp) | exact List.mem_append_left _ (List.mem_append_right _ hp) | (refine List.mem_append_left _ ?_; (repeat (refine List.Mem.tail _ ?_)); first | exact hp | exact List.mem_append_left _ hp | exact List.mem_append_right _ hp) | (refine List.mem_append_right _ ?_; (repeat (refine List.Mem.tail _ ?_)); first | exact hp | exact List.mem_append_left _ hp | exact List.mem_append_right _ hp)⟩⟩⟩⟩⟩)
      ⟨_, rfl, readable_out (w := w) (T := tups) (by k_mem) (by k_mem) (by k_mem) hM (fun p hp => by (repeat (refine List.Mem.tail _ ?_)); first | exact hp | exact List.mem_append_left _ hp | exact List.mem_append_right _ hp | exact List.mem_append_left _ (List.mem_append_left _ hp) | exact List.mem_append_left _ (List.mem_append_right _ hp) | (refine List.mem_append_left _ ?_; (repeat (refine List.Mem.tail _ ?_)); first | exact hp | exact List.mem_append_left _ hp | exact List.mem_append_right _ hp) | (refine List.mem_append_right _ ?_; (repeat (refine List.Mem.tail _ ?_)); first | exact hp | exact List.mem_append_left _ hp | exact List.mem_append_right _ hp)) hdo hfo rfl bigS (Nat.lt_trans bigS hSl)⟩
end
end Mine
end

/-! Nest -/
section
namespace Mine
open PySem PySem.W PySem.Spec PySem.Calls PyProof.Rows PyProof.V
set_option maxRecDepth 100000

def CodeIn (codes : Led) (c : Addr) (q : Str) : Prop := ∃ oc vs t, (c, oc) ∈ codes ∧ oc.data = .fields vs ∧ vs[1]? = some (.str q t)
theorem CodeIn.mono {codes codes' : Led} {c : Addr} {q : Str} (h : CodeIn codes c q) (k : ∀ p ∈ codes, p ∈ codes') : CodeIn codes' c q :=
  let ⟨oc, vs, t, m, r⟩ := h; ⟨oc, vs, t, k _ m, r⟩
theorem CodeIn.rec {codes : Led} {c : Addr} {q : Str} {h : Heap} (x : CodeIn codes c q) (k : ∀ p ∈ codes, h.get? p.1 = some p.2) : h.CodeRec (.ref c) q :=
  let ⟨oc, vs, t, m, r1, r2⟩ := x; ⟨c, oc, vs, t, rfl, k _ m, r1, r2⟩
/-- a code table whose entries' code objects stand in codes, each named as QT says of its place -/
def TabInv (QT : Nat → Nat → Option Str) (ps : Array Value) (codes : Led) : Prop :=
  TriplesOk ps.toList ∧ ∀ (pos : Pos) (v : Value), codeAmong pos ps.toList = some v → ∃ c q, v = .ref c ∧ CodeIn codes c q ∧ QT pos.line pos.col = some q

theorem codeAmong_split {pos a : Pos} {c v : Value} (l : List Value) (h : TriplesOk l) (hv : codeAmong pos (l ++ [rawInt a.line, rawInt a.col, c]) = some v) : codeAmong pos l = some v ∨ (a.line = pos.line ∧ a.col = pos.col ∧ v = c) := by
  fun_induction TriplesOk l with
  | case1 =>
    simp only [List.nil_append, codeAmong, rawInt] at hv
    split at hv
    · rename_i hc
      simp only [Bool.and_eq_true, beq_iff_eq] at hc
      exact .inr ⟨by omega, by omega, (Option.some.inj hv).symm⟩
    · cases hv
  | case2 x t y u z rest ih =>
    simp only [List.cons_append, codeAmong] at hv ⊢
    split at hv
    · rename_i hc; rw [if_pos hc]; exact .inl hv
    · rename_i hc; rw [if_neg hc]; exact ih h hv
  | case3 l h1 h2 => exact h.elim

theorem TabInv.snoc {QT : Nat → Nat → Option Str} {ps : Array Value} {codes : Led} {pos : Pos} {c : Addr} {oc : Obj} {vs : Array Value} {q : Str} {t : Tok} (x : TabInv QT ps codes) (h1 : oc.data = .fields vs) (h2 : vs[1]? = some (.str q t)) (hq : QT pos.line pos.col = some q) :
    TabInv QT (ps ++ #[rawInt pos.line, rawInt pos.col, .ref c]) ((c, oc) :: codes) := by
  have e : (ps ++ #[rawInt pos.line, rawInt pos.col, .ref c]).toList = ps.toList ++ [rawInt pos.line, rawInt pos.col, .ref c] := by simp
  refine ⟨by rw [e]; exact TriplesOk_snoc _ _ _ _ x.1, fun pos' v hv => ?_⟩
  rw [e] at hv
  rcases codeAmong_split _ x.1 hv with hv | ⟨e1, e2, rfl⟩
  · obtain ⟨c', q', e3, e4, e5⟩ := x.2 pos' v hv
    exact ⟨c', q', e3, e4.mono fun p hp => List.mem_cons_of_mem _ hp, e5⟩
  · exact ⟨c, q, rfl, ⟨oc, vs, t, .head _, h1, h2⟩, by rw [← e1, ← e2]; exact hq⟩

section
variable {M : Model} {A : Around} {E : Value → Shared → Prop} {s : Shared} {h₀ : Heap} {L a c P : Addr} {m mg mb : Str → Option Value} {cn : Str} {cs : Scope} {ccd : Value} {cl : List (Str × Addr)} {hd codes : Led} {g : Obj → Led}
  {p : Program} {loose : List Str} {mean : ExcName → Option Value} {name qual : Str} {params : Arguments} {scope : Scope} {ps : Array Value} {pos : Pos} {firstLine : Nat} {clos : List (Str × Addr)} {QT : Nat → Nat → Option Str}

theorem updF_app {d : Addr} {o : Obj} {l : Led} {g : Obj → Led} (U : UpdF d o l g) {codes : Led} (h : ∀ p ∈ codes, p.1 ≠ d) : UpdF d o (l ++ codes) (fun o' => g o' ++ codes) := by
  induction U with
  | head h1 => exact .head fun p hp => (List.mem_append.mp hp).elim (h1 p) (h p)
  | tail h1 _ ih => exact .tail h1 ih

theorem updF_mem {d : Addr} {o : Obj} {l : Led} {g : Obj → Led} (U : UpdF d o l g) : (d, o) ∈ l := by
  induction U with
  | head _ => exact .head _
  | tail _ _ ih => exact .tail _ ih
theorem updF_self {d : Addr} {o : Obj} {l : Led} {g : Obj → Led} (U : UpdF d o l g) : g o = l := by
  induction U with
  | head _ => rfl
  | tail _ _ ih => simp only [ih]

theorem nestAny {body : List Stmt} {Q : Value → Shared → Prop} (F : Fr h₀ L s.heap m) (N : News h₀ L s.heap (hd ++ codes)) (T : Top p loose mean mg mb h₀) (C : CodeHd h₀ c P) (hcd : ccd = .ref c) (U : UpdF P (tabObj ps) hd g) (hPc : ∀ p ∈ codes, p.1 ≠ P) (TI : TabInv QT ps codes)
    (hq : QT pos.line pos.col = some qual) (hcl : closureFor scope (envX cn cs L a ccd cl) = pure clos)
    (h : ∀ (f c' : Nat) ctv doc h' tk ps' codes', Fr h₀ L h' m → News h₀ L h' ((f, fnMade name qual params body scope clos doc ((mg "__name__").getD .none) c' ctv) :: (g (tabObj ps') ++ codes')) → TabInv QT ps' codes' → (∀ p ∈ codes, p ∈ codes') → CodeIn codes' c' qual →
      (∀ q ∈ hd ++ codes, q.1 < f) → (∀ q ∈ codes', q.1 < f ∧ (q ∈ codes ∨ ∀ r ∈ hd ++ codes, r.1 < q.1)) → Q (.ref f) { s with heap := h', toks := tk }) :
    wpAny M A (makeFunction name qual params (.stmts body) scope (envX cn cs L a ccd cl) [] [] [] pos firstLine) Q E s := by
  have hmem := updF_mem U
  cases hc : codeAmong pos ps.toList with
  | none =>
    refine nest_K F N T C hcd (updF_app U hPc) TI.1 hc hcl fun f c' oc vs t ctv doc h' tk F' N' d1 d2 l1 l2 => ?_
    refine h f c' ctv doc h' tk _ ((c', oc) :: codes) F' (fun q hq' => N' q ?_) (TI.snoc d1 d2 hq) (fun q hq' => List.mem_cons_of_mem _ hq') ⟨oc, vs, t, .head _, d1, d2⟩ (fun q hq' => Nat.lt_trans (l1 q hq') l2) (fun q hq' => ?_)
    · simp only [List.mem_cons, List.mem_append] at hq' ⊢
      rcases hq' with h1 | h1 | h1 | h1
      · exact .inl h1
      · exact .inr (.inr (.inl h1))
      · exact .inr (.inl h1)
      · exact .inr (.inr (.inr h1))
    · rcases List.mem_cons.mp hq' with rfl | hq'
      · exact ⟨l2, .inr l1⟩
      · exact ⟨Nat.lt_trans (l1 q (List.mem_append_right _ hq')) l2, .inl hq'⟩
  | some v =>
    obtain ⟨c', q, rfl, hin, hq2⟩ := TI.2 pos v hc
    obtain rfl : q = qual := Option.some.inj (hq2.symm.trans hq)
    refine nestHit_K F N T C hcd (List.mem_append_left _ hmem) TI.1 hc hcl fun f ctv doc h' tk F' N' l1 => ?_
    refine h f c' ctv doc h' tk ps codes F' (by rw [updF_self U]; exact N') TI (fun q hq' => hq') hin l1 (fun q hq' => ⟨l1 q (List.mem_append_right _ hq'), .inl hq'⟩)

theorem lamAny {body : Expr} {Q : Value → Shared → Prop} (F : Fr h₀ L s.heap m) (N : News h₀ L s.heap (hd ++ codes)) (T : Top p loose mean mg mb h₀) (C : CodeHd h₀ c P) (hcd : ccd = .ref c) (U : UpdF P (tabObj ps) hd g) (hPc : ∀ p ∈ codes, p.1 ≠ P) (TI : TabInv QT ps codes)
    (hq : QT pos.line pos.col = some qual) (hcl : closureFor scope (envX cn cs L a ccd cl) = pure clos)
    (h : ∀ (f c' : Nat) ctv h' tk ps' codes', Fr h₀ L h' m → News h₀ L h' ((f, kla_obj name qual params body scope clos ((mg "__name__").getD .none) c' ctv) :: (g (tabObj ps') ++ codes')) → TabInv QT ps' codes' → (∀ p ∈ codes, p ∈ codes') → CodeIn codes' c' qual →
      (∀ q ∈ hd ++ codes, q.1 < f) → (∀ q ∈ codes', q.1 < f ∧ (q ∈ codes ∨ ∀ r ∈ hd ++ codes, r.1 < q.1)) → Q (.ref f) { s with heap := h', toks := tk }) :
    wpAny M A (makeFunction name qual params (.expr body) scope (envX cn cs L a ccd cl) [] [] [] pos firstLine) Q E s := by
  have hmem := updF_mem U
  cases hc : codeAmong pos ps.toList with
  | none =>
    refine kla_nest F N T C hcd (updF_app U hPc) TI.1 hc hcl fun f c' oc vs t ctv h' tk F' N' d1 d2 l1 l2 => ?_
    refine h f c' ctv h' tk _ ((c', oc) :: codes) F' (fun q hq' => N' q ?_) (TI.snoc d1 d2 hq) (fun q hq' => List.mem_cons_of_mem _ hq') ⟨oc, vs, t, .head _, d1, d2⟩ (fun q hq' => Nat.lt_trans (l1 q hq') l2) (fun q hq' => ?_)
    · simp only [List.mem_cons, List.mem_append] at hq' ⊢
      rcases hq' with h1 | h1 | h1 | h1
      · exact .inl h1
      · exact .inr (.inr (.inl h1))
      · exact .inr (.inl h1)
      · exact .inr (.inr (.inr h1))
    · rcases List.mem_cons.mp hq' with rfl | hq'
      · exact ⟨l2, .inr l1⟩
      · exact ⟨Nat.lt_trans (l1 q (List.mem_append_right _ hq')) l2, .inl hq'⟩
  | some v =>
    obtain ⟨c', q, rfl, hin, hq2⟩ := TI.2 pos v hc
    obtain rfl : q = qual := Option.some.inj (hq2.symm.trans hq)
    refine kla_hit F N T C hcd (List.mem_append_left _ hmem) TI.1 hc hcl fun f ctv h' tk F' N' l1 => ?_
    refine h f c' ctv h' tk ps codes F' (by rw [updF_self U]; exact N') TI (fun q hq' => hq') hin l1 (fun q hq' => ⟨l1 q (List.mem_append_right _ hq'), .inl hq'⟩)

/-- a free name whose cell stands in the base -/
theorem nameX_FG {x : Str} {v : Value} {o : Obj} {cc : Addr} {Q : Value → Shared → Prop} (F : Fr h₀ L s.heap m) (hc : cl.lookup x = some cc) (ho : h₀.get? cc = some o) (hd : o.data = .cell (some v)) (h : Q v s)
    (hk : cs.kind = .function := by rfl) (hx : (envX cn cs L a ccd cl).kindOf x = some .free := by rfl) (hb : (x == ("__debug__" : Str)) = false := by decide) (hn : (x == ("__classdict__" : Str)) = false := by decide) :
    wpAny M A (eval (.Name x pos) (envX cn cs L a ccd cl)) Q E s := wpAny_Name (wpAny_loadName_free hk hx hc ⟨o, F.keep _ _ ho, hd⟩ h hn) hb
end

theorem news_obj {g h : Heap} {L a : Addr} {l : Led} {o : Obj} (_ : News g L h l) (m : (a, o) ∈ l) : ∃ o', o' = o ∧ (a, o') ∈ l := ⟨o, rfl, m⟩
end Mine
end

/-! CompD -/
section
namespace Mine
open PySem PySem.W PySem.Spec PySem.Calls PyProof.Rows PyProof.V PyProof.Rows.LCt PyProof.Rows.LCg
set_option maxRecDepth 100000
set_option maxHeartbeats 8000000

section
variable {M : Model} {A : Around} {E : Value → Shared → Prop} {s : Shared} {h₀ : Heap} {L C cc : Addr} {m : Str → Option Value} {scope : Scope} {cl : List (Str × Addr)} {env : Env} {x : Str} {pos : Pos} {v : Value} {o : Obj} {Q : Value → Shared → Prop}
/-- a free name in a comprehension's block whose cell stands in the base -/
theorem nameC_FG (F : Fr h₀ L s.heap m) (hc : cl.lookup x = some cc) (ho : h₀.get? cc = some o) (hd : o.data = .cell (some v)) (h : Q v s)
    (hk : (compEnvC scope cl C env).scope.kind = .function := by rfl) (hx : (compEnvC scope cl C env).kindOf x = some .free := by rfl) (hb : (x == ("__debug__" : Str)) = false := by decide) (hn : (x == ("__classdict__" : Str)) = false := by decide) :
    wpAny M A (eval (.Name x pos) (compEnvC scope cl C env)) Q E s := wpAny_Name (wpAny_loadName_free hk hx hc ⟨o, F.keep _ _ ho, hd⟩ h hn) hb
end
section
variable {prog : Program} {w : World} {A : Around} {E : Value → Shared → Prop} {s : Shared} {h₀ : Heap} {L : Addr} {m : Str → Option Value} {env : Env} {K : Type} [DecidableEq K] {knd : KeyKind prog w K}

def SrcD (knd : KeyKind prog w K) (A : Around) (h₀ : Heap) (L : Addr) (m : Str → Option Value) (env : Env) (ct elt : Expr) (x : Str) (scope : Scope) (cl : List (Str × Addr)) (Fin : Shared → List Value → Led → Prop) (xv : Value) (s₁ : Shared) : Prop :=
  ∃ (d : Addr) (od : Obj) (kvs : List (K × Value)) (news : Led), xv = .ref d ∧ A.handled = none ∧ Fr h₀ L s₁.heap m ∧ News h₀ L s₁.heap news ∧ (d, od) ∈ news ∧ (d == sysModules) = false ∧ od.IsDictOf knd kvs ∧ kvs.length ≤ sizeLine ∧
    ∀ s₂ : Shared, (∃ h, s₂ = { s₁ with heap := h }) → CompRestT prog w A h₀ L m env ct elt x scope cl s₂ (fun nw => (d, od) ∈ nw) (fun i v => ∃ k y, kvs[i]? = some (k, y) ∧ knd.is k v = true) (Fin s₂) kvs.length 0 [] news

theorem dict_st {d I : Addr} {od : Obj} {kvs : List (K × Value)} {ep : Nat} (hat : KdkAt knd od kvs ep) : ∀ i (h h' : Heap) (o : Obj) (nw : Led), (h.IsKeyIter I d i kvs.length ep ∧ h.DictAt knd d kvs ep) → h.get? I = some o → h'.get? I = some o → (∀ b o, h₀.get? b = some o → h'.get? b = some o) → News h₀ L h' nw → (d, od) ∈ nw →
    (h'.IsKeyIter I d i kvs.length ep ∧ h'.DictAt knd d kvs ep) :=
  fun i h h' o nw st e e' _ N S => ⟨by obtain ⟨o', q, r⟩ := st.1; rw [e] at q; cases q; exact ⟨o, e', r⟩, hat.dictAt (N _ S).1⟩

theorem ListComp_D {ct elt iter : Expr} {x : Str} {px : Pos} {scope : Scope} {cl : List (Str × Addr)} {pos : Pos} {Q : Value → Shared → Prop}
    (hclos : closureFor scope env = pure cl) (hcell : ∀ y ∈ scope.names, y.2 ≠ .cell) (hkind : scope.kind = .function)
    (hnames : ∀ y ∈ scope.names, y.2 = .local → scope.names.lookup y.1 = some .local) (hx : scope.names.lookup x = some .local)
    (h : wpAny (model prog w) A (eval iter env) (SrcD knd A h₀ L m env ct elt x scope cl (fun s₂ => FinE h₀ L m s₂ Q)) E s)
    (hs : ∀ x, foldedSetIterable iter env x = pure x := by intro _; rfl) :
    wpAny (model prog w) A (eval (.ListComp elt [⟨.Name x px, iter, [ct], 0⟩] scope pos) env) Q E s := by
  rw [eval_ListComp]
  refine wpAny_comprehension_free (use := none) rfl hs hclos hkind hnames (wpAny_mono h (fun xv s₁ h₁ => ?_) fun _ _ e => e)
  obtain ⟨d, od, kvs, news, rfl, hh, F, N, hm, lo, hd, hsz, R⟩ := h₁
  obtain ⟨ep, hat⟩ := KdkAt.of hd
  have hA : s₁.heap.DictAt knd d kvs ep := hat.dictAt (N _ hm).1
  have hlt : d < s₁.heap.objs.size := Heap.lt_size (N _ hm).1
  refine wpAny_pyIter_dict lo hA ?_
  have up : ∀ b o, s₁.heap.get? b = some o → (s₁.heap.push { cls := .type "dict_keyiterator", data := .fields #[.ref d, .int 0 0, .int kvs.length 0, .int ep 0] }).get? b = some o := fun b o e => Heap.get?_push_of_some _ e
  refine block_T (Walks.dictKeys (knd := knd) hh s₁.heap.objs.size d (Nat.ne_of_lt hlt) kvs ep) hsz (fun i h st => by obtain ⟨o, e, _⟩ := st.1; exact ⟨o, e⟩) (dict_st hat) hcell hkind hx ⟨⟨_, Heap.get?_push_size _ rfl, rfl, rfl⟩, hA.at' fun o e => up _ _ e⟩ (fun b hb => ?_)
    (F.keeps up) (N.grown up) (Nat.ne_of_lt F.ns.lt) (next_is_new F) (fun p hp => Nat.ne_of_lt (Heap.lt_size (N p hp).1)) hm (R _ ⟨_, rfl⟩) ?_
  · show b < (s₁.heap.push _).objs.size
    rw [Heap.size_push]
    rcases List.mem_cons.mp hb with rfl | hb
    · exact Nat.lt_succ_self _
    · rw [List.mem_singleton.mp hb]; exact Nat.lt_succ_of_lt hlt
  · intro D C h tk m' ys news' F' N' o1 hn hC₀ hD₀ hCL hDL hCD offC fin
    refine ⟨m', hn, fun h'' hs'' => fin D h'' tk (F'.change hs'' hCL hC₀) (fun p hp => ?_) o1⟩
    refine ⟨hs''.extBut _ _ ?_ (N' p hp).1, (N' p hp).2⟩
    rcases List.mem_cons.mp hp with rfl | hp
    · exact Ne.symm hCD
    · exact offC p hp

theorem rest_filter {ct elt : Expr} {x : Str} {scope : Scope} {cl : List (Str × Addr)} {s₂ : Shared} {S : Led → Prop} {Fin : List Value → Led → Prop} {kvs : List (Int × Value)} {news : Led} (test : Int → Bool) (hS : S news)
    (hct : ∀ (k : Int) (t : Tok) I oI C oC D m₂ h tk ys (P : Bool → Shared → Prop) (E' : Value → Shared → Prop), NsObj oC m₂ → m₂ x = some (.int k t) → Fr h₀ L h m → News h₀ L h ((I, oI) :: (C, oC) :: (D, lst ys) :: news) → (∀ tk', P (test k) { s₂ with heap := h, toks := tk' }) →
      wpAny (model prog w) A (isTrue ct (compEnvC scope cl C env) (eval ct (compEnvC scope cl C env))) P E' { s₂ with heap := h, toks := tk })
    (hel : ∀ (k : Int) (t : Tok) I oI C oC D m₂ h tk ys (P : Value → Shared → Prop) (E' : Value → Shared → Prop), NsObj oC m₂ → m₂ x = some (.int k t) → Fr h₀ L h m → News h₀ L h ((I, oI) :: (C, oC) :: (D, lst ys) :: news) → (∀ tk', P (.int k t) { s₂ with heap := h, toks := tk' }) →
      wpAny (model prog w) A (eval elt (compEnvC scope cl C env)) P E' { s₂ with heap := h, toks := tk })
    (fin : ∀ ys, IntsAre ys ((kvs.map (·.1)).filter test) → Fin ys news) :
    ∀ (k i : Nat) (ys : List Value), k + i = kvs.length → IntsAre ys (((kvs.take i).map (·.1)).filter test) →
      CompRestT prog w A h₀ L m env ct elt x scope cl s₂ S (fun i v => ∃ k y, kvs[i]? = some (k, y) ∧ (PySem.intKind prog w).is k v = true) Fin k i ys news := by
  intro k
  induction k with
  | zero =>
    intro i ys hk hy
    have : i = kvs.length := by omega
    subst this
    rw [List.take_length] at hy
    exact CompRestT.zero (fin ys hy)
  | succ k ih =>
    intro i ys hk hy
    refine CompRestT.succ ?_
    rintro v I oI C oC D m₂ h tk E' ⟨key, y, hkv, hkey⟩ hC hx F N off ne
    obtain ⟨t, rfl⟩ := Value.isInt_shape hkey
    have hs : ((kvs.take (i + 1)).map (·.1)).filter test = ((kvs.take i).map (·.1)).filter test ++ (if test key = true then [key] else []) := by
      rw [List.take_add_one, hkv]
      simp only [Option.toList_some, List.map_append, List.map_cons, List.map_nil, List.filter_append]
      congr 1
      by_cases ht : test key = true
      · rw [if_pos ht]; simp [ht]
      · rw [if_neg ht]; simp [ht]
    refine hct key t I oI C oC D m₂ h tk ys _ E' hC hx F N fun tk' => ?_
    by_cases ht : test key = true
    · rw [if_pos ht]
      rw [if_pos ht] at hs
      refine hel key t I oI C oC D m₂ h tk' ys _ E' hC hx F N fun tk'' => ?_
      exact ⟨h, tk'', news, rfl, F, N, off, hS, ih (i + 1) _ (by omega) (by rw [hs]; exact hy.append (.cons _ _ .nil))⟩
    · rw [if_neg ht]
      rw [if_neg ht] at hs
      exact ⟨h, tk', news, rfl, F, N, off, hS, ih (i + 1) _ (by omega) (by rw [hs, List.append_nil]; exact hy)⟩
end
end Mine
end

/-! Walked -/
section
namespace Mine
open PySem PySem.W PySem.Spec PySem.Calls PyProof.Rows PyProof.V
set_option maxRecDepth 100000
set_option maxHeartbeats 8000000

def QTw (l c : Nat) : Option Str := if c = 4 then (if l = 75 then some "_law_walked.<locals>.visit" else if l = 79 then some "_law_walked.<locals>.first_from" else if l = 82 then some "_law_walked.<locals>.last_to" else none) else none
def nxF (fwd : Bool) (len : Int) (x : St) (i : Int) : Option Int := if fwd then leastF (x.1.map (·.1)) i len else greatF ((x.1.map (·.1)).filter fun p => decide (p < len)) i

theorem leastF_mem {ns : List Int} {a e i : Int} (h : leastF ns a e = some i) : i ∈ ns := by
  have key : ∀ (ns : List Int) (f : Option Int), ns.foldl (leastStep a e) f = some i → f = some i ∨ i ∈ ns := by
    intro ns
    induction ns with
    | nil => intro f h; exact .inl h
    | cons p ns ih =>
      intro f h
      rcases ih _ h with h | h
      · unfold leastStep at h
        split at h
        · exact .inr (by rw [Option.some.inj h]; exact List.mem_cons_self)
        · exact .inl h
      · exact .inr (List.mem_cons_of_mem _ h)
  rcases key ns none h with h | h
  · cases h
  · exact h
theorem greatF_mem {ns : List Int} {a i : Int} (h : greatF ns a = some i) : i ∈ ns := by
  have key : ∀ (ns : List Int) (f : Option Int), ns.foldl (greatStep a) f = some i → f = some i ∨ i ∈ ns := by
    intro ns
    induction ns with
    | nil => intro f h; exact .inl h
    | cons p ns ih =>
      intro f h
      rcases ih _ h with h | h
      · unfold greatStep at h
        split at h
        · exact .inr (by rw [Option.some.inj h]; exact List.mem_cons_self)
        · exact .inl h
      · exact .inr (List.mem_cons_of_mem _ h)
  rcases key ns none h with h | h
  · cases h
  · exact h
theorem kdfHas_of_mem {c : List (Int × Int)} {i : Int} (h : i ∈ c.map (·.1)) : kdfHas c i = true := by
  obtain ⟨p, hp, rfl⟩ := List.mem_map.mp h
  unfold kdfHas
  exact List.any_eq_true.mpr ⟨p, hp, decide_eq_true rfl⟩
theorem nxF_has {fwd : Bool} {len : Int} {x : St} {j i : Int} (h : nxF fwd len x j = some i) : kdfHas x.1 i = true := by
  unfold nxF at h
  split at h
  · exact kdfHas_of_mem (leastF_mem h)
  · exact kdfHas_of_mem ((List.mem_filter.mp (greatF_mem h)).1)

theorem vfin {g : Heap} {s : Shared} {Post : Nat → Value → Led → Prop} {Q : Value → Shared → Prop} {L' : Addr} {h' : Heap} {m' : Str → Option Value} {all tups : Led} {v : Value} {tk : Nat} {lm S dd D : Addr} {ol oS od oD : Obj}
    (ret : Ret g s Post Q) (F : Fr g L' h' m') (N : News g L' h' all) (hL : L' = s.heap.objs.size) (a2 : (lm, ol) ∈ all) (a3 : (S, oS) ∈ all) (a5 : (dd, od) ∈ all) (a6 : (D, oD) ∈ all) (a7 : ∀ p ∈ tups, p ∈ all)
    (P : Post s.heap.objs.size v ((lm, ol) :: (S, oS) :: (dd, od) :: (D, oD) :: tups)) : Q v { s with heap := h', toks := tk } :=
  fin (s := s) ret F N hL (List.forall_mem_cons.mpr ⟨a2, List.forall_mem_cons.mpr ⟨a3, List.forall_mem_cons.mpr ⟨a5, List.forall_mem_cons.mpr ⟨a6, a7⟩⟩⟩⟩) P

theorem flat_keys : ∀ {kvs : List (Int × Value)} {c : List (Int × Int)}, FlatPairs PyData.int kvs (kdfD c) → kvs.map (·.1) = c.map (·.1)
  | [], [], _ => rfl
  | _ :: _, [], h => nomatch h
  | [], _ :: _, h => nomatch h
  | (k, v) :: kvs, (a, b) :: c, h => by
    cases h with
    | cons hv hr => simp only [List.map_cons, flat_keys hr]

theorem oth3 {q : Addr × Obj} {l news : Led} {a b d : Addr} {oa ob o : Obj} (h1 : q ∈ news) (h2 : @Ne Nat q.1 a) (h3 : @Ne Nat q.1 b) (h4 : @Ne Nat q.1 d) (r : ∀ p ∈ l, p ∈ news ∧ p.1 ∉ ([(a, oa), (b, ob), (d, o)] : Led).map (·.1)) :
    ∀ p ∈ q :: l, p ∈ news ∧ p.1 ∉ ([(a, oa), (b, ob), (d, o)] : Led).map (·.1) := fun p hp => by
  rcases List.mem_cons.mp hp with rfl | hp
  · refine ⟨h1, fun e => ?_⟩
    simp only [List.map_cons, List.map_nil, List.mem_cons, List.not_mem_nil, or_false] at e
    rcases e with e | e | e
    · exact h2 e
    · exact h3 e
    · exact h4 e
  · exact r p hp
theorem oth3t {l news : Led} {a b d : Addr} {oa ob o : Obj} (h1 : ∀ p ∈ l, p ∈ news) (h2 : ∀ p ∈ l, @Ne Nat p.1 a ∧ @Ne Nat p.1 b ∧ @Ne Nat p.1 d) : ∀ p ∈ l, p ∈ news ∧ p.1 ∉ ([(a, oa), (b, ob), (d, o)] : Led).map (·.1) := fun p hp => by
  refine ⟨h1 p hp, fun e => ?_⟩
  simp only [List.map_cons, List.map_nil, List.mem_cons, List.not_mem_nil, or_false] at e
  rcases e with e | e | e
  · exact (h2 p hp).1 e
  · exact (h2 p hp).2.1 e
  · exact (h2 p hp).2.2 e

/-- the state of the visits over the ledger -/
def RV (w : World) (lm S dd : Nat) (od : Obj) (n : Nat) (x : St) (ps : Led) : Prop :=
  ∃ (o : Obj) (kvs : List (Int × Value)) (its : Array Value) (nn : Nat) (tups : Led), ps = (lm, listOf its nn) :: (S, o) :: (dd, od) :: tups ∧ (∀ p ∈ tups, lm < p.1) ∧ o.IsDictOf (PySem.intKind PySem.Challenge.rw_nt0339_01.row.prog w) kvs ∧ FlatPairs PyData.int kvs (kdfD x.1) ∧
    MetAt its.toList x.2 tups ∧ its.size + n ≤ 200 ∧ x.1.length + n ≤ 200

section
variable {a1 a2 a3 b1 b2 b3 b4 b5 b6 b7 b8 b9 : Addr × Obj} {r t : Led}
theorem reF : ∀ p ∈ a1 :: r, p ∈ a1 :: a2 :: (r ++ t) := fun p hp => by
  simp only [List.mem_cons, List.mem_append] at hp ⊢
  rcases hp with rfl | hp <;> simp [*]
theorem reF2 : ∀ p ∈ a1 :: r, p ∈ a1 :: a2 :: ((a3 :: r) ++ t) := fun p hp => by
  simp only [List.mem_cons, List.mem_append] at hp ⊢
  rcases hp with rfl | hp <;> simp [*]
theorem reG : ∀ p ∈ a1 :: a2 :: a3 :: b1 :: b2 :: b3 :: b4 :: b5 :: b6 :: b7 :: b8 :: b9 :: (r ++ t), p ∈ (a1 :: a2 :: a3 :: t) ++ (b1 :: b2 :: b3 :: b4 :: b5 :: b6 :: b7 :: b8 :: b9 :: r) := fun p hp => by
  simp only [List.mem_cons, List.mem_append] at hp ⊢
  rcases hp with rfl | rfl | rfl | rfl | rfl | rfl | rfl | rfl | rfl | rfl | rfl | rfl | hp | hp <;> simp [*]
end

section
local macro_rules | `(tactic| walk_at "eval Name") => `(tactic| (k_here; (with_reducible show wpAny _ _ (eval (Expr.Name _ _) (compEnvC _ _ _ _)) _ _ _); k_dflt (refine' nameC_FG ?F ?c ?o ?d ?_ ?a ?b; (case a => rfl); (case b => rfl); (case F => k_asm); (case c => rfl); (case o => assumption); (case d => assumption); k_whole)))
local macro_rules | `(tactic| walk_at "eval Name") => `(tactic| (k_here; k_dflt (refine' nameX_FG ?F ?c ?o ?d ?_ ?a ?b; (case a => rfl); (case b => rfl); (case F => k_asm); (case c => rfl); (case o => assumption); (case d => assumption); k_whole)))
local macro_rules | `(tactic| ktr_rel) => `(tactic| ((fail_if_success (with_reducible show wpAny _ _ (pyIter _) _ _ _)); (fail_if_success (with_reducible show wpAny _ _ (eval (Expr.ListComp _ _ _ _) _) _ _ _)); (fail_if_success (with_reducible show wpAny _ _ (exec (Stmt.For _ _ _ _ _) _) _ _ _)); (fail_if_success (with_reducible show wpAny _ _ (exec (Stmt.FunctionDef _ _ _ _ _ _ _ _ _ _) _) _ _ _)); (fail_if_success (with_reducible show wpAny _ _ (call (Value.type "dict") _) _ _ _)); (fail_if_success (with_reducible show wpAny _ _ (call (Value.type "list") _) _ _ _)); (fail_if_success (with_reducible show wpAny _ _ (call (Value.ref _) _) _ _ _)); (fail_if_success (with_reducible show wpAny _ _ (call (Value.builtin "list.append") _) _ _ _)); (first | (k_unfold; (try dsimp only)) | (k_end; wrow_close) | walk1 | (dsimp only; walk1) | (leave1; (try dsimp only)))))
local macro_rules | `(tactic| k_data) => `(tactic| ((fail_if_success (with_reducible show wpAny _ _ (newTuple _) _ _ _)); ktr_rel))
local macro_rules | `(tactic| ktr_room) => `(tactic| ((try simp only [depth_in1, depth_deeper]); (try dsimp only [ktrTop]); omega))
local macro_rules | `(tactic| k_all) => `(tactic| assumption)

theorem walked_spec (w : World) (fwd : Bool) {dt dd : Addr} {ot od : Obj} {kt kd : List (Int × Value)} {ct cd : List (Int × Int)} (hdt : ot.IsDictOf (PySem.intKind PySem.Challenge.rw_nt0339_01.row.prog w) kt) (hft : FlatPairs PyData.int kt (kdfD ct))
    (hdd : od.IsDictOf (PySem.intKind PySem.Challenge.rw_nt0339_01.row.prog w) kd) (hfd : FlatPairs PyData.int kd (kdfD cd)) (lot : (dt == sysModules) = false) (lod : (dd == sysModules) = false)
    (hct : ct.length ≤ 100) {pt : Array Value} {codes : Led} (TI : TabInv QTw pt codes) (hcodes : ∀ p ∈ codes, p.1 ≠ dd ∧ p.1 ≠ 107) (nd1 : @Ne Nat dt dd) (nd2 : @Ne Nat dt 107) (nd3 : @Ne Nat dd 107)
    (len : Int) (hl0 : 4 ≤ len) (hl1 : len ≤ 12) (t1 : Tok) {n : Nat} {y : St} {r : Option Int} (W : Walk (nxF fwd len) (visF cd len) (if fwd then 1 else -1) n (ct, []) (if fwd then 0 else len - 1) y r) (hn100 : n ≤ 100) :
    Spec w (.ref 112) [.int len t1, .ref dt, .ref dd, .bool fwd] 8 (fun g => CodeHd g 111 107) ((dt, ot) :: (dd, od) :: (107, tabObj pt) :: codes)
      (fun lo v ps' => ∃ pt' codes' rest, ps' = (dt, ot) :: (dd, od) :: (107, tabObj pt') :: (codes' ++ rest) ∧ TabInv QTw pt' codes' ∧ (∀ p ∈ codes', p ∈ codes ∨ lo ≤ p.1) ∧ Readable rest v (outD (y, r))) := by
  unfold Spec
  k_fill
  intro dp un gd cn cs L a ccd cl outer base g p loose mean mg mb s Q E hcs hdp hun B X T hn hk hsz H ret
  refine wpAny_call ?_
  refine' enterCK (binds := [("length", .int len t1), ("things", .ref dt), ("deeds", .ref dd), ("is_forward", .bool fwd)]) X T hk hsz H ?k6 ?k7 ?k8 ?k9 ?kB ?kD ?_ ?c2 ?c3 ?c4
  case k6 => k_is
  case k7 => k_is
  case k8 => (dsimp only [ktrTop]; omega)
  case k9 => exact BindsTo.of_eq rfl
  case kB => exact rfl
  case kD => decide +kernel
  case c2 => exact rfl
  case c3 => exact rfl
  case c4 => exact rfl
  intro L' h₁ tk' cells' hL F N Y l1
  obtain ⟨om, oD, oT, oL, hE, dm, dD, dT, dL⟩ := CellsAre.four Y
  subst hE
  clear Y
  replace dm : om.data = .cell none := dm
  replace dD : oD.data = .cell (some (.ref dd)) := dD
  replace dT : oT.data = .cell (some (.ref dt)) := dT
  replace dL : oL.data = .cell (some (.int len t1)) := dL
  replace N : News g L' h₁ ((L' + 1 + 1 + 1 + 1, om) :: (L' + 1 + 1 + 1, oD) :: (L' + 1 + 1, oT) :: (L' + 1, oL) :: (dt, ot) :: (dd, od) :: (107, tabObj pt) :: codes) := N
  have x1 := ltN (l1 (dt, ot) (by first | ((repeat (first | exact List.Mem.head _ | refine List.Mem.tail _ ?_)); done) | k_mem))
  have x2 := ltN (l1 (dd, od) (by first | ((repeat (first | exact List.Mem.head _ | refine List.Mem.tail _ ?_)); done) | k_mem))
  have x3 := ltN (l1 (107, tabObj pt) (by first | ((repeat (first | exact List.Mem.head _ | refine List.Mem.tail _ ?_)); done) | k_mem))
  have x4 : ∀ p ∈ codes, @LT.lt Nat _ p.1 L' := fun p hp => l1 p (by (repeat (refine List.Mem.tail _ ?_)); first | exact hp | exact List.mem_append_left _ hp | exact List.mem_append_right _ hp | exact List.mem_append_left _ (List.mem_append_left _ hp) | exact List.mem_append_left _ (List.mem_append_right _ hp) | (refine List.mem_append_left _ ?_; (repeat (refine List.Mem.tail _ ?_)); first | exact hp | exact List.mem_append_left _ hp | exact List.mem_append_right _ hp) | (refine List.mem_append_right _ ?_; (repeat (refine List.Mem.tail _ ?_)); first | exact hp | exact List.mem_append_left _ hp | exact List.mem_append_right _ hp))
  dsimp only at x1 x2 x3
  clear l1
  have y1 : ∀ p ∈ codes, p.1 ≠ L' + 1 + 1 + 1 + 1 := fun p hp => Nat.ne_of_lt (by have := x4 p hp; omega)
  have y2 : ∀ p ∈ codes, p.1 ≠ L' + 1 + 1 := fun p hp => Nat.ne_of_lt (by have := x4 p hp; omega)
  repeat' ktr_rel
  rename Fr _ _ _ _ => F1
  rename News _ _ _ _ => N1
  have hlen : kt.length = ct.length := by rw [← hft.length, kdfD_length]
  refine items_N rfl F1 N1 (by k_mem) (by k_mem) hdt (by omega) ?_
  clear F1 N1
  rintro B1 c as tups h' tk F1 N1 l2 hla htl hpr
  repeat' ktr_rel
  refine dict_pairs_N (kvs := kt) rfl F1 N1 (modules_low T.nolimit) (by k_mem) hla (by omega) (let ⟨_, _, _, _, _, _, hn⟩ := hdt; hn)
    (fun j a ha => by obtain ⟨key, k, x, e1, e2, e3⟩ := hpr j a ha; exact ⟨key, k, x, e1, e2, List.mem_cons_of_mem _ (List.mem_append_right _ e3)⟩) ?_
  rintro S o h'' tk2 F2 N2 l3 loS bigS hd
  replace N2 : News g L' h'' ((S, o) :: (L' + 1 + 1 + 1 + 1, om) :: (L' + 1 + 1 + 1, oD) :: (L' + 1 + 1, oT) :: (L' + 1, oL) :: (dt, ot) :: (dd, od) :: (107, tabObj pt) :: codes) := fun p hp => N2 p (by first | exact reF p hp | exact reF2 p hp)
  have m1 : @LT.lt Nat _ (L' + 1 + 1 + 1 + 1) S := l3 (L' + 1 + 1 + 1 + 1, om) (by first | ((repeat (first | exact List.Mem.head _ | refine List.Mem.tail _ ?_)); done) | k_mem)
  clear F1 N1 l3 hpr htl hla l2 N F
  repeat' ktr_rel
  rename Fr _ _ _ _ => F3
  rename News _ _ _ _ => N3
  rename Heap => h3
  obtain ⟨lm, oM, oT, hSl, dM, dT, N3⟩ : ∃ (lm : Nat) (oM oT : Obj), @LT.lt Nat _ S lm ∧ oM.data = .cell (some (.ref lm)) ∧ oT.data = .cell (some (.ref S)) ∧
      News g L' h3 ((lm, listOf #[] 0) :: (S, o) :: (L' + 1 + 1 + 1 + 1, oM) :: (L' + 1 + 1 + 1, oD) :: (L' + 1 + 1, oT) :: (L' + 1, oL) :: (dt, ot) :: (dd, od) :: (107, tabObj pt) :: codes) :=
    ⟨_, _, _, by omega, by assumption, by assumption, fun p hp => N3 p (.tail _ hp)⟩
  have c1 : ∀ p ∈ codes, p.1 ≠ 107 := fun p hp => (hcodes p hp).2
  refine' nestDef_K rfl rfl rfl ?_
  refine nestAny (hd := [(lm, listOf #[] 0), (S, o), (L' + 1 + 1 + 1 + 1, oM), (L' + 1 + 1 + 1, oD), (L' + 1 + 1, oT), (L' + 1, oL), (dt, ot), (dd, od), (107, tabObj pt)]) (codes := codes) F3 N3 T hn rfl (by k_updF) c1 TI (by rfl) rfl ?_
  clear F3 N3
  intro f1 q1 ctv1 doc1 h4 tk4 pt1 codes1 F3 N3 TI1 sub1 in1 lt1 nw1
  obtain ⟨fo1, e1, -⟩ := news_obj N3 (List.Mem.head _)
  rw [← e1] at N3
  simp only [List.cons_append, List.nil_append] at N3 lt1 nw1
  have z1 : @LT.lt Nat _ lm f1 := lt1 (lm, listOf #[] 0) (by first | ((repeat (first | exact List.Mem.head _ | refine List.Mem.tail _ ?_)); done) | k_mem)
  have c2 : ∀ p ∈ codes1, p.1 ≠ 107 := fun p hp => (nw1 p hp).2.elim (fun h => c1 p h) fun h => Nat.ne_of_gt (h (107, tabObj pt) (by first | ((repeat (first | exact List.Mem.head _ | refine List.Mem.tail _ ?_)); done) | k_mem))
  repeat' ktr_rel
  rename Fr _ _ _ _ => F3
  rename News _ _ _ _ => N3
  refine' nestDef_K rfl rfl rfl ?_
  refine nestAny (hd := [(f1, fo1), (lm, listOf #[] 0), (S, o), (L' + 1 + 1 + 1 + 1, oM), (L' + 1 + 1 + 1, oD), (L' + 1 + 1, oT), (L' + 1, oL), (dt, ot), (dd, od), (107, tabObj pt1)]) (codes := codes1) F3 N3 T hn rfl (by k_updF) c2 TI1 (by rfl) rfl ?_
  clear F3 N3
  intro f2 q2 ctv2 doc2 h5 tk5 pt2 codes2 F3 N3 TI2 sub2 in2 lt2 nw2
  obtain ⟨fo2, e2, -⟩ := news_obj N3 (List.Mem.head _)
  rw [← e2] at N3
  simp only [List.cons_append, List.nil_append] at N3 lt2 nw2
  have z2 : @LT.lt Nat _ f1 f2 := lt2 (f1, fo1) (by first | ((repeat (first | exact List.Mem.head _ | refine List.Mem.tail _ ?_)); done) | k_mem)
  have c3 : ∀ p ∈ codes2, p.1 ≠ 107 := fun p hp => (nw2 p hp).2.elim (fun h => c2 p h) fun h => Nat.ne_of_gt (h (107, tabObj pt1) (by first | ((repeat (first | exact List.Mem.head _ | refine List.Mem.tail _ ?_)); done) | k_mem))
  repeat' ktr_rel
  rename Fr _ _ _ _ => F3
  rename News _ _ _ _ => N3
  refine' nestDef_K rfl rfl rfl ?_
  refine nestAny (hd := [(f2, fo2), (f1, fo1), (lm, listOf #[] 0), (S, o), (L' + 1 + 1 + 1 + 1, oM), (L' + 1 + 1 + 1, oD), (L' + 1 + 1, oT), (L' + 1, oL), (dt, ot), (dd, od), (107, tabObj pt2)]) (codes := codes2) F3 N3 T hn rfl (by k_updF) c3 TI2 (by rfl) rfl ?_
  clear F3 N3
  intro f3 q3 ctv3 doc3 h6 tk6 pt3 codes3 F3 N3 TI3 sub3 in3 lt3 nw3
  obtain ⟨fo3, e3, -⟩ := news_obj N3 (List.Mem.head _)
  rw [← e3] at N3
  simp only [List.cons_append, List.nil_append] at N3 lt3 nw3
  have z3 : @LT.lt Nat _ f2 f3 := lt3 (f2, fo2) (by first | ((repeat (first | exact List.Mem.head _ | refine List.Mem.tail _ ?_)); done) | k_mem)
  have hsub3 : ∀ p ∈ codes1, p ∈ codes3 := fun p hp => sub3 p (sub2 p hp)
  have PV : ∀ (n : Nat) (x : St) (ps : Led) (i j : Int) (t : Tok), RV w lm S dd od (n + 1) x ps → nxF fwd len x j = some i →
      Spec w (.ref f1) [.int i t] 5 (fun g' => ∀ p ∈ (f1, fo1) :: (f2, fo2) :: (f3, fo3) :: (L' + 1 + 1 + 1 + 1, oM) :: (L' + 1 + 1 + 1, oD) :: (L' + 1 + 1, oT) :: (L' + 1, oL) :: codes3, g'.get? p.1 = some p.2) ps
        (fun _ v ps' => RV w lm S dd od n (visF cd len x i).1 ps' ∧ v = .bool (visF cd len x i).2) := by
    clear F3 N3 B X T H hk hsz ret hdp hun hn
    rintro n ⟨c, met⟩ ps i j t ⟨o, kvs, its, nn, tups, rfl, htl, hdo, hfo, hM, hz1, hz2⟩ hnx
    unfold Spec
    intro dp un gd cn cs L a ccd cl outer base g p loose mean mg mb s Q E hcs hdp hun B X T hn hk hsz H ret
    have hhas := nxF_has hnx
    have hcl : c.length + (n + 1) ≤ 200 := hz2
    refine wpAny_call ?_
    refine' enterX (binds := [("at", .int i t)]) (T.nolimit.keeps hk) hk hsz H (hk _ _ (hn (f1, fo1) (by first | ((repeat (first | exact List.Mem.head _ | refine List.Mem.tail _ ?_)); done) | k_mem))) ((congrArg Obj.data e1).trans rfl) ((in1.mono hsub3).rec fun p hp => hk _ _ (hn p (by (repeat (refine List.Mem.tail _ ?_)); first | exact hp | exact List.mem_append_left _ hp | exact List.mem_append_right _ hp | exact List.mem_append_left _ (List.mem_append_left _ hp) | exact List.mem_append_left _ (List.mem_append_right _ hp) | (refine List.mem_append_left _ ?_; (repeat (refine List.Mem.tail _ ?_)); first | exact hp | exact List.mem_append_left _ hp | exact List.mem_append_right _ hp) | (refine List.mem_append_right _ ?_; (repeat (refine List.Mem.tail _ ?_)); first | exact hp | exact List.mem_append_left _ hp | exact List.mem_append_right _ hp)))) ?k8 ?k9 ?kB ?_ ?c5 ?c2 ?c3 ?c4
    case k8 => (dsimp only [ktrTop]; omega)
    case k9 => exact BindsTo.of_eq rfl
    case kB => exact locs rfl
    case c5 => decide
    case c2 => exact rfl
    case c3 => exact rfl
    case c4 => exact rfl
    intro L₂ h₂ hL₂ F N hlt
    have kM := hn (L' + 1 + 1 + 1 + 1, oM) (by first | ((repeat (first | exact List.Mem.head _ | refine List.Mem.tail _ ?_)); done) | k_mem)
    have kD := hn (L' + 1 + 1 + 1, oD) (by first | ((repeat (first | exact List.Mem.head _ | refine List.Mem.tail _ ?_)); done) | k_mem)
    have kT := hn (L' + 1 + 1, oT) (by first | ((repeat (first | exact List.Mem.head _ | refine List.Mem.tail _ ?_)); done) | k_mem)
    have kL := hn (L' + 1, oL) (by first | ((repeat (first | exact List.Mem.head _ | refine List.Mem.tail _ ?_)); done) | k_mem)
    dsimp only at kM kD kT kL
    have q5 : ∀ p ∈ tups, p.1 ≠ lm := fun p hp => Nat.ne_of_gt (htl p hp)
    have q6 : ∀ p ∈ tups, p.1 ≠ S := fun p hp => Nat.ne_of_gt (Nat.lt_trans hSl (htl p hp))
    repeat' k_data
    rename Fr _ _ _ _ => F4
    rename News _ _ _ _ => N4
    refine kup_newTuple F4 N4 ?_ (by kmk_size)
    clear N4
    intro D h4 F4 N4 l1
    k_lt l1
    have htl' : ∀ q : Obj, ∀ p ∈ (D, q) :: tups, @LT.lt Nat _ lm p.1 := fun q => List.forall_mem_cons.mpr ⟨ltN (by omega), htl⟩
    repeat' ktr_rel
    refine append_K F4 N4 (by k_upd) ?_ (by rw [sizeLine_eq]; omega)
    clear N4
    intro h4 F4 N4
    repeat' ktr_rel
    · have hcdh : kdfHas cd i = true := by assumption
      refine Spec.use (do_spec w hdo hfo loS (by omega) _ len _ t1 hl0 hl1) ((D, _) :: (lm, _) :: (dd, od) :: tups) B F4 X N4 T rfl (List.forall_mem_singleton.mpr (by k_mem))
        (oth1 (List.Mem.head _) (by k_ne) <| oth1 (by k_mem) (by k_ne) <| oth1 (by k_mem) (by k_ne) <| oth1t (fun p hp => by (repeat (refine List.Mem.tail _ ?_)); first | exact hp | exact List.mem_append_left _ hp | exact List.mem_append_right _ hp | exact List.mem_append_left _ (List.mem_append_left _ hp) | exact List.mem_append_left _ (List.mem_append_right _ hp) | (refine List.mem_append_left _ ?_; (repeat (refine List.Mem.tail _ ?_)); first | exact hp | exact List.mem_append_left _ hp | exact List.mem_append_right _ hp) | (refine List.mem_append_right _ ?_; (repeat (refine List.Mem.tail _ ?_)); first | exact hp | exact List.mem_append_left _ hp | exact List.mem_append_right _ hp)) q6) (fun _ _ _ _ => trivial) (by dsimp only [ktrTop, Around.deeper]; omega) (by dsimp only [ktrTop, Around.deeper]; omega) ?_
      clear N4
      rintro h5 tk5 v ps' ⟨rfl, o5, rfl, kvs5, hd5, hf5⟩ F5 N5 _ _ _
      simp only [List.cons_append, List.nil_append] at N5
      repeat' ktr_rel
      rename Fr _ _ _ _ => F6
      rename News _ _ _ _ => N6
      refine vfin (s := s) (lm := lm) (S := S) (dd := dd) (D := D) (tups := tups) ret F6 N6 hL₂ (by k_mem) (by k_mem) (by k_mem) (by k_mem) (fun p hp => by (repeat (refine List.Mem.tail _ ?_)); first | exact hp | exact List.mem_append_left _ hp | exact List.mem_append_right _ hp | exact List.mem_append_left _ (List.mem_append_left _ hp) | exact List.mem_append_left _ (List.mem_append_right _ hp) | (refine List.mem_append_left _ ?_; (repeat (refine List.Mem.tail _ ?_)); first | exact hp | exact List.mem_append_left _ hp | exact List.mem_append_right _ hp) | (refine List.mem_append_right _ ?_; (repeat (refine List.Mem.tail _ ?_)); first | exact hp | exact List.mem_append_left _ hp | exact List.mem_append_right _ hp)) ?_
      rw [visF_has hcdh]
      exact ⟨⟨o5, kvs5, _, _, _, rfl, htl' _, hd5, hf5, (by rw [Array.toList_push]; exact (hM.mono (fun p hp => List.mem_cons_of_mem _ hp)).snoc (List.Mem.head _)), (by rw [Array.size_push]; omega), (by have := doC_len c (kdfLook cd i 0) len; dsimp only; omega)⟩, rfl⟩
    · have hcdh : kdfHas cd i = false := by assumption
      rename Fr _ _ _ _ => F6
      rename News _ _ _ _ => N6
      refine vfin (s := s) (lm := lm) (S := S) (dd := dd) (D := D) (tups := tups) ret F6 N6 hL₂ (by k_mem) (by k_mem) (by k_mem) (by k_mem) (fun p hp => by (repeat (refine List.Mem.tail _ ?_)); first | exact hp | exact List.mem_append_left _ hp | exact List.mem_append_right _ hp | exact List.mem_append_left _ (List.mem_append_left _ hp) | exact List.mem_append_left _ (List.mem_append_right _ hp) | (refine List.mem_append_left _ ?_; (repeat (refine List.Mem.tail _ ?_)); first | exact hp | exact List.mem_append_left _ hp | exact List.mem_append_right _ hp) | (refine List.mem_append_right _ ?_; (repeat (refine List.Mem.tail _ ?_)); first | exact hp | exact List.mem_append_left _ hp | exact List.mem_append_right _ hp)) ?_
      rw [visF_not hcdh]
      exact ⟨⟨o, kvs, _, _, _, rfl, htl' _, hdo, hfo, (by rw [Array.toList_push]; exact (hM.mono (fun p hp => List.mem_cons_of_mem _ hp)).snoc (List.Mem.head _)), (by rw [Array.size_push]; omega), (by dsimp only; omega)⟩, congrArg Value.bool hcdh⟩
  have PF : fwd = true → ∀ (n : Nat) (x : St) (ps : Led) (i : Int) (t : Tok), RV w lm S dd od n x ps →
      Spec w (.ref f2) [.int i t] 5 (fun g' => ∀ p ∈ (f1, fo1) :: (f2, fo2) :: (f3, fo3) :: (L' + 1 + 1 + 1 + 1, oM) :: (L' + 1 + 1 + 1, oD) :: (L' + 1 + 1, oT) :: (L' + 1, oL) :: codes3, g'.get? p.1 = some p.2) ps
        (fun _ v ps' => RV w lm S dd od n x ps' ∧ OptV v (nxF fwd len x i)) := by
    clear F3 N3 B X T H hk hsz ret hdp hun hn PV
    rintro hfw n ⟨c, met⟩ ps i t ⟨o, kvs, its, nn, tups, rfl, htl, hdo, hfo, hM, hz1, hz2⟩
    unfold Spec
    intro dp un gd cn cs L a ccd cl outer base g p loose mean mg mb s Q E hcs hdp hun B X T hn hk hsz H ret
    refine wpAny_call ?_
    refine' enterX (binds := [("at", .int i t)]) (T.nolimit.keeps hk) hk hsz H (hk _ _ (hn (f2, fo2) (by first | ((repeat (first | exact List.Mem.head _ | refine List.Mem.tail _ ?_)); done) | k_mem))) ((congrArg Obj.data e2).trans rfl) ((in2.mono sub3).rec fun p hp => hk _ _ (hn p (by (repeat (refine List.Mem.tail _ ?_)); first | exact hp | exact List.mem_append_left _ hp | exact List.mem_append_right _ hp | exact List.mem_append_left _ (List.mem_append_left _ hp) | exact List.mem_append_left _ (List.mem_append_right _ hp) | (refine List.mem_append_left _ ?_; (repeat (refine List.Mem.tail _ ?_)); first | exact hp | exact List.mem_append_left _ hp | exact List.mem_append_right _ hp) | (refine List.mem_append_right _ ?_; (repeat (refine List.Mem.tail _ ?_)); first | exact hp | exact List.mem_append_left _ hp | exact List.mem_append_right _ hp)))) ?k8 ?k9 ?kB ?_ ?c5 ?c2 ?c3 ?c4
    case k8 => (dsimp only [ktrTop]; omega)
    case k9 => exact BindsTo.of_eq rfl
    case kB => exact locs rfl
    case c5 => decide
    case c2 => exact rfl
    case c3 => exact rfl
    case c4 => exact rfl
    intro L₂ h₂ hL₂ F N hlt
    have kT := hn (L' + 1 + 1, oT) (by first | ((repeat (first | exact List.Mem.head _ | refine List.Mem.tail _ ?_)); done) | k_mem)
    have kL := hn (L' + 1, oL) (by first | ((repeat (first | exact List.Mem.head _ | refine List.Mem.tail _ ?_)); done) | k_mem)
    dsimp only at kT kL
    have hcl : c.length + n ≤ 200 := hz2
    repeat' ktr_rel
    rename Fr _ _ _ _ => F4
    rename News _ _ _ _ => N4
    refine kdy_list (c := c) rfl F4 N4 (by k_tabat) (by omega) ?_
    clear N4
    intro B1 nb h4 tk4 vs F4 N4 l1 hi
    repeat' ktr_rel
    rename Fr _ _ _ _ => F4
    rename News _ _ _ _ => N4
    refine Spec.use (least_spec w hi i len t t1) _ B F4 X N4 T rfl (fun p hp => nomatch hp) (fun p hp => ⟨hp, List.not_mem_nil⟩) (fun g1 _ _ hall => ⟨_, hall _ _ (N4 _ (by k_mem)).1 List.not_mem_nil, rfl, _, rfl⟩) (by dsimp only [ktrTop, Around.deeper]; omega) (by dsimp only [ktrTop, Around.deeper]; omega) ?_
    clear N4
    rintro h5 tk5 v ps' ⟨rfl, hv⟩ F5 N5 _ _ _
    simp only [List.nil_append] at N5
    repeat' ktr_rel
    refine fin (s := s) ret F5 N5 hL₂ (ps' := (lm, listOf its nn) :: (S, o) :: (dd, od) :: tups) (fun p hp => List.mem_cons_of_mem _ hp) ⟨⟨o, kvs, its, nn, tups, rfl, htl, hdo, hfo, hM, hz1, hz2⟩, ?_⟩
    unfold nxF
    rw [if_pos hfw]
    exact hv
  have PG : fwd = false → ∀ (n : Nat) (x : St) (ps : Led) (i : Int) (t : Tok), RV w lm S dd od n x ps →
      Spec w (.ref f3) [.int i t] 5 (fun g' => ∀ p ∈ (f1, fo1) :: (f2, fo2) :: (f3, fo3) :: (L' + 1 + 1 + 1 + 1, oM) :: (L' + 1 + 1 + 1, oD) :: (L' + 1 + 1, oT) :: (L' + 1, oL) :: codes3, g'.get? p.1 = some p.2) ps
        (fun _ v ps' => RV w lm S dd od n x ps' ∧ OptV v (nxF fwd len x i)) := by
    clear F3 N3 B X T H hk hsz ret hdp hun hn PV PF
    rintro hfw n ⟨c, met⟩ ps i t ⟨o, kvs, its, nn, tups, rfl, htl, hdo, hfo, hM, hz1, hz2⟩
    unfold Spec
    intro dp un gd cn cs L a ccd cl outer base g p loose mean mg mb s Q E hcs hdp hun B X T hn hk hsz H ret
    refine wpAny_call ?_
    refine' enterX (binds := [("at", .int i t)]) (T.nolimit.keeps hk) hk hsz H (hk _ _ (hn (f3, fo3) (by first | ((repeat (first | exact List.Mem.head _ | refine List.Mem.tail _ ?_)); done) | k_mem))) ((congrArg Obj.data e3).trans rfl) (in3.rec fun p hp => hk _ _ (hn p (by (repeat (refine List.Mem.tail _ ?_)); first | exact hp | exact List.mem_append_left _ hp | exact List.mem_append_right _ hp | exact List.mem_append_left _ (List.mem_append_left _ hp) | exact List.mem_append_left _ (List.mem_append_right _ hp) | (refine List.mem_append_left _ ?_; (repeat (refine List.Mem.tail _ ?_)); first | exact hp | exact List.mem_append_left _ hp | exact List.mem_append_right _ hp) | (refine List.mem_append_right _ ?_; (repeat (refine List.Mem.tail _ ?_)); first | exact hp | exact List.mem_append_left _ hp | exact List.mem_append_right _ hp)))) ?k8 ?k9 ?kB ?_ ?c5 ?c2 ?c3 ?c4
    case k8 => (dsimp only [ktrTop]; omega)
    case k9 => exact BindsTo.of_eq rfl
    case kB => exact locs rfl
    case c5 => decide
    case c2 => exact rfl
    case c3 => exact rfl
    case c4 => exact rfl
    intro L₂ h₂ hL₂ F N hlt
    have kT := hn (L' + 1 + 1, oT) (by first | ((repeat (first | exact List.Mem.head _ | refine List.Mem.tail _ ?_)); done) | k_mem)
    have kL := hn (L' + 1, oL) (by first | ((repeat (first | exact List.Mem.head _ | refine List.Mem.tail _ ?_)); done) | k_mem)
    dsimp only at kT kL
    have hcl : c.length + n ≤ 200 := hz2
    repeat' ktr_rel
    have hkl : kvs.length = c.length := by rw [← hfo.length, kdfD_length]
    refine ListComp_D (h₀ := g) (L := L₂) (m := fun y => List.lookup y [("at", Value.int i t)]) (knd := PySem.intKind PySem.Challenge.rw_nt0339_01.row.prog w) (by with_unfolding_all rfl) (by decide) (by rfl) (by decide) (by rfl) ?_
    repeat' ktr_rel
    refine ⟨S, o, kvs, (lm, listOf its nn) :: (S, o) :: (dd, od) :: tups, rfl, rfl, F, N, by k_mem, loS, hdo, by rw [sizeLine_eq]; omega, ?_⟩
    rintro s₂ ⟨hh, rfl⟩
    refine rest_filter (fun p => decide (p < len)) (by k_mem) ?_ ?_ ?_ kvs.length 0 [] rfl .nil
    · intro k t I oI C oC D m₂ h tk ys P E' hC hx F N hP
      repeat' ktr_rel
      exact hP _
    · intro k t I oI C oC D m₂ h tk ys P E' hC hx F N hP
      repeat' ktr_rel
      exact hP _
    · intro ys hys D h tk F4 N4 off
      rw [flat_keys hfo] at hys
      repeat' ktr_rel
      refine Spec.use (great_spec w hys i t) _ B F4 X N4 T rfl (fun p hp => nomatch hp) (fun p hp => ⟨hp, List.not_mem_nil⟩) (fun g1 _ _ hall => ⟨_, hall _ _ (N4 _ (by k_mem)).1 List.not_mem_nil, rfl, _, rfl⟩) (by dsimp only [ktrTop, Around.deeper]; omega) (by dsimp only [ktrTop, Around.deeper]; omega) ?_
      rintro h5 tk5 v ps' ⟨rfl, hv⟩ F5 N5 _ _ _
      simp only [List.nil_append] at N5
      repeat' ktr_rel
      refine fin (s := s) ret F5 N5 hL₂ (ps' := (lm, listOf its nn) :: (S, o) :: (dd, od) :: tups) (fun p hp => List.mem_cons_of_mem _ hp) ⟨⟨o, kvs, its, nn, tups, rfl, htl, hdo, hfo, hM, hz1, hz2⟩, ?_⟩
      unfold nxF
      rw [if_neg (by rw [hfw]; decide)]
      exact hv
  have hR0 : RV w lm S dd od n (ct, []) [(lm, listOf #[] 0), (S, o), (dd, od)] := ⟨o, kt, #[], 0, [], rfl, (fun _ hp => nomatch hp), hd, hft, trivial, (by show 0 + n ≤ 200; omega), (by dsimp only; omega)⟩
  have hc6 : ∀ p ∈ codes3, p ∈ codes ∨ @LT.lt Nat _ lm p.1 := fun p hp => by
    have r1 : ∀ p ∈ codes1, p ∈ codes ∨ @LT.lt Nat _ lm p.1 := fun p hp => (nw1 p hp).2.imp id fun h => h (lm, listOf #[] 0) (by first | ((repeat (first | exact List.Mem.head _ | refine List.Mem.tail _ ?_)); done) | k_mem)
    have r2 : ∀ p ∈ codes2, p ∈ codes ∨ @LT.lt Nat _ lm p.1 := fun p hp => (nw2 p hp).2.elim (r1 p) fun h => .inr (h (lm, listOf #[] 0) (by first | ((repeat (first | exact List.Mem.head _ | refine List.Mem.tail _ ?_)); done) | k_mem))
    exact (nw3 p hp).2.elim (r2 p) fun h => .inr (h (lm, listOf #[] 0) (by first | ((repeat (first | exact List.Mem.head _ | refine List.Mem.tail _ ?_)); done) | k_mem))
  have hc5 : ∀ p ∈ codes3, p ∈ codes ∨ @LT.lt Nat _ L' p.1 := fun p hp => (hc6 p hp).imp id fun h => by omega
  have hc4 : ∀ p ∈ codes3, @Ne Nat p.1 lm ∧ @Ne Nat p.1 S ∧ @Ne Nat p.1 dd := fun p hp => by
    rcases hc6 p hp with h | h
    · have a1 := x4 p h
      have a2 := neN (hcodes p h).1
      exact ⟨by omega, by omega, a2⟩
    · exact ⟨by omega, by omega, by omega⟩
  have hnin : ∀ p ∈ (f1, fo1) :: (f2, fo2) :: (f3, fo3) :: (L' + 1 + 1 + 1 + 1, oM) :: (L' + 1 + 1 + 1, oD) :: (L' + 1 + 1, oT) :: (L' + 1, oL) :: codes3, p.1 ∉ ([(lm, listOf #[] 0), (S, o), (dd, od)] : Led).map (·.1) := fun p hp =>
    (oth3 (news := (f1, fo1) :: (f2, fo2) :: (f3, fo3) :: (L' + 1 + 1 + 1 + 1, oM) :: (L' + 1 + 1 + 1, oD) :: (L' + 1 + 1, oT) :: (L' + 1, oL) :: codes3) (by k_mem) (by k_ne) (by k_ne) (by k_ne) <| oth3 (by k_mem) (by k_ne) (by k_ne) (by k_ne) <| oth3 (by k_mem) (by k_ne) (by k_ne) (by k_ne) <| oth3 (by k_mem) (by k_ne) (by k_ne) (by k_ne) <| oth3 (by k_mem) (by k_ne) (by k_ne) (by k_ne) <| oth3 (by k_mem) (by k_ne) (by k_ne) (by k_ne) <| oth3 (by k_mem) (by k_ne) (by k_ne) (by k_ne) <| oth3t (fun p hp => by (repeat (refine List.Mem.tail _ ?_)); first | exact hp | exact List.mem_append_left _ hp | exact List.mem_append_right _ hp | exact List.mem_append_left _ (List.mem_append_left _ hp) | exact List.mem_append_left _ (List.mem_append_right _ hp) | (refine List.mem_append_left _ ?_; (repeat (refine List.Mem.tail _ ?_)); first | exact hp | exact List.mem_append_left _ hp | exact List.mem_append_right _ hp) | (refine List.mem_append_right _ ?_; (repeat (refine List.Mem.tail _ ?_)); first | exact hp | exact List.mem_append_left _ hp | exact List.mem_append_right _ hp)) hc4) p hp |>.2
  repeat' ktr_rel
  · have hfw : fwd = true := by assumption
    have PL : Play w St (RV w lm S dd od) (fun g' => ∀ p ∈ (f1, fo1) :: (f2, fo2) :: (f3, fo3) :: (L' + 1 + 1 + 1 + 1, oM) :: (L' + 1 + 1 + 1, oD) :: (L' + 1 + 1, oT) :: (L' + 1, oL) :: codes3, g'.get? p.1 = some p.2) (.ref f2) (.ref f1) 5 (nxF fwd len) (visF cd len) :=
      ⟨PF hfw, PV, fun g' h => ⟨callable_fn (h (f2, fo2) (by first | ((repeat (first | exact List.Mem.head _ | refine List.Mem.tail _ ?_)); done) | k_mem)) ((congrArg Obj.data e2).trans rfl), callable_fn (h (f1, fo1) (by first | ((repeat (first | exact List.Mem.head _ | refine List.Mem.tail _ ?_)); done) | k_mem)) ((congrArg Obj.data e1).trans rfl)⟩, fun g' g'' h k p hp => k _ _ (h p hp)⟩
    rename Fr _ _ _ _ => F4
    rename News _ _ _ _ => N4
    rw [hfw] at W PL
    refine Spec.use (each_spec w PL W hR0 _ _) ((f3, fo3) :: (f2, fo2) :: (f1, fo1) :: (L' + 1 + 1 + 1 + 1, oM) :: (L' + 1 + 1 + 1, oD) :: (L' + 1 + 1, oT) :: (L' + 1, oL) :: (dt, ot) :: (107, tabObj pt3) :: codes3) B F4 X N4 T rfl
      (List.forall_mem_cons.mpr ⟨by k_mem, List.forall_mem_cons.mpr ⟨by k_mem, List.forall_mem_singleton.mpr (by k_mem)⟩⟩)
      (oth3 (by k_mem) (by k_ne) (by k_ne) (by k_ne) <| oth3 (by k_mem) (by k_ne) (by k_ne) (by k_ne) <| oth3 (by k_mem) (by k_ne) (by k_ne) (by k_ne) <| oth3 (by k_mem) (by k_ne) (by k_ne) (by k_ne) <| oth3 (by k_mem) (by k_ne) (by k_ne) (by k_ne) <| oth3 (by k_mem) (by k_ne) (by k_ne) (by k_ne) <| oth3 (by k_mem) (by k_ne) (by k_ne) (by k_ne) <| oth3 (by k_mem) (by k_ne) (by k_ne) (by k_ne) <| oth3 (by k_mem) (by k_ne) (by k_ne) (by k_ne) <| oth3t (fun p hp => by (repeat (refine List.Mem.tail _ ?_)); first | exact hp | exact List.mem_append_left _ hp | exact List.mem_append_right _ hp | exact List.mem_append_left _ (List.mem_append_left _ hp) | exact List.mem_append_left _ (List.mem_append_right _ hp) | (refine List.mem_append_left _ ?_; (repeat (refine List.Mem.tail _ ?_)); first | exact hp | exact List.mem_append_left _ hp | exact List.mem_append_right _ hp) | (refine List.mem_append_right _ ?_; (repeat (refine List.Mem.tail _ ?_)); first | exact hp | exact List.mem_append_left _ hp | exact List.mem_append_right _ hp)) hc4)
      (fun g1 _ _ hall p hp => hall _ _ (N4 p (by revert p; (repeat' (first | exact List.forall_mem_nil _ | (refine List.forall_mem_cons.mpr ⟨by first | ((repeat (first | exact List.Mem.head _ | refine List.Mem.tail _ ?_)); done) | k_mem, ?_⟩) | (refine List.forall_mem_append.mpr ⟨?_, ?_⟩))); all_goals (intro p hp; (repeat (refine List.Mem.tail _ ?_)); first | exact hp | exact List.mem_append_left _ hp | exact List.mem_append_right _ hp | exact List.mem_append_left _ (List.mem_append_left _ hp) | exact List.mem_append_left _ (List.mem_append_right _ hp) | (refine List.mem_append_left _ ?_; (repeat (refine List.Mem.tail _ ?_)); first | exact hp | exact List.mem_append_left _ hp | exact List.mem_append_right _ hp) | (refine List.mem_append_right _ ?_; (repeat (refine List.Mem.tail _ ?_)); first | exact hp | exact List.mem_append_left _ hp | exact List.mem_append_right _ hp)))).1 (hnin p hp)) (by dsimp only [ktrTop, Around.deeper]; omega) (by dsimp only [ktrTop, Around.deeper]; omega) ?_
    clear N4
    rintro h' tk v ps' ⟨⟨o5, kvs5, its5, nn5, tups5, rfl, htl5, hd5, hf5, hM5, -, -⟩, hv⟩ F5 N5 _ _ _
    replace N5 : News g L' h' ((lm, listOf its5 nn5) :: (S, o5) :: (dd, od) :: (f3, fo3) :: (f2, fo2) :: (f1, fo1) :: (L' + 1 + 1 + 1 + 1, oM) :: (L' + 1 + 1 + 1, oD) :: (L' + 1 + 1, oT) :: (L' + 1, oL) :: (dt, ot) :: (107, tabObj pt3) :: (codes3 ++ tups5)) := fun p hp => N5 p (reG p hp)
    repeat' ktr_rel
    rename Fr _ _ _ _ => F6
    rename News _ _ _ _ => N6
    refine fin (s := s) ret (ps' := (dt, ot) :: (dd, od) :: (107, tabObj pt3) :: (codes3 ++ _)) F6 N6 hL
      (List.forall_mem_cons.mpr ⟨by k_mem, List.forall_mem_cons.mpr ⟨by k_mem, List.forall_mem_cons.mpr ⟨by k_mem, fun p hp => (List.mem_append.mp hp).elim (fun hp => by (repeat (refine List.Mem.tail _ ?_)); first | exact hp | exact List.mem_append_left _ hp | exact List.mem_append_right _ hp | exact List.mem_append_left _ (List.mem_append_left _ hp) | exact List.mem_append_left _ (List.mem_append_right _ hp) | (refine List.mem_append_left _ ?_; (repeat (refine List.Mem.tail _ ?_)); first | exact hp | exact List.mem_append_left _ hp | exact List.mem_append_right _ hp) | (refine List.mem_append_right _ ?_; (repeat (refine List.Mem.tail _ ?_)); first | exact hp | exact List.mem_append_left _ hp | exact List.mem_append_right _ hp)) id⟩⟩⟩)
      ⟨pt3, codes3, _, rfl, TI3, fun p hp => (hc5 p hp).imp id fun h => hL ▸ Nat.le_of_lt h, readable_out (w := w) (T := tups5) (by k_mem) (by k_mem) (by k_mem) hM5 (fun p hp => by (repeat (refine List.Mem.tail _ ?_)); first | exact hp | exact List.mem_append_left _ hp | exact List.mem_append_right _ hp | exact List.mem_append_left _ (List.mem_append_left _ hp) | exact List.mem_append_left _ (List.mem_append_right _ hp) | (refine List.mem_append_left _ ?_; (repeat (refine List.Mem.tail _ ?_)); first | exact hp | exact List.mem_append_left _ hp | exact List.mem_append_right _ hp) | (refine List.mem_append_right _ ?_; (repeat (refine List.Mem.tail _ ?_)); first | exact hp | exact List.mem_append_left _ hp | exact List.mem_append_right _ hp)) hd5 hf5 hv bigS (Nat.lt_trans bigS hSl)⟩
  · have hfw : fwd = false := by assumption
    have PL : Play w St (RV w lm S dd od) (fun g' => ∀ p ∈ (f1, fo1) :: (f2, fo2) :: (f3, fo3) :: (L' + 1 + 1 + 1 + 1, oM) :: (L' + 1 + 1 + 1, oD) :: (L' + 1 + 1, oT) :: (L' + 1, oL) :: codes3, g'.get? p.1 = some p.2) (.ref f3) (.ref f1) 5 (nxF fwd len) (visF cd len) :=
      ⟨PG hfw, PV, fun g' h => ⟨callable_fn (h (f3, fo3) (by first | ((repeat (first | exact List.Mem.head _ | refine List.Mem.tail _ ?_)); done) | k_mem)) ((congrArg Obj.data e3).trans rfl), callable_fn (h (f1, fo1) (by first | ((repeat (first | exact List.Mem.head _ | refine List.Mem.tail _ ?_)); done) | k_mem)) ((congrArg Obj.data e1).trans rfl)⟩, fun g' g'' h k p hp => k _ _ (h p hp)⟩
    rename Fr _ _ _ _ => F4
    rename News _ _ _ _ => N4
    rw [hfw] at W PL
    refine Spec.use (each_spec w PL W hR0 _ _) ((f3, fo3) :: (f2, fo2) :: (f1, fo1) :: (L' + 1 + 1 + 1 + 1, oM) :: (L' + 1 + 1 + 1, oD) :: (L' + 1 + 1, oT) :: (L' + 1, oL) :: (dt, ot) :: (107, tabObj pt3) :: codes3) B F4 X N4 T rfl
      (List.forall_mem_cons.mpr ⟨by k_mem, List.forall_mem_cons.mpr ⟨by k_mem, List.forall_mem_singleton.mpr (by k_mem)⟩⟩)
      (oth3 (by k_mem) (by k_ne) (by k_ne) (by k_ne) <| oth3 (by k_mem) (by k_ne) (by k_ne) (by k_ne) <| oth3 (by k_mem) (by k_ne) (by k_ne) (by k_ne) <| oth3 (by k_mem) (by k_ne) (by k_ne) (by k_ne) <| oth3 (by k_mem) (by k_ne) (by k_ne) (by k_ne) <| oth3 (by k_mem) (by k_ne) (by k_ne) (by k_ne) <| oth3 (by k_mem) (by k_ne) (by k_ne) (by k_ne) <| oth3 (by k_mem) (by k_ne) (by k_ne) (by k_ne) <| oth3 (by k_mem) (by k_ne) (by k_ne) (by k_ne) <| oth3t (fun p hp => by (repeat (refine List.Mem.tail _ ?_)); first | exact hp | exact List.mem_append_left _ hp | exact List.mem_append_right _ hp | exact List.mem_append_left _ (List.mem_append_left _ hp) | exact List.mem_append_left _ (List.mem_append_right _ hp) | (refine List.mem_append_left _ ?_; (repeat (refine List.Mem.tail _ ?_)); first | exact hp | exact List.mem_append_left _ hp | exact List.mem_append_right _ hp) | (refine List.mem_append_right _ ?_; (repeat (refine List.Mem.tail _ ?_)); first | exact hp | exact List.mem_append_left _ hp | exact List.mem_append_right _ hp)) hc4)
      (fun g1 _ _ hall p hp => hall _ _ (N4 p (by revert p; (repeat' (first | exact List.forall_mem_nil _ | (refine List.forall_mem_cons.mpr ⟨by first | ((repeat (first | exact List.Mem.head _ | refine List.Mem.tail _ ?_)); done) | k_mem, ?_⟩) | (refine List.forall_mem_append.mpr ⟨?_, ?_⟩))); all_goals (intro p hp; (repeat (refine List.Mem.tail _ ?_)); first | exact hp | exact List.mem_append_left _ hp | exact List.mem_append_right _ hp | exact List.mem_append_left _ (List.mem_append_left _ hp) | exact List.mem_append_left _ (List.mem_append_right _ hp) | (refine List.mem_append_left _ ?_; (repeat (refine List.Mem.tail _ ?_)); first | exact hp | exact List.mem_append_left _ hp | exact List.mem_append_right _ hp) | (refine List.mem_append_right _ ?_; (repeat (refine List.Mem.tail _ ?_)); first | exact hp | exact List.mem_append_left _ hp | exact List.mem_append_right _ hp)))).1 (hnin p hp)) (by dsimp only [ktrTop, Around.deeper]; omega) (by dsimp only [ktrTop, Around.deeper]; omega) ?_
    clear N4
    rintro h' tk v ps' ⟨⟨o5, kvs5, its5, nn5, tups5, rfl, htl5, hd5, hf5, hM5, -, -⟩, hv⟩ F5 N5 _ _ _
    replace N5 : News g L' h' ((lm, listOf its5 nn5) :: (S, o5) :: (dd, od) :: (f3, fo3) :: (f2, fo2) :: (f1, fo1) :: (L' + 1 + 1 + 1 + 1, oM) :: (L' + 1 + 1 + 1, oD) :: (L' + 1 + 1, oT) :: (L' + 1, oL) :: (dt, ot) :: (107, tabObj pt3) :: (codes3 ++ tups5)) := fun p hp => N5 p (reG p hp)
    repeat' ktr_rel
    rename Fr _ _ _ _ => F6
    rename News _ _ _ _ => N6
    refine fin (s := s) ret (ps' := (dt, ot) :: (dd, od) :: (107, tabObj pt3) :: (codes3 ++ _)) F6 N6 hL
      (List.forall_mem_cons.mpr ⟨by k_mem, List.forall_mem_cons.mpr ⟨by k_mem, List.forall_mem_cons.mpr ⟨by k_mem, fun p hp => (List.mem_append.mp hp).elim (fun hp => by (repeat (refine List.Mem.tail _ ?_)); first | exact hp | exact List.mem_append_left _ hp | exact List.mem_append_right _ hp | exact List.mem_append_left _ (List.mem_append_left _ hp) | exact List.mem_append_left _ (List.mem_append_right _ hp) | (refine List.mem_append_left _ ?_; (repeat (refine List.Mem.tail _ ?_)); first | exact hp | exact List.mem_append_left _ hp | exact List.mem_append_right _ hp) | (refine List.mem_append_right _ ?_; (repeat (refine List.Mem.tail _ ?_)); first | exact hp | exact List.mem_append_left _ hp | exact List.mem_append_right _ hp)) id⟩⟩⟩)
      ⟨pt3, codes3, _, rfl, TI3, fun p hp => (hc5 p hp).imp id fun h => hL ▸ Nat.le_of_lt h, readable_out (w := w) (T := tups5) (by k_mem) (by k_mem) (by k_mem) hM5 (fun p hp => by (repeat (refine List.Mem.tail _ ?_)); first | exact hp | exact List.mem_append_left _ hp | exact List.mem_append_right _ hp | exact List.mem_append_left _ (List.mem_append_left _ hp) | exact List.mem_append_left _ (List.mem_append_right _ hp) | (refine List.mem_append_left _ ?_; (repeat (refine List.Mem.tail _ ?_)); first | exact hp | exact List.mem_append_left _ hp | exact List.mem_append_right _ hp) | (refine List.mem_append_right _ ?_; (repeat (refine List.Mem.tail _ ?_)); first | exact hp | exact List.mem_append_left _ hp | exact List.mem_append_right _ hp)) hd5 hf5 hv bigS (Nat.lt_trans bigS hSl)⟩
end
end Mine
end

/-! Law -/
section
namespace Mine
open PySem PySem.W PySem.Spec PySem.Calls PyProof.Rows PyProof.V
set_option maxRecDepth 100000

theorem has_iff {c : List (Int × Int)} {a : Int} : kdfHas c a = true ↔ a ∈ c.map (·.1) := by
  unfold kdfHas
  rw [List.any_eq_true]
  constructor
  · rintro ⟨p, hp, e⟩; exact List.mem_map.mpr ⟨p, hp, of_decide_eq_true e⟩
  · intro h; obtain ⟨p, hp, e⟩ := List.mem_map.mp h; exact ⟨p, hp, decide_eq_true e⟩

theorem least_hit {a e : Int} (hae : a < e) : ∀ (ns : List Int) (f : Option Int), (∀ q ∈ f, a ≤ q) → (f = some a ∨ a ∈ ns) → ns.foldl (leastStep a e) f = some a
  | [], f, _, h => by rcases h with h | h; exact h; cases h
  | p :: ns, f, hf, h => by
    refine least_hit hae ns _ ?_ ?_
    · intro q hq
      unfold leastStep at hq
      split at hq
      · rename_i hc; cases hq; exact hc.1
      · exact hf q hq
    · by_cases hp : a ∈ ns
      · exact .inr hp
      · refine .inl ?_
        rcases h with rfl | h
        · unfold leastStep
          rw [if_neg]
          rintro ⟨h1, _, h3⟩
          have := h3 a rfl
          omega
        · rcases List.mem_cons.mp h with rfl | h
          · unfold leastStep
            cases f with
            | none => rw [if_pos ⟨Int.le_refl _, hae, fun q hq => nomatch hq⟩]
            | some x =>
              have := hf x rfl
              by_cases hx : x = a
              · subst hx
                rw [if_neg]
                rintro ⟨_, _, h3⟩
                have := h3 x rfl
                omega
              · rw [if_pos ⟨Int.le_refl _, hae, fun q hq => by cases hq; omega⟩]
          · exact absurd h hp
theorem least_skip {a e : Int} : ∀ (ns : List Int) (f : Option Int), a ∉ ns → ns.foldl (leastStep a e) f = ns.foldl (leastStep (a + 1) e) f
  | [], _, _ => rfl
  | p :: ns, f, h => by
    have hp : p ≠ a := fun e => h (e ▸ List.mem_cons_self)
    have : leastStep a e f p = leastStep (a + 1) e f p := by
      unfold leastStep
      have h1 : (a ≤ p) = (a + 1 ≤ p) := propext ⟨fun h => by omega, fun h => by omega⟩
      simp only [h1]
    rw [List.foldl_cons, List.foldl_cons, this]
    exact least_skip ns _ fun hm => h (List.mem_cons_of_mem _ hm)
theorem least_none {e : Int} : ∀ (ns : List Int), ns.foldl (leastStep e e) none = none
  | [] => rfl
  | p :: ns => by
    have : leastStep e e none p = none := by
      unfold leastStep
      rw [if_neg]
      rintro ⟨h1, h2, _⟩; omega
    rw [List.foldl_cons, this]
    exact least_none ns

theorem great_hit {a : Int} : ∀ (ns : List Int) (f : Option Int), (∀ q ∈ f, q ≤ a) → (f = some a ∨ a ∈ ns) → ns.foldl (greatStep a) f = some a
  | [], f, _, h => by rcases h with h | h; exact h; cases h
  | p :: ns, f, hf, h => by
    refine great_hit ns _ ?_ ?_
    · intro q hq
      unfold greatStep at hq
      split at hq
      · rename_i hc; cases hq; exact hc.1
      · exact hf q hq
    · by_cases hp : a ∈ ns
      · exact .inr hp
      · refine .inl ?_
        rcases h with rfl | h
        · unfold greatStep
          rw [if_neg]
          rintro ⟨h1, h3⟩
          have := h3 a rfl
          omega
        · rcases List.mem_cons.mp h with rfl | h
          · unfold greatStep
            cases f with
            | none => rw [if_pos ⟨Int.le_refl _, fun q hq => nomatch hq⟩]
            | some x =>
              have := hf x rfl
              by_cases hx : x = a
              · subst hx
                rw [if_neg]
                rintro ⟨_, h3⟩
                have := h3 x rfl
                omega
              · rw [if_pos ⟨Int.le_refl _, fun q hq => by cases hq; omega⟩]
          · exact absurd h hp
theorem great_skip {a : Int} : ∀ (ns : List Int) (f : Option Int), a ∉ ns → ns.foldl (greatStep a) f = ns.foldl (greatStep (a - 1)) f
  | [], _, _ => rfl
  | p :: ns, f, h => by
    have hp : p ≠ a := fun e => h (e ▸ List.mem_cons_self)
    have : greatStep a f p = greatStep (a - 1) f p := by
      unfold greatStep
      have h1 : (p ≤ a) = (p ≤ a - 1) := propext ⟨fun h => by omega, fun h => by omega⟩
      simp only [h1]
    rw [List.foldl_cons, List.foldl_cons, this]
    exact great_skip ns _ fun hm => h (List.mem_cons_of_mem _ hm)
theorem great_none {a : Int} : ∀ (ns : List Int), (∀ q ∈ ns, a < q) → ns.foldl (greatStep a) none = none
  | [], _ => rfl
  | p :: ns, h => by
    have : greatStep a none p = none := by
      unfold greatStep
      rw [if_neg]
      rintro ⟨h1, _⟩
      have := h p List.mem_cons_self
      omega
    rw [List.foldl_cons, this]
    exact great_none ns fun q hq => h q (List.mem_cons_of_mem _ hq)

theorem nx_hit {fwd : Bool} {len a : Int} {x : St} (ha : a < len) (h : kdfHas x.1 a = true) : nxF fwd len x a = some a := by
  have hm := has_iff.mp h
  unfold nxF
  split
  · exact least_hit ha _ none (fun q hq => nomatch hq) (.inr hm)
  · exact great_hit _ none (fun q hq => nomatch hq) (.inr (List.mem_filter.mpr ⟨hm, decide_eq_true ha⟩))
theorem nx_skip {fwd : Bool} {len a : Int} {x : St} (h : kdfHas x.1 a = false) : nxF fwd len x a = nxF fwd len x (a + if fwd then 1 else -1) := by
  have hm : a ∉ x.1.map (·.1) := fun hm => by rw [has_iff.mpr hm] at h; cases h
  unfold nxF
  cases fwd with
  | true => exact least_skip _ _ hm
  | false => exact great_skip _ _ fun hf => hm (List.mem_filter.mp hf).1

theorem Walk.start {σ : Type} {nx : σ → Int → Option Int} {vis : σ → Int → σ × Bool} {st : Int} {n : Nat} {x y : σ} {i j : Int} {r : Option Int} (e : nx x i = nx x j) (W : Walk nx vis st n x j y r) : Walk nx vis st n x i y r := by
  cases W with
  | stop h => exact .stop (e.trans h)
  | hit h h2 => exact .hit (e.trans h) h2
  | go h h2 W => exact .go (e.trans h) h2 W

theorem keys_put {c : List (Int × Int)} {k v : Int} (hk : 0 ≤ k) (h : ∀ p ∈ c, 0 ≤ p.1) : ∀ p ∈ kdfPut c k v, 0 ≤ p.1 := by
  unfold kdfPut
  split
  · intro p hp
    obtain ⟨q, hq, rfl⟩ := List.mem_map.mp hp
    split <;> exact h q hq
  · intro p hp
    rcases List.mem_append.mp hp with hp | hp
    · exact h p hp
    · rw [List.mem_singleton.mp hp]; exact hk
theorem keys_do {c : List (Int × Int)} {x len : Int} (hl : 0 ≤ len) (h : ∀ p ∈ c, 0 ≤ p.1) : ∀ p ∈ doC c x len, 0 ≤ p.1 := by
  unfold doC
  split
  · exact keys_put (Int.fmod_nonneg_of_pos _ (by omega)) h
  · split
    · exact fun p hp => h p (List.mem_filter.mp hp).1
    · exact h
theorem keys_vis {cd : List (Int × Int)} {len a : Int} {x : St} (hl : 0 ≤ len) (h : ∀ p ∈ x.1, 0 ≤ p.1) : ∀ p ∈ (visF cd len x a).1.1, 0 ≤ p.1 := by
  unfold visF
  split
  · exact keys_do hl h
  · exact h

theorem walk_plain {cd : List (Int × Int)} {len : Int} {fwd : Bool} (hl : 0 ≤ len) : ∀ (k : Nat) (i : Int) (x : St), 0 ≤ i → i + k = len → (∀ p ∈ x.1, 0 ≤ p.1) →
    ∃ n, n ≤ k ∧ Walk (nxF fwd len) (visF cd len) (if fwd then 1 else -1) n x (atF fwd len i) (plainGo cd len fwd k i x).1 (plainGo cd len fwd k i x).2
  | 0, i, x, h0, hi, hx => by
    refine ⟨0, Nat.le_refl _, .stop ?_⟩
    have hi' : i = len := by omega
    unfold nxF atF
    cases fwd with
    | true => simp only [if_true]; rw [hi']; exact least_none _
    | false =>
      simp only [Bool.false_eq_true, if_false]
      refine great_none _ fun q hq => ?_
      obtain ⟨p, hp, rfl⟩ := List.mem_map.mp (List.mem_filter.mp hq).1
      have := hx p hp
      omega
  | k + 1, i, x, h0, hi, hx => by
    have ha : atF fwd len i < len := by unfold atF; split <;> omega
    have hs : atF fwd len i + (if fwd then 1 else -1) = atF fwd len (i + 1) := by unfold atF; cases fwd <;> simp <;> omega
    cases hh : kdfHas x.1 (atF fwd len i) with
    | true =>
      cases hv : (visF cd len x (atF fwd len i)).2 with
      | true =>
        have hp : plainGo cd len fwd (k + 1) i x = ((visF cd len x (atF fwd len i)).1, some (atF fwd len i)) := by rw [plainGo, if_pos hh, if_pos hv]
        rw [hp]
        exact ⟨1, by omega, .hit (nx_hit ha hh) hv⟩
      | false =>
        have hp : plainGo cd len fwd (k + 1) i x = plainGo cd len fwd k (i + 1) (visF cd len x (atF fwd len i)).1 := by rw [plainGo, if_pos hh, if_neg (by rw [hv]; decide)]
        rw [hp]
        obtain ⟨n, hn, W⟩ := walk_plain hl k (i + 1) (visF cd len x (atF fwd len i)).1 (by omega) (by omega) (keys_vis hl hx)
        rw [← hs] at W
        exact ⟨n + 1, by omega, .go (nx_hit ha hh) hv W⟩
    | false =>
      have hp : plainGo cd len fwd (k + 1) i x = plainGo cd len fwd k (i + 1) x := by rw [plainGo, if_neg (by rw [hh]; decide)]
      rw [hp]
      obtain ⟨n, hn, W⟩ := walk_plain hl k (i + 1) x (by omega) (by omega) hx
      exact ⟨n, by omega, W.start (by rw [nx_skip hh, hs])⟩
end Mine
end

/-! Joined -/
section
namespace Mine
open PySem PySem.W PySem.Spec PySem.Calls PyProof.Rows PyProof.V
set_option maxRecDepth 100000
set_option maxHeartbeats 8000000

/-- None, or a text -/
def OptS (v : Value) (o : Option Str) : Prop := match o with | none => v = .none | some x => ∃ t, v = .str x t

def txt (a : Int) : Str := Str.ofString (toString a)
theorem txt_len {a : Int} (h : a.natAbs < 100000) : (txt a).length ≤ 6 := by
  unfold txt
  rw [PySem.ofString_length]
  exact int_text_length_le10 (k := 5) (by decide) h
theorem log2_small {a : Int} (h : a.natAbs < 100000) : a.natAbs.log2 < 1920 := by
  have : a.natAbs < 2 ^ 17 := Nat.lt_of_lt_of_le h (by decide)
  by_cases hz : a.natAbs = 0
  · rw [hz]; decide
  · exact Nat.lt_of_lt_of_le ((Nat.log2_lt hz).mpr this) (by decide)
theorem str_small {prog : Program} {w : World} {A : Around} {E : Value → Shared → Prop} {s : Shared} {a : Int} {t : Tok} {Q : Value → Shared → Prop} (ha : a.natAbs < 100000) (h : ∀ t' tk', Q (.str (txt a) t') { s with toks := tk' }) : wpAny (model prog w) A (call (.type "str") [.int a t]) Q E s :=
  PySem.P.str_of_int (log2_small ha) (h _ _)

def joinF (c : List (Int × Int)) (f : Option Str) (a : Int) : Option Str := match f with
  | none => some (txt (kdfLook c a 0))
  | some x => some (x ++ Str.ofString "," ++ txt (kdfLook c a 0) ++ Str.ofString "@" ++ txt a)
noncomputable def joinGo (c : List (Int × Int)) (len : Int) (fwd : Bool) : Nat → Int → Option Str → Option Str
  | 0, _, f => f
  | k + 1, i, f => joinGo c len fwd k (i + 1) (if kdfHas c (atF fwd len i) = true then joinF c f (atF fwd len i) else f)
theorem join_go {c : List (Int × Int)} {len : Int} {fwd : Bool} {N i : Nat} {f : Option Str} {a : Int} (ha : a = atF fwd len i) (hi : i < N) : joinGo c len fwd (N - i) i f = joinGo c len fwd (N - (i + 1)) (i + 1 : Nat) (if kdfHas c a = true then joinF c f a else f) := by
  subst ha
  rw [show N - i = (N - (i + 1)) + 1 by omega, joinGo]; rfl
theorem look_all {P : Int → Prop} {c : List (Int × Int)} {a : Int} (h0 : P 0) (h : ∀ p ∈ c, P p.2) : P (kdfLook c a 0) := by
  unfold kdfLook
  cases hf : c.find? (fun p => decide (p.1 = a)) with
  | none => exact h0
  | some p => exact h p (List.mem_of_find?_eq_some hf)
theorem joinF_len {c : List (Int × Int)} {a : Int} {x y : Str} (h1 : (kdfLook c a 0).natAbs < 100000) (h2 : a.natAbs < 100000) (e : joinF c (some x) a = some y) : y.length ≤ x.length + 20 := by
  have l1 := txt_len h1
  have l2 := txt_len h2
  cases e
  simp only [PySem.Str.length_append, PySem.ofString_length]
  have e1 : ",".length = 1 := by decide
  have e2 : "@".length = 1 := by decide
  omega

section
local macro_rules | `(tactic| ktr_rel) => `(tactic| ((fail_if_success (with_reducible show wpAny _ _ (pyIter _) _ _ _)); (fail_if_success (with_reducible show wpAny _ _ (exec (Stmt.For _ _ _ _ _) _) _ _ _)); (fail_if_success (with_reducible show wpAny _ _ (binaryOp _ (Value.str _ _) _) _ _ _)); (fail_if_success (with_reducible show wpAny _ _ (call (Value.type "str") _) _ _ _)); (first | (k_unfold; (try dsimp only)) | (k_end; wrow_close) | walk1 | (dsimp only; walk1) | (leave1; (try dsimp only)))))
local macro_rules | `(tactic| ktr_room) => `(tactic| ((try simp only [depth_in1, depth_deeper]); (try dsimp only [ktrTop]); omega))

theorem joined_spec (w : World) (fwd : Bool) {dt : Addr} {ot : Obj} {kt : List (Int × Value)} {ct : List (Int × Int)} (hdt : ot.IsDictOf (PySem.intKind PySem.Challenge.rw_nt0339_01.row.prog w) kt) (hft : FlatPairs PyData.int kt (kdfD ct)) (lot : (dt == sysModules) = false)
    (len : Int) (hl0 : 4 ≤ len) (hl1 : len ≤ 12) (t1 : Tok) {op : Option Str} {vo : Value} (ho : OptS vo op) (hop : ∀ x ∈ op, x.length ≤ 10) (hval : ∀ p ∈ ct, p.2.natAbs < 100000) :
    Spec w (.ref 119) [.int len t1, .ref dt, vo, .bool fwd] 4 (fun _ => True) [(dt, ot)] (fun _ v ps' => ps' = [(dt, ot)] ∧ OptS v (joinGo ct len fwd len.toNat 0 op)) := by
  unfold Spec
  k_fill
  intro dp un gd cn cs L a ccd cl outer base g p loose mean mg mb s Q E hcs hdp hun B X T hn hk hsz H ret
  refine wpAny_call ?_
  refine' enterXK (binds := [("length", .int len t1), ("things", .ref dt), ("opening", vo), ("is_forward", .bool fwd)]) X T hk hsz H ?k6 ?k7 ?k8 ?k9 ?kB ?_ ?c5 ?c2 ?c3 ?c4
  case k6 => k_is
  case k7 => k_is
  case k8 => (dsimp only [ktrTop]; omega)
  case k9 => exact BindsTo.of_eq rfl
  case kB => exact locs rfl
  case c5 => decide
  case c2 => exact rfl
  case c3 => exact rfl
  case c4 => exact rfl
  intro L' h₁ hL F N hlt
  repeat' ktr_rel
  refine For_invV g (by rfl) (by rfl) ?_
  repeat' ktr_rel
  rename Fr _ _ _ _ => F3
  rename News _ _ _ _ => N3
  refine iterR (n := len.toNat) (fun i m nw => nw = [(dt, ot)] ∧ ∃ fv fo, m "found" = some fv ∧ OptS fv fo ∧ (∀ x ∈ fo, x.length ≤ 100 + 30 * i) ∧ i ≤ len.toNat ∧ joinGo ct len fwd len.toNat 0 op = joinGo ct len fwd (len.toNat - i) i fo ∧ m "things" = some (.ref dt) ∧ m "length" = some (.int len t1) ∧ m "is_forward" = some (.bool fwd))
    rfl (by assumption) (small_one (by omega) (by omega) (by omega) (by omega)) (by rw [rangeSize_nat, Int.sub_zero]) F3 N3 ⟨rfl, vo, op, rfl, ho, (fun x hx => Nat.le_trans (hop x hx) (by omega)), by omega, rfl, rfl, rfl, rfl⟩ ?_ ?_
  · clear F3 N3
    rintro i ti m₁ nw h tk I oI hi ⟨rfl, fv, fo, e1, hfv, hfl, _, hgo, e2, e3, e4⟩ hoff F N
    rw [Int.zero_add] at F
    rw [pin e1] at F
    rw [pin e2] at F
    rw [pin e3] at F
    rw [pin e4] at F
    cases fwd with
    | true =>
      have ha : (i : Int) = atF true len i := rfl
      have h1 : (kdfLook ct (i : Int) 0).natAbs < 100000 := look_all (P := fun z => z.natAbs < 100000) (by decide) hval
      have h2 : ((i : Int) : Int).natAbs < 100000 := by omega
      have l1 := txt_len h1
      have l2 := txt_len h2
      have u1 : ",".length = 1 := by decide
      have u2 : "@".length = 1 := by decide
      have hstep := hgo.trans (join_go ha hi)
      cases fo with
      | none =>
        cases hfv
        repeat' ktr_rel
        · refine str_small h1 ?_
          intro t' tk'
          repeat' ktr_rel
          rename Fr _ _ _ _ => F6
          rename News _ _ _ _ => N6
          rw [if_pos (by assumption)] at hstep
          exact ⟨_, _, _, [(dt, ot)], rfl, F6, N6, hoff, rfl, _, some (txt (kdfLook ct (i : Int) 0)), rfl, ⟨_, rfl⟩, (fun x hx => by cases hx; omega), hi, hstep, rfl, rfl, rfl⟩
        · rename Fr _ _ _ _ => F6
          rename News _ _ _ _ => N6
          rw [if_neg (Bool.eq_false_iff.mp (by assumption))] at hstep
          exact ⟨_, _, _, [(dt, ot)], rfl, F6, N6, hoff, rfl, _, none, rfl, rfl, (fun x hx => nomatch hx), hi, hstep, rfl, rfl, rfl⟩
      | some x =>
        obtain ⟨tx, rfl⟩ := hfv
        have hx := hfl x rfl
        repeat' ktr_rel
        · refine PyProof.Rows.add_str ?_ (by rw [sizeLine_eq, PySem.ofString_length]; omega)
          intro t3 tk3
          repeat' ktr_rel
          refine str_small h1 ?_
          intro t4 tk4
          repeat' ktr_rel
          refine PyProof.Rows.add_str ?_ (by rw [sizeLine_eq, PySem.Str.length_append, PySem.ofString_length]; omega)
          intro t5 tk5
          repeat' ktr_rel
          refine PyProof.Rows.add_str ?_ (by rw [sizeLine_eq, PySem.Str.length_append, PySem.Str.length_append, PySem.ofString_length, PySem.ofString_length]; omega)
          intro t6 tk6
          repeat' ktr_rel
          refine str_small h2 ?_
          intro t7 tk7
          repeat' ktr_rel
          refine PyProof.Rows.add_str ?_ (by rw [sizeLine_eq, PySem.Str.length_append, PySem.Str.length_append, PySem.Str.length_append, PySem.ofString_length, PySem.ofString_length]; omega)
          intro t8 tk8
          repeat' ktr_rel
          rename Fr _ _ _ _ => F6
          rename News _ _ _ _ => N6
          rw [if_pos (by assumption)] at hstep
          exact ⟨_, _, _, [(dt, ot)], rfl, F6, N6, hoff, rfl, _, joinF ct (some x) (i : Int), rfl, ⟨_, rfl⟩, (fun y hy => by cases hy; have := joinF_len (x := x) h1 h2 rfl; omega), hi, hstep, rfl, rfl, rfl⟩
        · rename Fr _ _ _ _ => F6
          rename News _ _ _ _ => N6
          rw [if_neg (Bool.eq_false_iff.mp (by assumption))] at hstep
          exact ⟨_, _, _, [(dt, ot)], rfl, F6, N6, hoff, rfl, _, some x, rfl, ⟨_, rfl⟩, (fun y hy => by cases hy; omega), hi, hstep, rfl, rfl, rfl⟩
    | false =>
      have ha : (len - 1 - (i : Int)) = atF false len i := rfl
      have h1 : (kdfLook ct (len - 1 - (i : Int)) 0).natAbs < 100000 := look_all (P := fun z => z.natAbs < 100000) (by decide) hval
      have h2 : ((len - 1 - (i : Int)) : Int).natAbs < 100000 := by omega
      have l1 := txt_len h1
      have l2 := txt_len h2
      have u1 : ",".length = 1 := by decide
      have u2 : "@".length = 1 := by decide
      have hstep := hgo.trans (join_go ha hi)
      cases fo with
      | none =>
        cases hfv
        repeat' ktr_rel
        · refine str_small h1 ?_
          intro t' tk'
          repeat' ktr_rel
          rename Fr _ _ _ _ => F6
          rename News _ _ _ _ => N6
          rw [if_pos (by assumption)] at hstep
          exact ⟨_, _, _, [(dt, ot)], rfl, F6, N6, hoff, rfl, _, some (txt (kdfLook ct (len - 1 - (i : Int)) 0)), rfl, ⟨_, rfl⟩, (fun x hx => by cases hx; omega), hi, hstep, rfl, rfl, rfl⟩
        · rename Fr _ _ _ _ => F6
          rename News _ _ _ _ => N6
          rw [if_neg (Bool.eq_false_iff.mp (by assumption))] at hstep
          exact ⟨_, _, _, [(dt, ot)], rfl, F6, N6, hoff, rfl, _, none, rfl, rfl, (fun x hx => nomatch hx), hi, hstep, rfl, rfl, rfl⟩
      | some x =>
        obtain ⟨tx, rfl⟩ := hfv
        have hx := hfl x rfl
        repeat' ktr_rel
        · refine PyProof.Rows.add_str ?_ (by rw [sizeLine_eq, PySem.ofString_length]; omega)
          intro t3 tk3
          repeat' ktr_rel
          refine str_small h1 ?_
          intro t4 tk4
          repeat' ktr_rel
          refine PyProof.Rows.add_str ?_ (by rw [sizeLine_eq, PySem.Str.length_append, PySem.ofString_length]; omega)
          intro t5 tk5
          repeat' ktr_rel
          refine PyProof.Rows.add_str ?_ (by rw [sizeLine_eq, PySem.Str.length_append, PySem.Str.length_append, PySem.ofString_length, PySem.ofString_length]; omega)
          intro t6 tk6
          repeat' ktr_rel
          refine str_small h2 ?_
          intro t7 tk7
          repeat' ktr_rel
          refine PyProof.Rows.add_str ?_ (by rw [sizeLine_eq, PySem.Str.length_append, PySem.Str.length_append, PySem.Str.length_append, PySem.ofString_length, PySem.ofString_length]; omega)
          intro t8 tk8
          repeat' ktr_rel
          rename Fr _ _ _ _ => F6
          rename News _ _ _ _ => N6
          rw [if_pos (by assumption)] at hstep
          exact ⟨_, _, _, [(dt, ot)], rfl, F6, N6, hoff, rfl, _, joinF ct (some x) (len - 1 - (i : Int)), rfl, ⟨_, rfl⟩, (fun y hy => by cases hy; have := joinF_len (x := x) h1 h2 rfl; omega), hi, hstep, rfl, rfl, rfl⟩
        · rename Fr _ _ _ _ => F6
          rename News _ _ _ _ => N6
          rw [if_neg (Bool.eq_false_iff.mp (by assumption))] at hstep
          exact ⟨_, _, _, [(dt, ot)], rfl, F6, N6, hoff, rfl, _, some x, rfl, ⟨_, rfl⟩, (fun y hy => by cases hy; omega), hi, hstep, rfl, rfl, rfl⟩
  · clear F3 N3
    rintro m₁ nw h tk ⟨rfl, fv, fo, e1, hfv, hfl, _, hgo, e2, e3, e4⟩ F N
    rw [pin e1] at F
    repeat' ktr_rel
    rw [Nat.sub_self] at hgo
    refine fin (s := s) ret (ps' := [(dt, ot)]) F N hL (fun p hp => hp) ⟨rfl, ?_⟩
    rw [hgo]
    exact hfv
end
end Mine
end

/-! World -/
section
namespace Mine
open PySem PySem.W PySem.Spec PySem.Calls PyProof.Rows PyProof.V
set_option maxRecDepth 100000
set_option maxHeartbeats 8000000

theorem fmod_lo (x : Int) : (4 : Int) ≤ 4 + x.fmod 9 := by
  have := Int.fmod_nonneg_of_pos x (b := 9) (by decide); omega
theorem fmod_hi (x : Int) : 4 + x.fmod 9 ≤ (12 : Int) := by
  have := Int.fmod_lt_of_pos x (b := 9) (by decide); omega
theorem worldAt {w : World} {g h : Heap} {L : Addr} {m : Str → Option Value} {news : Led} {dt dd l : Nat} {ot od oa ob : Obj} {len : Int} {tl : Tok} (F : Fr g L h m) (N : News g L h news) (a1 : (dt, ot) ∈ news) (a2 : (dd, od) ∈ news) (a3 : ((121 : Addr), oa) ∈ news) (a4 : ((107 : Addr), ob) ∈ news)
    (h1 : m "things" = some (.ref dt)) (h2 : m "deeds" = some (.ref dd)) (h3 : m "length" = some (.int len tl)) (h4 : m "script" = some (.ref l)) (b1 : 4 ≤ len) (b2 : len ≤ 12) (n : dt < dd) (n1 : 121 < dt) (lo1 : ((dt : Addr) == sysModules) = false) (lo2 : ((dd : Addr) == sysModules) = false)
    (d1 : ot.IsDictOf (PySem.intKind PySem.Challenge.rw_nt0339_01.row.prog w) []) (d2 : od.IsDictOf (PySem.intKind PySem.Challenge.rw_nt0339_01.row.prog w) []) :
    ∃ (dt dd : Nat) (ot od : Obj) (len : Int) (tl : Tok) (m : Str → Option Value), Fr g L h m ∧ News g L h [(dt, ot), (dd, od), ((121 : Addr), oa), ((107 : Addr), ob)] ∧ m "things" = some (.ref dt) ∧ m "deeds" = some (.ref dd) ∧ m "length" = some (.int len tl) ∧ m "script" = some (.ref l) ∧ 4 ≤ len ∧ len ≤ 12 ∧ dt < dd ∧ 121 < dt ∧ ((dt : Addr) == sysModules) = false ∧ ((dd : Addr) == sysModules) = false ∧
      ot.IsDictOf (PySem.intKind PySem.Challenge.rw_nt0339_01.row.prog w) [] ∧ od.IsDictOf (PySem.intKind PySem.Challenge.rw_nt0339_01.row.prog w) [] :=
  ⟨dt, dd, ot, od, len, tl, m, F, List.forall_mem_cons.mpr ⟨N _ a1, List.forall_mem_cons.mpr ⟨N _ a2, List.forall_mem_cons.mpr ⟨N _ a3, List.forall_mem_singleton.mpr (N _ a4)⟩⟩⟩, h1, h2, h3, h4, b1, b2, n, n1, lo1, lo2, d1, d2⟩

def keysIn (len : Int) (c : List (Int × Int)) : Prop := ∀ p ∈ c, 0 ≤ p.1 ∧ p.1 < len
def valsIn (c : List (Int × Int)) : Prop := ∀ p ∈ c, 0 ≤ p.2 ∧ p.2 < 1000

theorem put_all {P : Int × Int → Prop} {c : List (Int × Int)} {k v : Int} (hk : P (k, v)) (h : ∀ p ∈ c, P p) : ∀ p ∈ kdfPut c k v, P p := by
  unfold kdfPut
  split
  · intro p hp
    obtain ⟨q, hq, rfl⟩ := List.mem_map.mp hp
    by_cases e : q.1 = k
    · simp only [e]; exact hk
    · simp only [e]; exact h q hq
  · intro p hp
    rcases List.mem_append.mp hp with hp | hp
    · exact h p hp
    · rw [List.mem_singleton.mp hp]; exact hk
theorem mod_in {x len : Int} (h : 4 ≤ len) : 0 ≤ x.fmod len ∧ x.fmod len < len := ⟨Int.fmod_nonneg_of_pos x (by omega), Int.fmod_lt_of_pos x (by omega)⟩

def WorldOut (w : World) (oa ob : Obj) (v : Value) (ps : Led) : Prop :=
  ∃ (T dt dd : Nat) (ot od : Obj) (len : Int) (tl : Tok) (kt kd : List (Int × Value)) (ct cd : List (Int × Int)), v = .ref T ∧
    ps = [(T, { cls := Value.type "tuple", data := Data.seq #[Value.int len tl, Value.ref dt, Value.ref dd] }), (dt, ot), (dd, od), ((121 : Addr), oa), ((107 : Addr), ob)] ∧
    ot.IsDictOf (PySem.intKind PySem.Challenge.rw_nt0339_01.row.prog w) kt ∧ FlatPairs PyData.int kt (kdfD ct) ∧ od.IsDictOf (PySem.intKind PySem.Challenge.rw_nt0339_01.row.prog w) kd ∧ FlatPairs PyData.int kd (kdfD cd) ∧
    ct.length ≤ 23 ∧ cd.length ≤ 23 ∧ keysIn len ct ∧ keysIn len cd ∧ valsIn ct ∧ 4 ≤ len ∧ len ≤ 12 ∧ dt < dd ∧ 121 < dt ∧ ((dt : Addr) == sysModules) = false ∧ ((dd : Addr) == sysModules) = false

/-- where the two ways of the length meet -/
def WorldMid (s : Shared) (g : Heap) (L l : Addr) (news : Led) (fl : Flow) (s' : Shared) : Prop :=
  fl = Flow.next ∧ ∃ (h : Heap) (tk : Nat) (len : Int) (tl : Tok) (m : Str → Option Value), s' = { s with heap := h, toks := tk } ∧ Fr g L h m ∧ News g L h news ∧ m "script" = some (.ref l) ∧ m "length" = some (.int len tl) ∧ 4 ≤ len ∧ len ≤ 12

section
local macro_rules | `(tactic| ktr_rel) => `(tactic| ((fail_if_success (with_reducible show wpAny _ _ (pyIter _) _ _ _)); (fail_if_success (with_reducible show wpAny _ _ (exec (Stmt.For _ _ _ _ _) _) _ _ _)); (first | (k_unfold; (try dsimp only)) | (k_end; wrow_close) | walk1 | (dsimp only; walk1) | (leave1; (try dsimp only)))))
local macro_rules | `(tactic| ktr_room) => `(tactic| ((try simp only [depth_in1, depth_deeper]); (try dsimp only [ktrTop]); omega))

theorem world_spec (w : World) {oa ob : Obj} {l : Addr} {vs : List Value} {ns : List Int} (hi : IntsAre vs ns) (hns : ns.length ≤ 63) :
    Spec w (.ref 91) [.ref l] 4 (fun g => g.IsList l vs.toArray) [((121 : Addr), oa), ((107 : Addr), ob)] (fun _ v ps' => WorldOut w oa ob v ps') := by
  unfold Spec
  k_fill
  intro dp un gd cn cs L a ccd cl outer base g p loose mean mg mb s Q E hcs hdp hun B X T hn hk hsz H ret
  refine wpAny_call ?_
  refine' enterXK (binds := [("script", .ref l)]) X T hk hsz H ?k6 ?k7 ?k8 ?k9 ?kB ?_ ?c5 ?c2 ?c3 ?c4
  case k6 => k_is
  case k7 => k_is
  case k8 => (dsimp only [ktrTop]; omega)
  case k9 => exact BindsTo.of_eq rfl
  case kB => exact locs rfl
  case c5 => decide
  case c2 => exact rfl
  case c3 => exact rfl
  case c4 => exact rfl
  intro L' h₁ hL F N hlt
  repeat' ((fail_if_success (with_reducible show wpAny _ _ (exec (Stmt.Assign _ _ _) _) _ _ _)); ktr_rel)
  rename Fr _ _ _ _ => F5
  rename News _ _ _ _ => N5
  refine wpAny_mono (Q := WorldMid s g L' l [((121 : Addr), oa), ((107 : Addr), ob)]) ?_ ?_ (fun _ _ h => h)
  · repeat' ktr_rel
    · rename Fr _ _ _ _ => F6
      rename News _ _ _ _ => N6
      unfold WorldMid
      exact ⟨rfl, _, _, _, _, _, rfl, F6, N6, rfl, rfl, by first | exact fmod_lo _ | exact fmod_hi _, by first | exact fmod_lo _ | exact fmod_hi _⟩
    · rename Fr _ _ _ _ => F6
      rename News _ _ _ _ => N6
      unfold WorldMid
      exact ⟨rfl, _, _, _, _, _, rfl, F6, N6, rfl, rfl, by decide, by decide⟩
  clear F5 N5
  rintro _ _ ⟨rfl, h7, tk7, len0, tl0, m0, rfl, F7, N7, k1, k2, c1, c2⟩
  rw [pin k1] at F7
  rw [pin k2] at F7
  clear k1 k2
  dsimp only
  repeat' ktr_rel
  rename Fr _ _ _ _ => F6
  rename News _ _ _ _ => N6
  obtain ⟨dt, dd, ot0, od0, len, tl, m, F7, N7, m1, m2, m3, m4, b1, b2, nd, n21, lo1, lo2, d1, d2⟩ := worldAt (w := w) F6 N6 (by k_mem) (by k_mem) (by k_mem) (by k_mem) rfl rfl rfl rfl c1 c2 (by omega) (by omega) (by assumption) (by assumption) (by assumption) (by assumption)
  clear F6 N6
  rw [pin m1] at F7
  rw [pin m2] at F7
  rw [pin m3] at F7
  rw [pin m4] at F7
  refine For_invV g (by rfl) (by rfl) ?_
  repeat' ktr_rel
  rename IntsAre _ _ => hI
  rename Fr _ _ _ _ => F3
  rename News _ _ _ _ => N3
  have hcnt : (List.take (min 24 ns.length - 1) (List.drop 1 ns)).length ≤ 23 := by simp; omega
  revert hI hcnt
  generalize List.take (min 24 ns.length - 1) (List.drop 1 ns) = ms
  intro hI hcnt
  refine iterLed (ns := ms) (news := [(dt, ot0), (dd, od0), ((121 : Addr), oa), ((107 : Addr), ob)]) (fun i m nw => ∃ (ot od : Obj) (kt kd : List (Int × Value)) (ct cd : List (Int × Int)), nw = [(dt, ot), (dd, od), ((121 : Addr), oa), ((107 : Addr), ob)] ∧
      ot.IsDictOf (PySem.intKind PySem.Challenge.rw_nt0339_01.row.prog w) kt ∧ FlatPairs PyData.int kt (kdfD ct) ∧ od.IsDictOf (PySem.intKind PySem.Challenge.rw_nt0339_01.row.prog w) kd ∧ FlatPairs PyData.int kd (kdfD cd) ∧
      ct.length ≤ i ∧ cd.length ≤ i ∧ keysIn len ct ∧ keysIn len cd ∧ valsIn ct ∧ i ≤ ms.length ∧ m "things" = some (.ref dt) ∧ m "deeds" = some (.ref dd) ∧ m "length" = some (.int len tl))
    rfl hI F3 N3 (List.Mem.head _) (fun p hp => List.mem_cons_of_mem _ hp) ⟨ot0, od0, [], [], [], [], rfl, d1, .nil, d2, .nil, Nat.le_refl _, Nat.le_refl _, (fun _ h => nomatch h), (fun _ h => nomatch h), (fun _ h => nomatch h), Nat.zero_le _, rfl, rfl, rfl⟩ ?_ ?_
  · clear F3 N3
    rintro i n ti m₁ nw h tk I oI ol hn ⟨ot, od, kt, kd, ct, cd, rfl, hdt, hft, hdd, hfd, hct, hcd, kin, kid, vin, hile, e1, e2, e3⟩ hoff F N
    have hi2 : i < ms.length := (List.getElem?_eq_some_iff.mp hn).1
    rw [pin e1] at F
    rw [pin e2] at F
    rw [pin e3] at F
    have q1 := neN (hoff (dt, ot) (by first | ((repeat (first | exact List.Mem.head _ | refine List.Mem.tail _ ?_)); done) | k_mem))
    have q2 := neN (hoff (dd, od) (by first | ((repeat (first | exact List.Mem.head _ | refine List.Mem.tail _ ?_)); done) | k_mem))
    repeat' ktr_rel
    · rename Fr _ _ _ _ => F6
      rename News _ _ _ _ => N6
      exact ⟨_, _, _, [(dt, _), (dd, od), ((121 : Addr), oa), ((107 : Addr), ob)], rfl, F6, N6, List.forall_mem_cons.mpr ⟨hoff (dt, ot) (List.Mem.head _), fun p hp => hoff p (List.mem_cons_of_mem _ hp)⟩,
        _, od, _, kd, _, cd, rfl, (by assumption), (by assumption), hdd, hfd, Nat.le_trans (kdfPut_len _ _ _) (by omega), by omega, put_all (mod_in b1) kin, kid, put_all (mod_in (by decide)) vin, hi2, rfl, rfl, rfl⟩
    · rename Fr _ _ _ _ => F6
      rename News _ _ _ _ => N6
      exact ⟨_, _, _, [(dt, ot), (dd, _), ((121 : Addr), oa), ((107 : Addr), ob)], rfl, F6, N6, List.forall_mem_cons.mpr ⟨hoff (dt, ot) (List.Mem.head _), List.forall_mem_cons.mpr ⟨hoff (dd, od) (List.Mem.tail _ (List.Mem.head _)), fun p hp => hoff p (List.mem_cons_of_mem _ (List.mem_cons_of_mem _ hp))⟩⟩,
        ot, _, kt, _, ct, _, rfl, hdt, hft, (by assumption), (by assumption), by omega, Nat.le_trans (kdfPut_len _ _ _) (by omega), kin, put_all (mod_in b1) kid, vin, hi2, rfl, rfl, rfl⟩
  · clear F3 N3
    rintro m₁ nw h tk ⟨ot, od, kt, kd, ct, cd, rfl, hdt, hft, hdd, hfd, hct, hcd, kin, kid, vin, hile, e1, e2, e3⟩ F N
    rw [pin e1] at F
    rw [pin e2] at F
    rw [pin e3] at F
    repeat' ktr_rel
    rename Fr _ _ _ _ => F6
    rename News _ _ _ _ => N6
    exact fin (s := s) ret F6 N6 hL (fun p hp => hp) ⟨_, dt, dd, ot, od, len, tl, kt, kd, ct, cd, rfl, rfl, hdt, hft, hdd, hfd, by omega, by omega, kin, kid, vin, b1, b2, nd, n21, lo1, lo2⟩
end
end Mine
end

/-! Show -/
section
namespace Mine
open PySem PySem.W PySem.Spec PySem.Calls PyProof.Rows PyProof.V
set_option maxRecDepth 100000

def SmP (p : Int × Int) : Prop := p.1.natAbs < 100000 ∧ p.2.natAbs < 100000
theorem fmod_small {x y : Int} (h : 0 < y) (h2 : y ≤ 1000) : (x.fmod y).natAbs < 1000 := by
  have h3 := Int.fmod_nonneg_of_pos x h
  have h4 := Int.fmod_lt_of_pos x h
  omega
theorem sm_do {c : List (Int × Int)} {x len : Int} (b1 : 4 ≤ len) (b2 : len ≤ 12) (h : ∀ p ∈ c, SmP p) : ∀ p ∈ doC c x len, SmP p := by
  unfold doC
  split
  · refine put_all ⟨?_, ?_⟩ h
    · have := fmod_small (x := x.fdiv 7) (y := len + 2) (by omega) (by omega); show ((x.fdiv 7).fmod (len + 2)).natAbs < 100000; omega
    · have := fmod_small (x := x) (y := 50) (by omega) (by omega); show (1000 + x.fmod 50).natAbs < 100000; omega
  · split
    · exact fun p hp => h p (List.mem_filter.mp hp).1
    · exact h
def SmS (x : St) : Prop := (∀ p ∈ x.1, SmP p) ∧ (∀ p ∈ x.2, SmP p)
theorem sm_vis {cd : List (Int × Int)} {len a : Int} {x : St} (b1 : 4 ≤ len) (b2 : len ≤ 12) (ha : a.natAbs < 100000) (h : SmS x) : SmS (visF cd len x a).1 ∧ (visF cd len x a).1.1.length ≤ x.1.length + 1 ∧ (visF cd len x a).1.2.length ≤ x.2.length + 1 := by
  have hq : (kdfLook x.1 a 0).natAbs < 100000 := look_all (P := fun z => z.natAbs < 100000) (by decide) fun p hp => (h.1 p hp).2
  have hm : ∀ p ∈ x.2 ++ [(a, kdfLook x.1 a 0)], SmP p := fun p hp => by
    rcases List.mem_append.mp hp with hp | hp
    · exact h.2 p hp
    · rw [List.mem_singleton.mp hp]; exact ⟨ha, hq⟩
  unfold visF
  split
  · exact ⟨⟨sm_do b1 b2 h.1, hm⟩, doC_len _ _ _, by simp⟩
  · exact ⟨⟨h.1, hm⟩, by simp, by simp⟩
theorem sm_go {cd : List (Int × Int)} {len : Int} {fwd : Bool} (b1 : 4 ≤ len) (b2 : len ≤ 12) : ∀ (k : Nat) (i : Int) (x : St), 0 ≤ i → i + k ≤ 12 → SmS x →
    SmS (plainGo cd len fwd k i x).1 ∧ (plainGo cd len fwd k i x).1.1.length ≤ x.1.length + k ∧ (plainGo cd len fwd k i x).1.2.length ≤ x.2.length + k ∧ ∀ q ∈ (plainGo cd len fwd k i x).2, q.natAbs < 100000
  | 0, i, x, _, _, hx => ⟨hx, Nat.le_refl _, Nat.le_refl _, fun _ h => nomatch h⟩
  | k + 1, i, x, h0, hi, hx => by
    have ha : (atF fwd len i).natAbs < 100000 := by unfold atF; split <;> omega
    obtain ⟨v1, v2, v3⟩ := sm_vis (cd := cd) b1 b2 ha hx
    rw [plainGo]
    split
    · split
      · exact ⟨v1, by simp only; omega, by simp only; omega, fun q hq => by cases hq; exact ha⟩
      · obtain ⟨g1, g2, g3, g4⟩ := sm_go b1 b2 k (i + 1) _ (by omega) (by omega) v1
        exact ⟨g1, by omega, by omega, g4⟩
    · obtain ⟨g1, g2, g3, g4⟩ := sm_go b1 b2 k (i + 1) x (by omega) (by omega) hx
      exact ⟨g1, by omega, by omega, g4⟩

theorem int_leaf {a : Int} (h : a.natAbs < 100000) : (PyData.int a).leavesShort 13 = true := by
  simp only [PyData.leavesShort, decide_eq_true_eq]
  exact PyData.shown_int_le (Nat.lt_trans h (by decide))
theorem int_weight {a : Int} (h : a.natAbs < 100000) : (PyData.int a).weight ≤ 2000 := by
  simp only [PyData.weight]
  have := log2_small h
  split <;> omega
theorem int_showable {a : Int} (h : a.natAbs < 100000) : (PyData.int a).showable = true := by
  simp only [PyData.showable, decide_eq_true_eq]; exact log2_small h

theorem show_pairs : ∀ (ms : List (Int × Int)), (∀ p ∈ ms, SmP p) → PyData.showableAll (ms.map pairD) = true ∧ PyData.leavesShortAll 13 (ms.map pairD) = true ∧ PyData.weightAll (ms.map pairD) ≤ 5000 * ms.length ∧ PyData.depthAll (ms.map pairD) ≤ 1
  | [], _ => ⟨rfl, rfl, Nat.le_refl _, Nat.zero_le _⟩
  | p :: ms, h => by
    obtain ⟨g1, g2, g3, g4⟩ := show_pairs ms fun q hq => h q (List.mem_cons_of_mem _ hq)
    obtain ⟨h1, h2⟩ := h p (List.mem_cons_self ..)
    have w1 := int_weight h1
    have w2 := int_weight h2
    refine ⟨?_, ?_, ?_, ?_⟩
    · simp only [List.map_cons, pairD, PyData.showableAll, PyData.showable, Bool.and_eq_true, decide_eq_true_eq] at g1 ⊢
      exact ⟨⟨log2_small h1, log2_small h2, trivial⟩, g1⟩
    · have a1 := int_leaf h1
      have a2 := int_leaf h2
      simp only [List.map_cons, pairD, PyData.leavesShortAll, Bool.and_eq_true] at g2 ⊢
      refine ⟨?_, g2⟩
      rw [PyData.leavesShort]
      simp only [PyData.leavesShortAll, Bool.and_eq_true]
      exact ⟨a1, a2, trivial⟩
    · simp only [List.map_cons, pairD, PyData.weightAll, List.length_cons] at g3 ⊢
      rw [PyData.weight]
      simp only [PyData.weightAll]
      omega
    · simp only [List.map_cons, pairD, PyData.depthAll, PyData.depth] at g4 ⊢
      omega
theorem show_kv : ∀ (c : List (Int × Int)), (∀ p ∈ c, SmP p) → PyData.showableKv (kdfD c) = true ∧ PyData.leavesShortKv 13 (kdfD c) = true ∧ PyData.weightKv (kdfD c) ≤ 5000 * c.length ∧ PyData.depthKv (kdfD c) ≤ 0
  | [], _ => ⟨rfl, rfl, Nat.le_refl _, Nat.zero_le _⟩
  | p :: ms, h => by
    obtain ⟨g1, g2, g3, g4⟩ := show_kv ms fun q hq => h q (List.mem_cons_of_mem _ hq)
    obtain ⟨h1, h2⟩ := h p (List.mem_cons_self ..)
    have w1 := int_weight h1
    have w2 := int_weight h2
    unfold kdfD at g1 g2 g3 g4 ⊢
    refine ⟨?_, ?_, ?_, ?_⟩
    · simp only [List.map_cons, PyData.showableKv, Bool.and_eq_true] at g1 ⊢
      exact ⟨⟨int_showable h1, int_showable h2⟩, g1⟩
    · simp only [List.map_cons, PyData.leavesShortKv, Bool.and_eq_true] at g2 ⊢
      exact ⟨⟨int_leaf h1, int_leaf h2⟩, g2⟩
    · simp only [List.map_cons, PyData.weightKv, List.length_cons] at g3 ⊢
      omega
    · simp only [List.map_cons, PyData.depthKv, PyData.depth] at g4 ⊢
      omega
theorem show_end {e : Option Int} (h : ∀ q ∈ e, q.natAbs < 100000) : (endD e).showable = true ∧ (endD e).leavesShort 13 = true ∧ (endD e).weight ≤ 2000 ∧ (endD e).depth ≤ 0 := by
  cases e with
  | none => exact ⟨rfl, rfl, by decide, by decide⟩
  | some x => exact ⟨int_showable (h x rfl), int_leaf (h x rfl), int_weight (h x rfl), by simp [endD, PyData.depth]⟩
theorem show_out {r : St × Option Int} (h : SmS r.1) (l1 : r.1.1.length ≤ 40) (l2 : r.1.2.length ≤ 40) (he : ∀ q ∈ r.2, q.natAbs < 100000) : (outD r).showable = true ∧ (outD r).shown.length ≤ sizeLine ∧ (outD r).depth ≤ 3 := by
  obtain ⟨a1, a2, a3, a4⟩ := show_pairs r.1.2 h.2
  obtain ⟨b1, b2, b3, b4⟩ := show_kv r.1.1 h.1
  obtain ⟨c1, c2, c3, c4⟩ := show_end he
  refine ⟨?_, PyData.shown_fits (B := 13) (by decide) (by decide) ?_ ?_, ?_⟩
  · simp only [outD, PyData.showable, PyData.showableAll, Bool.and_eq_true]
    exact ⟨a1, c1, b1, trivial⟩
  · simp only [outD, PyData.leavesShort, PyData.leavesShortAll, Bool.and_eq_true]
    exact ⟨a2, c2, b2, trivial⟩
  · have e : (2 : Nat) ^ 20 = 1048576 := by decide
    simp only [outD, PyData.weight, PyData.weightAll]
    omega
  · simp only [outD, PyData.depth, PyData.depthAll]
    omega
theorem show_go {cd ct : List (Int × Int)} {len : Int} {fwd : Bool} (b1 : 4 ≤ len) (b2 : len ≤ 12) (hc : ct.length ≤ 23) (h : ∀ p ∈ ct, SmP p) :
    (outD (plainGo cd len fwd len.toNat 0 (ct, []))).showable = true ∧ (outD (plainGo cd len fwd len.toNat 0 (ct, []))).shown.length ≤ sizeLine ∧ (outD (plainGo cd len fwd len.toNat 0 (ct, []))).depth ≤ 3 := by
  obtain ⟨g1, g2, g3, g4⟩ := sm_go (cd := cd) (fwd := fwd) b1 b2 len.toNat 0 (ct, []) (Int.le_refl _) (by omega) ⟨h, fun _ h => nomatch h⟩
  simp only [List.length_nil] at g2 g3
  exact show_out g1 (by omega) (by omega) g4
end Mine
end

/-! Folded -/
section
namespace Mine
open PySem PySem.W PySem.Spec PySem.Calls PyProof.Rows PyProof.V
set_option maxRecDepth 100000
set_option maxHeartbeats 8000000

section
variable {prog : Program} {w : World} {A : Around} {s : Shared} {g : Heap} {ps : Led}
  {R : Result → Shared → Prop} {name qual : Str} {params : Arguments} {body : Expr} {scope : Scope} {cl : List (Str × Addr)} {pm ctv : Value} {c' : Addr} {fo : Obj} {f : Addr} {args : Args} {binds : List (Str × Value)}
theorem enterE (hlim : s.heap.NoLimit) (hk : Kept g s.heap) (hsz : g.objs.size ≤ s.heap.objs.size) (H : Hold g s.heap ps)
    (ho : s.heap.get? f = some fo) (hd : fo.data = .func (kla_fn name qual params body scope cl pm (.ref c') ctv)) (hcd : s.heap.CodeRec (.ref c') qual) (hroom : A.depth < recursionLimit)
    (hbind : bindArgs (kla_fn name qual params body scope cl pm (.ref c') ctv) args = pure binds) (hloc : ∀ y ∈ binds, scope.names.lookup y.1 = some .local)
    (h : ∀ L' h₁ tk, L' = s.heap.objs.size → Fr g L' h₁ (fun y => binds.reverse.lookup y) → News g L' h₁ ps → (∀ p ∈ ps, p.1 < L') →
      wpAny (model prog w) (A.deeper (envX qual scope L' f (.ref c') cl)) (eval body (envX qual scope L' f (.ref c') cl))
        (fun v s' => R (.ok (.ret v)) s')
        (fun e s' => wpAny (model prog w) (A.deeper (envX qual scope L' f (.ref c') cl)) (leaving (envX qual scope L' f (.ref c') cl) e) (fun _ s'' => R (.error e) s'') (fun e' s'' => R (.error e') s'') s')
        { s with heap := h₁, toks := tk })
    (hcell : ∀ x ∈ scope.names, x.2 ≠ .cell) (hco : scope.isCoroutine = false) (hgen : scope.isGenerator = false) (hkf : scope.kind = .function) : codeAny (model prog w) A (.call (.ref f) args) R s := by
  refine kla_callFunE hroom ho hd hco hgen rfl hcd ?_
  rw [hbind]
  refine wpAny_pure (wpAny_newFunctionEnv hcell hloc (fun h₁ hns hsb => ⟨hlim.fresh _ hsb, ?_⟩) hkf)
  show codeAny _ _ (.expr body (envX qual scope s.heap.objs.size f (.ref c') cl)) _ _
  have hk₁ : ∀ b o, s.heap.get? b = some o → h₁.get? b = some o := fun b o e => hsb.extBut b o (Nat.ne_of_lt (Heap.lt_size e)) (Heap.get?_push_of_some _ e)
  exact kla_codeExpr (h _ h₁ _ rfl ⟨hns, fun b o e => hk₁ b o (hk b o e), hsz⟩ (fun p hp => ⟨hk₁ _ _ (H p hp).1, Nat.ne_of_lt (Heap.lt_size (H p hp).1), (H p hp).2⟩) (fun p hp => Heap.lt_size (H p hp).1))
end

def QTf (l c : Nat) : Option Str := if c = 4 then (if l = 98 then some "_law_folded.<locals>.get" else if l = 101 then some "_law_folded.<locals>.join" else none) else if c = 19 ∧ (l = 108 ∨ l = 110) then some "_law_folded.<locals>.<lambda>" else none

theorem Spec.weak {w : World} {f : Value} {args : List Value} {dep dep' : Nat} {need need' : Heap → Prop} {ps : Led} {Post : Nat → Value → Led → Prop} (S : Spec w f args dep need ps Post) (hd : dep ≤ dep') (hn : ∀ g, need' g → need g) : Spec w f args dep' need' ps Post := by
  intro dp un gd cn cs L a ccd cl outer base g p loose mean mg mb s Q E hcs hdp hun B X T hn' hk hsz H ret
  exact S dp un gd cn cs L a ccd cl outer base g p loose mean mg mb s Q E hcs (by omega) (by omega) B X T (hn g hn') hk hsz H ret

theorem least_filter {a e : Int} : ∀ (ns : List Int) (f : Option Int), (ns.filter fun p => decide (p < e)).foldl (leastStep a e) f = ns.foldl (leastStep a e) f
  | [], _ => rfl
  | p :: ns, f => by
    rw [List.filter_cons]
    by_cases h : p < e
    · rw [if_pos (decide_eq_true h), List.foldl_cons, List.foldl_cons]; exact least_filter ns _
    · rw [if_neg (by simpa using h), List.foldl_cons]
      have : leastStep a e f p = f := by
        unfold leastStep
        rw [if_neg]
        rintro ⟨_, h2, _⟩
        exact h h2
      rw [this]; exact least_filter ns _

theorem walk_join {ct : List (Int × Int)} {len : Int} {fwd : Bool} (hx : ∀ p ∈ ct, 0 ≤ p.1) : ∀ (k : Nat) (i : Int) (f : Option Str), 0 ≤ i → i + k = len →
    ∃ n, n ≤ k ∧ Walk (fun _ i => nxF fwd len (ct, []) i) (fun f i => (joinF ct f i, false)) (if fwd then 1 else -1) n f (atF fwd len i) (joinGo ct len fwd k i f) none
  | 0, i, f, h0, hi => by
    refine ⟨0, Nat.le_refl _, .stop ?_⟩
    have hi' : i = len := by omega
    show nxF fwd len (ct, []) (atF fwd len i) = none
    unfold nxF atF
    cases fwd with
    | true => simp only [if_true]; rw [hi']; exact least_none _
    | false =>
      simp only [Bool.false_eq_true, if_false]
      refine great_none _ fun q hq => ?_
      obtain ⟨p, hp, rfl⟩ := List.mem_map.mp (List.mem_filter.mp hq).1
      have := hx p hp
      omega
  | k + 1, i, f, h0, hi => by
    have ha : atF fwd len i < len := by unfold atF; split <;> omega
    have hs : atF fwd len i + (if fwd then 1 else -1) = atF fwd len (i + 1) := by unfold atF; cases fwd <;> simp <;> omega
    cases hh : kdfHas ct (atF fwd len i) with
    | true =>
      have hp : joinGo ct len fwd (k + 1) i f = joinGo ct len fwd k (i + 1) (joinF ct f (atF fwd len i)) := by rw [joinGo, if_pos hh]
      rw [hp]
      obtain ⟨n, hn, W⟩ := walk_join (len := len) (fwd := fwd) hx k (i + 1) (joinF ct f (atF fwd len i)) (by omega) (by omega)
      rw [← hs] at W
      exact ⟨n + 1, by omega, Walk.go (a := atF fwd len i) (nx_hit (x := (ct, [])) ha hh) rfl W⟩
    | false =>
      have hp : joinGo ct len fwd (k + 1) i f = joinGo ct len fwd k (i + 1) f := by rw [joinGo, if_neg (by rw [hh]; decide)]
      rw [hp]
      obtain ⟨n, hn, W⟩ := walk_join (len := len) (fwd := fwd) hx k (i + 1) f (by omega) (by omega)
      exact ⟨n, by omega, W.start (by show nxF fwd len (ct, []) _ = nxF fwd len (ct, []) _; rw [nx_skip (x := (ct, [])) hh, hs])⟩

/-- the four attributes of a Fold: nothing begun, or a text so far -/
def FoldEs (f1 f2 : Nat) (es : List DictEntry) (f : Option Str) : Prop :=
  ∃ (h1 h2 h3 h4 : Int) (k1 k2 k3 k4 : Tok) (b : Bool) (v : Value), es = [⟨h1, .str "get" k1, .ref f1⟩, ⟨h2, .str "join" k2, .ref f2⟩, ⟨h3, .str "is_begun" k3, .bool b⟩, ⟨h4, .str "value" k4, v⟩] ∧ b = f.isSome ∧ OptS v f
theorem foldAt {g h : Heap} {L : Addr} {m : Str → Option Value} {news rest : Led} {x dx f1 f2 : Nat} {es : List DictEntry} {op : Option Str} {fwd : Bool} (F : Fr g L h m) (N : News g L h news) (a1 : (x, instObj 80 dx) ∈ news) (a2 : (dx, dictOf es 4) ∈ news)
    (hm1 : m "fold" = some (.ref x)) (hm2 : m "is_forward" = some (.bool fwd)) (n1 : x ≠ dx) (n2 : f2 < dx) (n3 : f2 < x) (hes : FoldEs f1 f2 es op) (hs : ∀ p ∈ rest, p ∈ news) :
    ∃ (x dx : Nat) (es : List DictEntry) (m7 : Str → Option Value), x ≠ dx ∧ f2 < dx ∧ f2 < x ∧ FoldEs f1 f2 es op ∧ Fr g L h m7 ∧ m7 "fold" = some (.ref x) ∧ m7 "is_forward" = some (.bool fwd) ∧ News g L h ((x, instObj 80 dx) :: (dx, dictOf es 4) :: rest) :=
  ⟨x, dx, es, m, n1, n2, n3, hes, F, hm1, hm2, List.forall_mem_cons.mpr ⟨N _ a1, List.forall_mem_cons.mpr ⟨N _ a2, fun p hp => N p (hs p hp)⟩⟩⟩
/-- where the two ways of an opening meet -/
def FoldMid (s : Shared) (g : Heap) (L : Addr) (f1 f2 : Nat) (op : Option Str) (fwd : Bool) (rest : Led) (fl : Flow) (s' : Shared) : Prop :=
  fl = Flow.next ∧ ∃ (h : Heap) (tk : Nat), s' = { s with heap := h, toks := tk } ∧ ∃ (x dx : Nat) (es : List DictEntry) (m7 : Str → Option Value), x ≠ dx ∧ f2 < dx ∧ f2 < x ∧ FoldEs f1 f2 es op ∧ Fr g L h m7 ∧ m7 "fold" = some (.ref x) ∧ m7 "is_forward" = some (.bool fwd) ∧ News g L h ((x, instObj 80 dx) :: (dx, dictOf es 4) :: rest)
theorem cellAt {g h : Heap} {L a : Addr} {r1 r2 : Led} {o : Obj} {d : Data} (N : News g L h (r1 ++ (a, o) :: r2)) (hd : o.data = d) : ∃ o' : Obj, o'.data = d ∧ News g L h (r1 ++ (a, o') :: r2) := ⟨o, hd, N⟩
theorem callable_meth {g : Heap} {q f : Addr} {self : Value} {K : Frag} (h : g.get? q = some (methodObj (.ref f) self)) (X : K.In g) (hf : fnIn K f = true) : Callable (.ref q) g :=
  fun M h' k => keeps_M (K := K) hf h' ⟨k _ _ h, X.keeps k⟩
theorem tfin {g : Heap} {s : Shared} {Post : Nat → Value → Led → Prop} {Q : Value → Shared → Prop} {L' : Addr} {h' : Heap} {m' : Str → Option Value} {all : Led} {v : Value} {tk : Nat} {x dx dt : Addr} {ox od ot : Obj}
    (ret : Ret g s Post Q) (F : Fr g L' h' m') (N : News g L' h' all) (hL : L' = s.heap.objs.size) (a1 : (x, ox) ∈ all) (a2 : (dx, od) ∈ all) (a3 : (dt, ot) ∈ all)
    (P : Post s.heap.objs.size v [(x, ox), (dx, od), (dt, ot)]) : Q v { s with heap := h', toks := tk } :=
  fin (s := s) ret F N hL (List.forall_mem_cons.mpr ⟨a1, List.forall_mem_cons.mpr ⟨a2, List.forall_mem_singleton.mpr a3⟩⟩) P
def RF (f1 f2 x dx dt : Nat) (ot : Obj) (n : Nat) (f : Option Str) (ps : Led) : Prop :=
  ∃ es, ps = [(x, instObj 80 dx), (dx, dictOf es 4), (dt, ot)] ∧ FoldEs f1 f2 es f ∧ n ≤ 30 ∧ (∀ y ∈ f, y.length + 30 * n ≤ 1500)

section
local macro_rules | `(tactic| walk_at "eval Name") => `(tactic| (k_here; (with_reducible show wpAny _ _ (eval (Expr.Name _ _) (compEnvC _ _ _ _)) _ _ _); k_dflt (refine' nameC_FG ?F ?c ?o ?d ?_ ?a ?b; (case a => rfl); (case b => rfl); (case F => k_asm); (case c => rfl); (case o => assumption); (case d => assumption); k_whole)))
local macro_rules | `(tactic| walk_at "eval Name") => `(tactic| (k_here; k_dflt (refine' nameX_FG ?F ?c ?o ?d ?_ ?a ?b; (case a => rfl); (case b => rfl); (case F => k_asm); (case c => rfl); (case o => assumption); (case d => assumption); k_whole)))
local macro_rules | `(tactic| ktr_rel) => `(tactic| ((fail_if_success (with_reducible show wpAny _ _ (pyIter _) _ _ _)); (fail_if_success (with_reducible show wpAny _ _ (eval (Expr.ListComp _ _ _ _) _) _ _ _)); (fail_if_success (with_reducible show wpAny _ _ (eval (Expr.Lambda _ _ _ _) _) _ _ _)); (fail_if_success (with_reducible show wpAny _ _ (exec (Stmt.For _ _ _ _ _) _) _ _ _)); (fail_if_success (with_reducible show wpAny _ _ (exec (Stmt.FunctionDef _ _ _ _ _ _ _ _ _ _) _) _ _ _)); (fail_if_success (with_reducible show wpAny _ _ (binaryOp _ (Value.str _ _) _) _ _ _)); (fail_if_success (with_reducible show wpAny _ _ (call (Value.type "str") _) _ _ _)); (fail_if_success (with_reducible show wpAny _ _ (call (Value.ref 49) _) _ _ _)); (fail_if_success (with_reducible show wpAny _ _ (call (Value.ref 35) _) _ _ _)); (fail_if_success (with_reducible show wpAny _ _ (call (Value.ref 42) _) _ _ _)); (first | (k_unfold; (try dsimp only)) | (k_end; wrow_close) | walk1 | (dsimp only; walk1) | (leave1; (try dsimp only)))))
local macro_rules | `(tactic| k_data) => `(tactic| ((fail_if_success (with_reducible show wpAny _ _ (callWith _ (Value.ref _) _ _ _) _ _ _)); ktr_rel))
local macro_rules | `(tactic| ktr_room) => `(tactic| ((try simp only [depth_in1, depth_deeper]); (try dsimp only [ktrTop]); omega))
local macro_rules | `(tactic| k_room) => `(tactic| ((try simp only [depth_under_make, depth_under_kw, depth_in1, depth_deeper]); (try dsimp only [ktrTop]); omega))
local macro_rules | `(tactic| k_all) => `(tactic| assumption)

theorem folded_spec (w : World) (fwd : Bool) {dt : Addr} {ot : Obj} {kt : List (Int × Value)} {ct : List (Int × Int)} (hdt : ot.IsDictOf (PySem.intKind PySem.Challenge.rw_nt0339_01.row.prog w) kt) (hft : FlatPairs PyData.int kt (kdfD ct)) (lot : (dt == sysModules) = false)
    (hct : ct.length ≤ 100) {pt : Array Value} {codes : Led} (TI : TabInv QTf pt codes) (hcodes : ∀ p ∈ codes, p.1 ≠ 121 ∧ p.1 ≠ dt) (nd2 : @Ne Nat dt 121)
    (len : Int) (hl0 : 4 ≤ len) (hl1 : len ≤ 12) (t1 : Tok) {op : Option Str} {vo : Value} (ho : OptS vo op) (hop : ∀ x ∈ op, x.length ≤ 10) (hval : ∀ p ∈ ct, p.2.natAbs < 100000) (hkey : ∀ p ∈ ct, 0 ≤ p.1 ∧ p.1 < 1000) :
    Spec w (.ref 124) [.int len t1, .ref dt, vo, .bool fwd] 10 (fun g => CodeHd g 123 121) ((dt, ot) :: (121, tabObj pt) :: codes)
      (fun lo v ps' => ∃ pt' codes', ps' = (dt, ot) :: (121, tabObj pt') :: codes' ∧ TabInv QTf pt' codes' ∧ (∀ p ∈ codes', p ∈ codes ∨ lo ≤ p.1) ∧ OptS v (joinGo ct len fwd len.toNat 0 op)) := by
  unfold Spec
  k_fill
  intro dp un gd cn cs L a ccd cl outer base g p loose mean mg mb s Q E hcs hdp hun B X T hn hk hsz H ret
  refine wpAny_call ?_
  refine' enterCK (binds := [("length", .int len t1), ("things", .ref dt), ("opening", vo), ("is_forward", .bool fwd)]) X T hk hsz H ?k6 ?k7 ?k8 ?k9 ?kB ?kD ?_ ?c2 ?c3 ?c4
  case k6 => k_is
  case k7 => k_is
  case k8 => (dsimp only [ktrTop]; omega)
  case k9 => exact BindsTo.of_eq rfl
  case kB => exact rfl
  case kD => decide +kernel
  case c2 => exact rfl
  case c3 => exact rfl
  case c4 => exact rfl
  intro L' h₁ tk' cells' hL F N Y l1
  obtain ⟨o1, o2, o3, hE, d1, d2, d3⟩ := CellsAre.three Y
  subst hE
  clear Y
  simp only [List.cons_append, List.nil_append] at N
  replace d1 : o1.data = .cell none := d1
  replace d2 : o2.data = .cell (some (.ref dt)) := d2
  replace d3 : o3.data = .cell (some (.int len t1)) := d3
  replace N : News g L' h₁ ((L' + 1 + 1 + 1, o1) :: (L' + 1 + 1, o2) :: (L' + 1, o3) :: (dt, ot) :: (121, tabObj pt) :: codes) := N
  have x1 := ltN (l1 (dt, ot) (by k_mem))
  have x3 := ltN (l1 (121, tabObj pt) (by k_mem))
  have x4 : ∀ p ∈ codes, @LT.lt Nat _ p.1 L' := fun p hp => l1 p (by repeat (first | exact hp | exact List.mem_append_left _ hp | exact List.mem_append_right _ hp | exact List.mem_append_left _ (List.mem_append_left _ hp) | exact List.mem_append_left _ (List.mem_append_right _ hp) | refine List.Mem.tail _ ?_))
  dsimp only at x1 x3
  clear l1
  have c1 : ∀ p ∈ codes, p.1 ≠ 121 := fun p hp => (hcodes p hp).1
  repeat' ktr_rel
  rename Fr _ _ _ _ => F3
  rename News _ _ _ _ => N3
  refine' nestDef_K rfl rfl rfl ?_
  refine nestAny (hd := [(L' + 1 + 1 + 1, o1), (L' + 1 + 1, o2), (L' + 1, o3), (dt, ot), (121, tabObj pt)]) (codes := codes) F3 N3 T hn rfl (by k_updF) c1 TI (by rfl) rfl ?_
  clear F3 N3
  intro f1 q1 ctv1 doc1 h4 tk4 pt1 codes1 F3 N3 TI1 sub1 in1 lt1 nw1
  obtain ⟨fo1, e1, -⟩ := news_obj N3 (List.Mem.head _)
  rw [← e1] at N3
  simp only [List.cons_append, List.nil_append] at N3 lt1 nw1
  have z1 : @LT.lt Nat _ (L' + 1 + 1 + 1) f1 := lt1 (L' + 1 + 1 + 1, o1) (by k_mem)
  have c2 : ∀ p ∈ codes1, p.1 ≠ 121 := fun p hp => (nw1 p hp).2.elim (fun h => c1 p h) fun h => Nat.ne_of_gt (h (121, tabObj pt) (by k_mem))
  repeat' ktr_rel
  rename Fr _ _ _ _ => F3
  rename News _ _ _ _ => N3
  refine' nestDef_K rfl rfl rfl ?_
  refine nestAny (hd := [(f1, fo1), (L' + 1 + 1 + 1, o1), (L' + 1 + 1, o2), (L' + 1, o3), (dt, ot), (121, tabObj pt1)]) (codes := codes1) F3 N3 T hn rfl (by k_updF) c2 TI1 (by rfl) rfl ?_
  clear F3 N3
  intro f2 q2 ctv2 doc2 h5 tk5 pt2 codes2 F3 N3 TI2 sub2 in2 lt2 nw2
  obtain ⟨fo2, e2, -⟩ := news_obj N3 (List.Mem.head _)
  rw [← e2] at N3
  simp only [List.cons_append, List.nil_append] at N3 lt2 nw2
  have z2 : @LT.lt Nat _ f1 f2 := lt2 (f1, fo1) (by k_mem)
  have c3 : ∀ p ∈ codes2, p.1 ≠ 121 := fun p hp => (nw2 p hp).2.elim (fun h => c2 p h) fun h => Nat.ne_of_gt (h (121, tabObj pt1) (by k_mem))
  have PGet : ∀ (i : Int) (t : Tok), kdfHas ct i = true → Spec w (.ref f1) [.int i t] 3 (fun g' => ∀ p ∈ (f1, fo1) :: (f2, fo2) :: (L' + 1 + 1, o2) :: codes2, g'.get? p.1 = some p.2) [(dt, ot)] (fun _ v ps' => ps' = [(dt, ot)] ∧ ∃ t', v = .str (txt (kdfLook ct i 0)) t') := by
    clear F3 N3 B X T H hk hsz ret hdp hun hn
    intro i t hhas
    unfold Spec
    intro dp un gd cn cs L a ccd cl outer base g p loose mean mg mb s Q E hcs hdp hun B X T hn hk hsz H ret
    refine wpAny_call ?_
    refine' enterX (binds := [("at", .int i t)]) (T.nolimit.keeps hk) hk hsz H (hk _ _ (hn (f1, fo1) (by k_mem))) ((congrArg Obj.data e1).trans rfl) ((in1.mono sub2).rec fun p hp => hk _ _ (hn p (by repeat (first | exact hp | exact List.mem_append_left _ hp | exact List.mem_append_right _ hp | exact List.mem_append_left _ (List.mem_append_left _ hp) | exact List.mem_append_left _ (List.mem_append_right _ hp) | refine List.Mem.tail _ ?_)))) ?k8 ?k9 ?kB ?_ ?c5 ?c2 ?c3 ?c4
    case k8 => (dsimp only [ktrTop]; omega)
    case k9 => exact BindsTo.of_eq rfl
    case kB => exact locs rfl
    case c5 => decide
    case c2 => exact rfl
    case c3 => exact rfl
    case c4 => exact rfl
    intro L₂ h₂ hL₂ F N hlt
    have kT := hn (L' + 1 + 1, o2) (by k_mem)
    dsimp only at kT
    have h1 : (kdfLook ct i 0).natAbs < 100000 := look_all (P := fun z => z.natAbs < 100000) (by decide) hval
    repeat' ktr_rel
    refine str_small h1 ?_
    intro t' tk'
    repeat' ktr_rel
    exact fin (s := s) ret F N hL₂ (fun p hp => hp) ⟨rfl, _, rfl⟩
  have PJoin : ∀ (x y : Str) (i : Int) (tx ty t : Tok), x.length ≤ 2000 → y.length ≤ 10 → i.natAbs < 100000 → Spec w (.ref f2) [.str x tx, .str y ty, .int i t] 3 (fun g' => ∀ p ∈ (f1, fo1) :: (f2, fo2) :: (L' + 1 + 1, o2) :: codes2, g'.get? p.1 = some p.2) [] (fun _ v ps' => ps' = [] ∧ ∃ t', v = .str (x ++ Str.ofString "," ++ y ++ Str.ofString "@" ++ txt i) t') := by
    clear F3 N3 B X T H hk hsz ret hdp hun hn PGet
    intro x y i tx ty t hx hy h2
    unfold Spec
    intro dp un gd cn cs L a ccd cl outer base g p loose mean mg mb s Q E hcs hdp hun B X T hn hk hsz H ret
    refine wpAny_call ?_
    refine' enterX (binds := [("sofar", .str x tx), ("value", .str y ty), ("at", .int i t)]) (T.nolimit.keeps hk) hk hsz H (hk _ _ (hn (f2, fo2) (by k_mem))) ((congrArg Obj.data e2).trans rfl) (in2.rec fun p hp => hk _ _ (hn p (by repeat (first | exact hp | exact List.mem_append_left _ hp | exact List.mem_append_right _ hp | exact List.mem_append_left _ (List.mem_append_left _ hp) | exact List.mem_append_left _ (List.mem_append_right _ hp) | refine List.Mem.tail _ ?_)))) ?k8 ?k9 ?kB ?_ ?c5 ?c2 ?c3 ?c4
    case k8 => (dsimp only [ktrTop]; omega)
    case k9 => exact BindsTo.of_eq rfl
    case kB => exact locs rfl
    case c5 => decide
    case c2 => exact rfl
    case c3 => exact rfl
    case c4 => exact rfl
    intro L₂ h₂ hL₂ F N hlt
    have l2 := txt_len h2
    have u1 : ",".length = 1 := by decide
    have u2 : "@".length = 1 := by decide
    repeat' ktr_rel
    refine PyProof.Rows.add_str ?_ (by rw [sizeLine_eq, PySem.ofString_length]; omega)
    intro t3 tk3
    repeat' ktr_rel
    refine PyProof.Rows.add_str ?_ (by rw [sizeLine_eq, PySem.Str.length_append, PySem.ofString_length]; omega)
    intro t5 tk5
    repeat' ktr_rel
    refine PyProof.Rows.add_str ?_ (by rw [sizeLine_eq, PySem.Str.length_append, PySem.Str.length_append, PySem.ofString_length, PySem.ofString_length]; omega)
    intro t6 tk6
    repeat' ktr_rel
    refine str_small h2 ?_
    intro t7 tk7
    repeat' ktr_rel
    refine PyProof.Rows.add_str ?_ (by rw [sizeLine_eq, PySem.Str.length_append, PySem.Str.length_append, PySem.Str.length_append, PySem.ofString_length, PySem.ofString_length]; omega)
    intro t8 tk8
    repeat' ktr_rel
    exact fin (s := s) ret F N hL₂ (fun p hp => hp) ⟨rfl, _, rfl⟩
  have PTake : ∀ (x dx q : Nat), @Ne Nat x dx → @Ne Nat x dt → @Ne Nat dx dt → ∀ (n : Nat) (f : Option Str) (ps : Led) (i : Int) (t : Tok), RF f1 f2 x dx dt ot (n + 1) f ps → kdfHas ct i = true → i.natAbs < 100000 →
      Spec w (.ref q) [.int i t] 6 (fun g' => g'.get? q = some (methodObj (.ref 77) (.ref x)) ∧ ∀ p ∈ (f1, fo1) :: (f2, fo2) :: (L' + 1 + 1, o2) :: codes2, g'.get? p.1 = some p.2) ps (fun _ v ps' => RF f1 f2 x dx dt ot n (joinF ct f i) ps' ∧ v = .bool false) := by
    clear F3 N3 B X T H hk hsz ret hdp hun hn
    rintro x dx q nx1 nx2 nx3 n f ps i t ⟨es, rfl, ⟨g1, g2, g3, g4, k1, k2, k3, k4, b, v, rfl, rfl, hv⟩, hn30, hfl⟩ hhas h2
    unfold Spec
    intro dp un gd cn cs L a ccd cl outer base g p loose mean mg mb s Q E hcs hdp hun B X T hn hk hsz H ret
    obtain ⟨hnq, hn⟩ := hn
    refine wpAny_call (method_call (hk _ _ hnq) ?_)
    refine' enterXK (binds := [("self", .ref x), ("at", .int i t)]) X T hk hsz H ?k6 ?k7 ?k8 ?k9 ?kB ?_ ?c5 ?c2 ?c3 ?c4
    case k6 => k_is
    case k7 => k_is
    case k8 => (dsimp only [ktrTop]; omega)
    case k9 => exact BindsTo.of_eq rfl
    case kB => exact locs rfl
    case c5 => decide
    case c2 => exact rfl
    case c3 => exact rfl
    case c4 => exact rfl
    intro L₂ h₂ hL₂ F N hlt
    have h1 : (kdfLook ct i 0).natAbs < 100000 := look_all (P := fun z => z.natAbs < 100000) (by decide) hval
    have l1 := txt_len h1
    have l2 := txt_len h2
    repeat' k_data
    dsimp only
    refine callWith_C (g := g) (callable_fn (hn (f1, fo1) (by k_mem)) ((congrArg Obj.data e1).trans rfl)) ?_
    repeat' k_data
    · exact F.keep
    rename Fr _ _ _ _ => F4
    rename News _ _ _ _ => N4
    refine Spec.use (PGet i _ hhas) [(x, instObj 80 dx), (dx, _)] B F4 X N4 T rfl (List.forall_mem_singleton.mpr (by k_mem)) (oth1 (List.Mem.head _) (by k_ne) <| oth1 (List.Mem.tail _ (List.Mem.head _)) (by k_ne) <| fun _ hp => nomatch hp)
      (fun g' k1 _ _ p hp => k1 _ _ (hn p hp)) (by dsimp only [ktrTop, Around.deeper]; omega) (by dsimp only [ktrTop, Around.deeper]; omega) ?_
    clear N4 F4
    rintro h' tk v2 ps' ⟨rfl, t2, rfl⟩ F4 N4 _ _ _
    simp only [List.cons_append, List.nil_append] at N4
    cases f with
    | none =>
      cases hv
      simp only [Option.isSome_none] at N4
      repeat' ktr_rel
      refine tfin (s := s) (x := x) (dx := dx) (dt := dt) ret (by assumption) (by assumption) hL₂ (by k_mem) (by k_mem) (by k_mem) ?_
      exact ⟨⟨_, rfl, ⟨_, _, _, _, _, _, _, _, true, _, rfl, rfl, _, rfl⟩, by omega, fun z hz => by cases hz; omega⟩, rfl⟩
    | some y =>
      obtain ⟨ty, rfl⟩ := hv
      simp only [Option.isSome_some] at N4
      have hy := hfl y rfl
      repeat' k_data
      dsimp only
      refine callWith_C (g := g) (callable_fn (hn (f2, fo2) (by k_mem)) ((congrArg Obj.data e2).trans rfl)) ?_
      repeat' k_data
      · rename Fr _ _ _ _ => F5
        exact F5.keep
      rename Fr _ _ _ _ => F5
      rename News _ _ _ _ => N5
      refine Spec.use (PJoin y (txt (kdfLook ct i 0)) i _ _ _ (by omega) (by omega) h2) _ B F5 X N5 T rfl (fun p hp => nomatch hp) (fun p hp => ⟨hp, List.not_mem_nil⟩)
        (fun g' k1 _ _ p hp => k1 _ _ (hn p hp)) (by dsimp only [ktrTop, Around.deeper]; omega) (by dsimp only [ktrTop, Around.deeper]; omega) ?_
      clear N5 F5
      rintro h5 tk5 v5 ps5 ⟨rfl, t5, rfl⟩ F5 N5 _ _ _
      simp only [List.nil_append] at N5
      repeat' ktr_rel
      refine tfin (s := s) (x := x) (dx := dx) (dt := dt) ret (by assumption) (by assumption) hL₂ (by k_mem) (by k_mem) (by k_mem) ?_
      exact ⟨⟨_, rfl, ⟨_, _, _, _, _, _, _, _, true, _, rfl, rfl, _, rfl⟩, by omega, fun z hz => by cases hz; have := joinF_len (x := y) h1 h2 rfl; omega⟩, rfl⟩
  have y1 : ∀ p ∈ codes2, p.1 ≠ L' + 1 + 1 + 1 := fun p hp => (nw2 p hp).2.elim (fun h => (nw1 p h).2.elim (fun h => Nat.ne_of_lt (by have := x4 p h; omega)) fun h => Nat.ne_of_gt (h (L' + 1 + 1 + 1, o1) (by k_mem))) fun h => Nat.ne_of_gt (h (L' + 1 + 1 + 1, o1) (by k_mem))
  repeat' ((fail_if_success (with_reducible show wpAny _ _ (exec (Stmt.If _ _ _ _) _) _ _ _)); ktr_rel)
  rename Fr _ _ _ _ => F5
  rename News _ _ _ _ => N5
  refine wpAny_mono (Q := FoldMid s g L' f1 f2 op fwd ((f2, fo2) :: (f1, fo1) :: (L' + 1 + 1 + 1, o1) :: (L' + 1 + 1, o2) :: (L' + 1, o3) :: (dt, ot) :: (121, tabObj pt2) :: codes2)) ?_ ?_ (fun _ _ h => h)
  · cases op with
    | none =>
      cases ho
      repeat' ktr_rel
      rename Fr _ _ _ _ => F6
      rename News _ _ _ _ => N6
      unfold FoldMid
      exact ⟨rfl, _, _, rfl, foldAt (fwd := fwd) (op := none) (f1 := f1) (f2 := f2) (rest := (f2, fo2) :: (f1, fo1) :: (L' + 1 + 1 + 1, o1) :: (L' + 1 + 1, o2) :: (L' + 1, o3) :: (dt, ot) :: (121, tabObj pt2) :: codes2) F6 N6 (by k_mem) (by k_mem) rfl rfl (by k_ne) (by omega) (by omega) ⟨_, _, _, _, _, _, _, _, false, _, rfl, rfl, rfl⟩
        (by repeat (refine List.forall_mem_cons.mpr ⟨by k_mem, ?_⟩)
            intro p hp; repeat (first | exact hp | exact List.mem_append_left _ hp | exact List.mem_append_right _ hp | refine List.Mem.tail _ ?_))⟩
    | some x0 =>
      obtain ⟨to, rfl⟩ := ho
      repeat' ktr_rel
      rename Fr _ _ _ _ => F6
      rename News _ _ _ _ => N6
      unfold FoldMid
      exact ⟨rfl, _, _, rfl, foldAt (fwd := fwd) (op := some x0) (f1 := f1) (f2 := f2) (rest := (f2, fo2) :: (f1, fo1) :: (L' + 1 + 1 + 1, o1) :: (L' + 1 + 1, o2) :: (L' + 1, o3) :: (dt, ot) :: (121, tabObj pt2) :: codes2) F6 N6 (by k_mem) (by k_mem) rfl rfl (by k_ne) (by omega) (by omega) ⟨_, _, _, _, _, _, _, _, true, _, rfl, rfl, _, rfl⟩
        (by repeat (refine List.forall_mem_cons.mpr ⟨by k_mem, ?_⟩)
            intro p hp; repeat (first | exact hp | exact List.mem_append_left _ hp | exact List.mem_append_right _ hp | refine List.Mem.tail _ ?_))⟩
  clear F5 N5
  rintro _ _ ⟨rfl, h7, tk7, rfl, x, dx, es, m7, n1, n2, n3, hes, F7, hm1, hm2, N7⟩
  dsimp only
  repeat' ktr_rel
  have hkl : kt.length = ct.length := by rw [← hft.length, kdfD_length]
  refine ListComp_D (h₀ := g) (L := L') (m := m7) (knd := PySem.intKind PySem.Challenge.rw_nt0339_01.row.prog w) (by with_unfolding_all rfl) (by decide) (by rfl) (by decide) (by rfl) ?_
  repeat' ktr_rel
  refine ⟨dt, ot, kt, _, rfl, rfl, F7, N7, by k_mem, lot, hdt, by rw [sizeLine_eq]; omega, ?_⟩
  rintro s₂ ⟨hh, rfl⟩
  refine rest_filter (fun p => decide (p < len)) (by k_mem) ?_ ?_ ?_ kt.length 0 [] rfl .nil
  · clear F7 N7
    intro k t I oI C oC D m₂ h tk ys P E' hC hx F N hP
    repeat' ktr_rel
    exact hP _
  · clear F7 N7
    intro k t I oI C oC D m₂ h tk ys P E' hC hx F N hP
    repeat' ktr_rel
    exact hP _
  clear F7 N7
  intro ys hys D h tk F8 N8 off
  rw [flat_keys hft] at hys
  rw [pin hm1] at F8
  rw [pin hm2] at F8
  simp only [LCg.Off1] at off
  cases fwd with
  | true =>
    repeat' ktr_rel
    rename Fr _ _ _ _ => F9
    rename News _ _ _ _ => N9
    obtain ⟨oP, dP, N9⟩ := cellAt (a := L' + 1 + 1 + 1) (r1 := [(D, LCg.lst ys), (x, instObj 80 dx), (dx, dictOf es 4), (f2, fo2), (f1, fo1)]) (r2 := (L' + 1 + 1, o2) :: (L' + 1, o3) :: (dt, ot) :: (121, tabObj pt2) :: codes2) N9 (by assumption)
    simp only [List.cons_append, List.nil_append] at N9
    refine kla_eval rfl ?_
    refine lamAny (hd := [(D, LCg.lst ys), (x, instObj 80 dx), (dx, dictOf es 4), (f2, fo2), (f1, fo1), (L' + 1 + 1 + 1, oP), (L' + 1 + 1, o2), (L' + 1, o3), (dt, ot), (121, tabObj pt2)]) (codes := codes2) F9 N9 T hn rfl (by k_updF) c3 TI2 (by rfl) rfl ?_
    clear F9 N9
    intro f3 q3 ctv3 h8 tk8 pt3 codes3 F10 N10 TI3 sub3 in3 lt3 nw3
    obtain ⟨fo3, e3, -⟩ := news_obj N10 (List.Mem.head _)
    rw [← e3] at N10
    simp only [List.cons_append, List.nil_append] at N10 lt3 nw3
    have z3 : @LT.lt Nat _ D f3 := lt3 (D, LCg.lst ys) (by k_mem)
    have z4 : @LT.lt Nat _ x f3 := lt3 (x, instObj 80 dx) (by k_mem)
    have z5 : @LT.lt Nat _ dx f3 := lt3 (dx, dictOf es 4) (by k_mem)
    have hc2 : ∀ p ∈ codes2, @LT.lt Nat _ p.1 f2 ∧ @Ne Nat p.1 dt ∧ (p ∈ codes ∨ L' ≤ p.1) := fun p hp => by
      refine ⟨(nw2 p hp).1, ?_⟩
      rcases (nw2 p hp).2 with h | h
      · rcases (nw1 p h).2 with h | h
        · exact ⟨neN (hcodes p h).2, .inl h⟩
        · have := ltN (h (L' + 1, o3) (by k_mem))
          dsimp only at this
          exact ⟨by omega, .inr (by show L' ≤ _; omega)⟩
      · have := ltN (h (L' + 1, o3) (by k_mem))
        dsimp only at this
        exact ⟨by omega, .inr (by show L' ≤ _; omega)⟩
    have hc3 : ∀ p ∈ codes3, @Ne Nat p.1 x ∧ @Ne Nat p.1 dx ∧ @Ne Nat p.1 dt := fun p hp => by
      rcases (nw3 p hp).2 with h | h
      · have a1 := hc2 p h
        exact ⟨by omega, by omega, a1.2.1⟩
      · have a1 := ltN (h (x, instObj 80 dx) (by k_mem))
        have a2 := ltN (h (dx, dictOf es 4) (by k_mem))
        have a3 := ltN (h (dt, ot) (by k_mem))
        dsimp only at a1 a2 a3
        exact ⟨by omega, by omega, by omega⟩
    have hlo : ∀ p ∈ codes3, p ∈ codes ∨ s.heap.objs.size ≤ p.1 := fun p hp => by
      rw [← hL]
      rcases (nw3 p hp).2 with h | h
      · exact (hc2 p h).2.2
      · have a1 := ltN (h (x, instObj 80 dx) (by k_mem))
        dsimp only at a1
        exact .inr (by show L' ≤ _; omega)
    have PLam : ∀ (q n : Nat) (f : Option Str) (ps : Led) (i : Int) (t : Tok), RF f1 f2 x dx dt ot n f ps → Spec w (.ref f3) [.int i t] 6 (fun g' => g'.get? q = some (methodObj (.ref 77) (.ref x)) ∧ ∀ p ∈ (f1, fo1) :: (f2, fo2) :: (f3, fo3) :: (D, LCg.lst ys) :: (L' + 1 + 1 + 1, oP) :: (L' + 1 + 1, o2) :: (L' + 1, o3) :: codes3, g'.get? p.1 = some p.2) ps
        (fun _ v ps' => RF f1 f2 x dx dt ot n f ps' ∧ OptV v (nxF true len (ct, []) i)) := by
      clear F10 N10 B X T H hk hsz ret hdp hun hn PTake PJoin PGet hlo
      intro q n f ps i t hR
      unfold Spec
      intro dp un gd cn cs L a ccd cl outer base g p loose mean mg mb s Q E hcs hdp hun B X T hn hk hsz H ret
      obtain ⟨-, hn⟩ := hn
      refine wpAny_call ?_
      refine' enterE (binds := [("at", .int i t)]) (T.nolimit.keeps hk) hk hsz H (hk _ _ (hn (f3, fo3) (by k_mem))) ((congrArg Obj.data e3).trans rfl) (in3.rec fun p hp => hk _ _ (hn p (by repeat (first | exact hp | exact List.mem_append_left _ hp | exact List.mem_append_right _ hp | exact List.mem_append_left _ (List.mem_append_left _ hp) | exact List.mem_append_left _ (List.mem_append_right _ hp) | refine List.Mem.tail _ ?_)))) ?k8 ?k9 ?kB ?_ ?c5 ?c2 ?c3 ?c4
      case k8 => (dsimp only [ktrTop]; omega)
      case k9 => exact rfl
      case kB => exact locs rfl
      case c5 => decide
      case c2 => exact rfl
      case c3 => exact rfl
      case c4 => exact rfl
      intro L₂ h₂ tk₂ hL₂ F N hlt
      have kP := hn (L' + 1 + 1 + 1, oP) (by k_mem)
      have kL := hn (L' + 1, o3) (by k_mem)
      have kD := hn (D, LCg.lst ys) (by k_mem)
      dsimp only at kP kL kD
      repeat' ktr_rel
      refine Spec.use (least_spec w hys i len _ _) _ B F X N T rfl (fun p hp => nomatch hp) (fun p hp => ⟨hp, List.not_mem_nil⟩) (fun g1 k1 _ _ => ⟨_, k1 _ _ kD, rfl, _, rfl⟩) (by dsimp only [ktrTop, Around.deeper]; omega) (by dsimp only [ktrTop, Around.deeper]; omega) ?_
      rintro h5 tk5 v ps' ⟨rfl, hv⟩ F5 N5 _ _ _
      simp only [List.nil_append] at N5
      repeat' ktr_rel
      refine fin (s := s) ret F5 N5 hL₂ (ps' := ps) (fun p hp => hp) ⟨hR, ?_⟩
      show OptV v (nxF true len (ct, []) i)
      unfold nxF
      rw [if_pos rfl]
      rwa [show leastF ((ct.map (·.1)).filter fun p => decide (p < len)) i len = leastF (ct.map (·.1)) i len from least_filter _ none] at hv
    have PL : ∀ q : Nat, Play w (Option Str) (RF f1 f2 x dx dt ot) (fun g' => g'.get? q = some (methodObj (.ref 77) (.ref x)) ∧ (hd.heap_39 w.params).In g' ∧ ∀ p ∈ (f1, fo1) :: (f2, fo2) :: (f3, fo3) :: (D, LCg.lst ys) :: (L' + 1 + 1 + 1, oP) :: (L' + 1 + 1, o2) :: (L' + 1, o3) :: codes3, g'.get? p.1 = some p.2)
        (.ref f3) (.ref q) 6 (fun _ i => nxF true len (ct, []) i) (fun f i => (joinF ct f i, false)) := fun q =>
      ⟨fun n f ps i t hR => (PLam q n f ps i t hR).weak (Nat.le_refl _) (fun g' h => ⟨h.1, h.2.2⟩),
       fun n f ps i j t hR hnx => by
        have hh := nxF_has hnx
        have hb : i.natAbs < 100000 := by
          obtain ⟨p, hp, e⟩ := List.mem_map.mp (has_iff.mp hh)
          have := hkey p hp
          (try dsimp only at e)
          omega
        exact (PTake x dx q n1 (by omega) (by omega) n f ps i t hR hh hb).weak (Nat.le_refl _) (fun g' h => ⟨h.1, fun p hp => h.2.2 p (by
          revert p
          repeat (refine List.forall_mem_cons.mpr ⟨by k_mem, ?_⟩)
          intro p hp
          replace hp := sub3 p hp
          repeat (first | exact hp | exact List.mem_append_left _ hp | exact List.mem_append_right _ hp | exact List.mem_append_left _ (List.mem_append_left _ hp) | exact List.mem_append_left _ (List.mem_append_right _ hp) | refine List.Mem.tail _ ?_))⟩),
       fun g' h => ⟨callable_fn (h.2.2 (f3, fo3) (by k_mem)) ((congrArg Obj.data e3).trans rfl), callable_meth h.1 h.2.1 (by k_is)⟩,
       fun g' g'' h k => ⟨k _ _ h.1, h.2.1.keeps k, fun p hp => k _ _ (h.2.2 p hp)⟩⟩
    obtain ⟨n, hn12, W⟩ := walk_join (len := len) (fwd := true) (fun p hp => (hkey p hp).1) len.toNat 0 op (Int.le_refl _) (by omega)
    skip
    have hR0 : RF f1 f2 x dx dt ot n op [(x, instObj 80 dx), (dx, dictOf es 4), (dt, ot)] := ⟨es, rfl, hes, by omega, fun z hz => by have := hop z hz; omega⟩
    obtain ⟨g1, g2, g3, g4, k1, k2, k3, k4, b0, v0, hes0, -, -⟩ := id hes
    rw [hes0] at N10
    repeat' ktr_rel
    rename Addr => q
    rename Fr _ _ _ _ => F10
    rename News _ _ _ _ => N10
    rw [← hes0] at N10
    refine Spec.use (each_spec w (PL q) W hR0 _ _) ((q, methodObj (.ref 77) (.ref x)) :: (f3, fo3) :: (D, LCg.lst ys) :: (f2, fo2) :: (f1, fo1) :: (L' + 1 + 1 + 1, oP) :: (L' + 1 + 1, o2) :: (L' + 1, o3) :: (121, tabObj pt3) :: codes3) B F10 X N10 T rfl
      (List.forall_mem_cons.mpr ⟨by k_mem, List.forall_mem_cons.mpr ⟨by k_mem, List.forall_mem_singleton.mpr (by k_mem)⟩⟩)
      (oth3 (by k_mem) (by k_ne) (by k_ne) (by k_ne) <| oth3 (by k_mem) (by k_ne) (by k_ne) (by k_ne) <| oth3 (by k_mem) (by k_ne) (by k_ne) (by k_ne) <| oth3 (by k_mem) (by k_ne) (by k_ne) (by k_ne) <| oth3 (by k_mem) (by k_ne) (by k_ne) (by k_ne) <| oth3 (by k_mem) (by k_ne) (by k_ne) (by k_ne) <| oth3 (by k_mem) (by k_ne) (by k_ne) (by k_ne) <| oth3 (by k_mem) (by k_ne) (by k_ne) (by k_ne) <| oth3 (by k_mem) (by k_ne) (by k_ne) (by k_ne) <| oth3t (fun p hp => by repeat (first | exact hp | exact List.mem_append_left _ hp | exact List.mem_append_right _ hp | exact List.mem_append_left _ (List.mem_append_left _ hp) | exact List.mem_append_left _ (List.mem_append_right _ hp) | refine List.Mem.tail _ ?_)) hc3)
      (fun g1 k1 _ hall => by
        have hall2 : ∀ p ∈ (q, methodObj (.ref 77) (.ref x)) :: (f1, fo1) :: (f2, fo2) :: (f3, fo3) :: (D, LCg.lst ys) :: (L' + 1 + 1 + 1, oP) :: (L' + 1 + 1, o2) :: (L' + 1, o3) :: codes3, g1.get? p.1 = some p.2 := fun p hp => by
          have hh := (oth3 (news := (q, methodObj (.ref 77) (.ref x)) :: (f1, fo1) :: (f2, fo2) :: (f3, fo3) :: (D, LCg.lst ys) :: (L' + 1 + 1 + 1, oP) :: (L' + 1 + 1, o2) :: (L' + 1, o3) :: codes3) (oa := instObj 80 dx) (ob := dictOf es 4) (o := ot) (by k_mem) (by k_ne) (by k_ne) (by k_ne) <| oth3 (by k_mem) (by k_ne) (by k_ne) (by k_ne) <| oth3 (by k_mem) (by k_ne) (by k_ne) (by k_ne) <| oth3 (by k_mem) (by k_ne) (by k_ne) (by k_ne) <| oth3 (by k_mem) (by k_ne) (by k_ne) (by k_ne) <| oth3 (by k_mem) (by k_ne) (by k_ne) (by k_ne) <| oth3 (by k_mem) (by k_ne) (by k_ne) (by k_ne) <| oth3 (by k_mem) (by k_ne) (by k_ne) (by k_ne) <| oth3t (fun p hp => by repeat (first | exact hp | exact List.mem_append_left _ hp | exact List.mem_append_right _ hp | exact List.mem_append_left _ (List.mem_append_left _ hp) | exact List.mem_append_left _ (List.mem_append_right _ hp) | refine List.Mem.tail _ ?_)) hc3) p hp
          refine hall _ _ (N10 p ?_).1 hh.2
          clear hh
          revert p
          repeat (refine List.forall_mem_cons.mpr ⟨by k_mem, ?_⟩)
          intro p hp
          repeat (first | exact hp | exact List.mem_append_left _ hp | exact List.mem_append_right _ hp | exact List.mem_append_left _ (List.mem_append_left _ hp) | exact List.mem_append_left _ (List.mem_append_right _ hp) | refine List.Mem.tail _ ?_)
        exact ⟨hall2 (q, methodObj (.ref 77) (.ref x)) (List.Mem.head _), X.keeps k1, fun p hp => hall2 p (List.mem_cons_of_mem _ hp)⟩) (by dsimp only [ktrTop, Around.deeper]; omega) (by dsimp only [ktrTop, Around.deeper]; omega) ?_
    clear N10
    rintro h9 tk9 v ps' ⟨⟨es5, rfl, hes5, -, -⟩, hv⟩ F11 N11 _ _ _
    simp only [List.cons_append, List.nil_append] at N11
    generalize hy : joinGo ct len true len.toNat 0 op = yy at hes5 ret
    obtain ⟨g1, g2, g3, g4, k1, k2, k3, k4, b5, v5, rfl, rfl, hv5⟩ := hes5
    cases yy with
    | none =>
      cases hv5
      simp only [Option.isSome_none] at N11
      repeat' ktr_rel
      exact fin (s := s) ret (ps' := (dt, ot) :: (121, tabObj pt3) :: codes3) (by assumption) (by assumption) hL (List.forall_mem_cons.mpr ⟨by k_mem, List.forall_mem_cons.mpr ⟨by k_mem, fun p hp => by repeat (first | exact hp | exact List.mem_append_left _ hp | exact List.mem_append_right _ hp | exact List.mem_append_left _ (List.mem_append_left _ hp) | exact List.mem_append_left _ (List.mem_append_right _ hp) | refine List.Mem.tail _ ?_)⟩⟩) ⟨pt3, codes3, rfl, TI3, hlo, rfl⟩
    | some z =>
      obtain ⟨tz, rfl⟩ := hv5
      simp only [Option.isSome_some] at N11
      repeat' ktr_rel
      exact fin (s := s) ret (ps' := (dt, ot) :: (121, tabObj pt3) :: codes3) (by assumption) (by assumption) hL (List.forall_mem_cons.mpr ⟨by k_mem, List.forall_mem_cons.mpr ⟨by k_mem, fun p hp => by repeat (first | exact hp | exact List.mem_append_left _ hp | exact List.mem_append_right _ hp | exact List.mem_append_left _ (List.mem_append_left _ hp) | exact List.mem_append_left _ (List.mem_append_right _ hp) | refine List.Mem.tail _ ?_)⟩⟩) ⟨pt3, codes3, rfl, TI3, hlo, _, rfl⟩
  | false =>
    repeat' ktr_rel
    rename Fr _ _ _ _ => F9
    rename News _ _ _ _ => N9
    obtain ⟨oP, dP, N9⟩ := cellAt (a := L' + 1 + 1 + 1) (r1 := [(D, LCg.lst ys), (x, instObj 80 dx), (dx, dictOf es 4), (f2, fo2), (f1, fo1)]) (r2 := (L' + 1 + 1, o2) :: (L' + 1, o3) :: (dt, ot) :: (121, tabObj pt2) :: codes2) N9 (by assumption)
    simp only [List.cons_append, List.nil_append] at N9
    refine kla_eval rfl ?_
    refine lamAny (hd := [(D, LCg.lst ys), (x, instObj 80 dx), (dx, dictOf es 4), (f2, fo2), (f1, fo1), (L' + 1 + 1 + 1, oP), (L' + 1 + 1, o2), (L' + 1, o3), (dt, ot), (121, tabObj pt2)]) (codes := codes2) F9 N9 T hn rfl (by k_updF) c3 TI2 (by rfl) rfl ?_
    clear F9 N9
    intro f3 q3 ctv3 h8 tk8 pt3 codes3 F10 N10 TI3 sub3 in3 lt3 nw3
    obtain ⟨fo3, e3, -⟩ := news_obj N10 (List.Mem.head _)
    rw [← e3] at N10
    simp only [List.cons_append, List.nil_append] at N10 lt3 nw3
    have z3 : @LT.lt Nat _ D f3 := lt3 (D, LCg.lst ys) (by k_mem)
    have z4 : @LT.lt Nat _ x f3 := lt3 (x, instObj 80 dx) (by k_mem)
    have z5 : @LT.lt Nat _ dx f3 := lt3 (dx, dictOf es 4) (by k_mem)
    have hc2 : ∀ p ∈ codes2, @LT.lt Nat _ p.1 f2 ∧ @Ne Nat p.1 dt ∧ (p ∈ codes ∨ L' ≤ p.1) := fun p hp => by
      refine ⟨(nw2 p hp).1, ?_⟩
      rcases (nw2 p hp).2 with h | h
      · rcases (nw1 p h).2 with h | h
        · exact ⟨neN (hcodes p h).2, .inl h⟩
        · have := ltN (h (L' + 1, o3) (by k_mem))
          dsimp only at this
          exact ⟨by omega, .inr (by show L' ≤ _; omega)⟩
      · have := ltN (h (L' + 1, o3) (by k_mem))
        dsimp only at this
        exact ⟨by omega, .inr (by show L' ≤ _; omega)⟩
    have hc3 : ∀ p ∈ codes3, @Ne Nat p.1 x ∧ @Ne Nat p.1 dx ∧ @Ne Nat p.1 dt := fun p hp => by
      rcases (nw3 p hp).2 with h | h
      · have a1 := hc2 p h
        exact ⟨by omega, by omega, a1.2.1⟩
      · have a1 := ltN (h (x, instObj 80 dx) (by k_mem))
        have a2 := ltN (h (dx, dictOf es 4) (by k_mem))
        have a3 := ltN (h (dt, ot) (by k_mem))
        dsimp only at a1 a2 a3
        exact ⟨by omega, by omega, by omega⟩
    have hlo : ∀ p ∈ codes3, p ∈ codes ∨ s.heap.objs.size ≤ p.1 := fun p hp => by
      rw [← hL]
      rcases (nw3 p hp).2 with h | h
      · exact (hc2 p h).2.2
      · have a1 := ltN (h (x, instObj 80 dx) (by k_mem))
        dsimp only at a1
        exact .inr (by show L' ≤ _; omega)
    have PLam : ∀ (q n : Nat) (f : Option Str) (ps : Led) (i : Int) (t : Tok), RF f1 f2 x dx dt ot n f ps → Spec w (.ref f3) [.int i t] 6 (fun g' => g'.get? q = some (methodObj (.ref 77) (.ref x)) ∧ ∀ p ∈ (f1, fo1) :: (f2, fo2) :: (f3, fo3) :: (D, LCg.lst ys) :: (L' + 1 + 1 + 1, oP) :: (L' + 1 + 1, o2) :: (L' + 1, o3) :: codes3, g'.get? p.1 = some p.2) ps
        (fun _ v ps' => RF f1 f2 x dx dt ot n f ps' ∧ OptV v (nxF false len (ct, []) i)) := by
      clear F10 N10 B X T H hk hsz ret hdp hun hn PTake PJoin PGet hlo
      intro q n f ps i t hR
      unfold Spec
      intro dp un gd cn cs L a ccd cl outer base g p loose mean mg mb s Q E hcs hdp hun B X T hn hk hsz H ret
      obtain ⟨-, hn⟩ := hn
      refine wpAny_call ?_
      refine' enterE (binds := [("at", .int i t)]) (T.nolimit.keeps hk) hk hsz H (hk _ _ (hn (f3, fo3) (by k_mem))) ((congrArg Obj.data e3).trans rfl) (in3.rec fun p hp => hk _ _ (hn p (by repeat (first | exact hp | exact List.mem_append_left _ hp | exact List.mem_append_right _ hp | exact List.mem_append_left _ (List.mem_append_left _ hp) | exact List.mem_append_left _ (List.mem_append_right _ hp) | refine List.Mem.tail _ ?_)))) ?k8 ?k9 ?kB ?_ ?c5 ?c2 ?c3 ?c4
      case k8 => (dsimp only [ktrTop]; omega)
      case k9 => exact rfl
      case kB => exact locs rfl
      case c5 => decide
      case c2 => exact rfl
      case c3 => exact rfl
      case c4 => exact rfl
      intro L₂ h₂ tk₂ hL₂ F N hlt
      have kP := hn (L' + 1 + 1 + 1, oP) (by k_mem)
      have kL := hn (L' + 1, o3) (by k_mem)
      have kD := hn (D, LCg.lst ys) (by k_mem)
      dsimp only at kP kL kD
      repeat' ktr_rel
      refine Spec.use (great_spec w hys i _) _ B F X N T rfl (fun p hp => nomatch hp) (fun p hp => ⟨hp, List.not_mem_nil⟩) (fun g1 k1 _ _ => ⟨_, k1 _ _ kD, rfl, _, rfl⟩) (by dsimp only [ktrTop, Around.deeper]; omega) (by dsimp only [ktrTop, Around.deeper]; omega) ?_
      rintro h5 tk5 v ps' ⟨rfl, hv⟩ F5 N5 _ _ _
      simp only [List.nil_append] at N5
      repeat' ktr_rel
      refine fin (s := s) ret F5 N5 hL₂ (ps' := ps) (fun p hp => hp) ⟨hR, ?_⟩
      show OptV v (nxF false len (ct, []) i)
      unfold nxF
      rw [if_neg (by decide)]
      exact hv
    have PL : ∀ q : Nat, Play w (Option Str) (RF f1 f2 x dx dt ot) (fun g' => g'.get? q = some (methodObj (.ref 77) (.ref x)) ∧ (hd.heap_39 w.params).In g' ∧ ∀ p ∈ (f1, fo1) :: (f2, fo2) :: (f3, fo3) :: (D, LCg.lst ys) :: (L' + 1 + 1 + 1, oP) :: (L' + 1 + 1, o2) :: (L' + 1, o3) :: codes3, g'.get? p.1 = some p.2)
        (.ref f3) (.ref q) 6 (fun _ i => nxF false len (ct, []) i) (fun f i => (joinF ct f i, false)) := fun q =>
      ⟨fun n f ps i t hR => (PLam q n f ps i t hR).weak (Nat.le_refl _) (fun g' h => ⟨h.1, h.2.2⟩),
       fun n f ps i j t hR hnx => by
        have hh := nxF_has hnx
        have hb : i.natAbs < 100000 := by
          obtain ⟨p, hp, e⟩ := List.mem_map.mp (has_iff.mp hh)
          have := hkey p hp
          (try dsimp only at e)
          omega
        exact (PTake x dx q n1 (by omega) (by omega) n f ps i t hR hh hb).weak (Nat.le_refl _) (fun g' h => ⟨h.1, fun p hp => h.2.2 p (by
          revert p
          repeat (refine List.forall_mem_cons.mpr ⟨by k_mem, ?_⟩)
          intro p hp
          replace hp := sub3 p hp
          repeat (first | exact hp | exact List.mem_append_left _ hp | exact List.mem_append_right _ hp | exact List.mem_append_left _ (List.mem_append_left _ hp) | exact List.mem_append_left _ (List.mem_append_right _ hp) | refine List.Mem.tail _ ?_))⟩),
       fun g' h => ⟨callable_fn (h.2.2 (f3, fo3) (by k_mem)) ((congrArg Obj.data e3).trans rfl), callable_meth h.1 h.2.1 (by k_is)⟩,
       fun g' g'' h k => ⟨k _ _ h.1, h.2.1.keeps k, fun p hp => k _ _ (h.2.2 p hp)⟩⟩
    obtain ⟨n, hn12, W⟩ := walk_join (len := len) (fwd := false) (fun p hp => (hkey p hp).1) len.toNat 0 op (Int.le_refl _) (by omega)
    rw [show atF false len 0 = len - 1 by unfold atF; simp] at W
    have hR0 : RF f1 f2 x dx dt ot n op [(x, instObj 80 dx), (dx, dictOf es 4), (dt, ot)] := ⟨es, rfl, hes, by omega, fun z hz => by have := hop z hz; omega⟩
    obtain ⟨g1, g2, g3, g4, k1, k2, k3, k4, b0, v0, hes0, -, -⟩ := id hes
    rw [hes0] at N10
    repeat' ktr_rel
    rename Addr => q
    rename Fr _ _ _ _ => F10
    rename News _ _ _ _ => N10
    rw [← hes0] at N10
    refine Spec.use (each_spec w (PL q) W hR0 _ _) ((q, methodObj (.ref 77) (.ref x)) :: (f3, fo3) :: (D, LCg.lst ys) :: (f2, fo2) :: (f1, fo1) :: (L' + 1 + 1 + 1, oP) :: (L' + 1 + 1, o2) :: (L' + 1, o3) :: (121, tabObj pt3) :: codes3) B F10 X N10 T rfl
      (List.forall_mem_cons.mpr ⟨by k_mem, List.forall_mem_cons.mpr ⟨by k_mem, List.forall_mem_singleton.mpr (by k_mem)⟩⟩)
      (oth3 (by k_mem) (by k_ne) (by k_ne) (by k_ne) <| oth3 (by k_mem) (by k_ne) (by k_ne) (by k_ne) <| oth3 (by k_mem) (by k_ne) (by k_ne) (by k_ne) <| oth3 (by k_mem) (by k_ne) (by k_ne) (by k_ne) <| oth3 (by k_mem) (by k_ne) (by k_ne) (by k_ne) <| oth3 (by k_mem) (by k_ne) (by k_ne) (by k_ne) <| oth3 (by k_mem) (by k_ne) (by k_ne) (by k_ne) <| oth3 (by k_mem) (by k_ne) (by k_ne) (by k_ne) <| oth3 (by k_mem) (by k_ne) (by k_ne) (by k_ne) <| oth3t (fun p hp => by repeat (first | exact hp | exact List.mem_append_left _ hp | exact List.mem_append_right _ hp | exact List.mem_append_left _ (List.mem_append_left _ hp) | exact List.mem_append_left _ (List.mem_append_right _ hp) | refine List.Mem.tail _ ?_)) hc3)
      (fun g1 k1 _ hall => by
        have hall2 : ∀ p ∈ (q, methodObj (.ref 77) (.ref x)) :: (f1, fo1) :: (f2, fo2) :: (f3, fo3) :: (D, LCg.lst ys) :: (L' + 1 + 1 + 1, oP) :: (L' + 1 + 1, o2) :: (L' + 1, o3) :: codes3, g1.get? p.1 = some p.2 := fun p hp => by
          have hh := (oth3 (news := (q, methodObj (.ref 77) (.ref x)) :: (f1, fo1) :: (f2, fo2) :: (f3, fo3) :: (D, LCg.lst ys) :: (L' + 1 + 1 + 1, oP) :: (L' + 1 + 1, o2) :: (L' + 1, o3) :: codes3) (oa := instObj 80 dx) (ob := dictOf es 4) (o := ot) (by k_mem) (by k_ne) (by k_ne) (by k_ne) <| oth3 (by k_mem) (by k_ne) (by k_ne) (by k_ne) <| oth3 (by k_mem) (by k_ne) (by k_ne) (by k_ne) <| oth3 (by k_mem) (by k_ne) (by k_ne) (by k_ne) <| oth3 (by k_mem) (by k_ne) (by k_ne) (by k_ne) <| oth3 (by k_mem) (by k_ne) (by k_ne) (by k_ne) <| oth3 (by k_mem) (by k_ne) (by k_ne) (by k_ne) <| oth3 (by k_mem) (by k_ne) (by k_ne) (by k_ne) <| oth3t (fun p hp => by repeat (first | exact hp | exact List.mem_append_left _ hp | exact List.mem_append_right _ hp | exact List.mem_append_left _ (List.mem_append_left _ hp) | exact List.mem_append_left _ (List.mem_append_right _ hp) | refine List.Mem.tail _ ?_)) hc3) p hp
          refine hall _ _ (N10 p ?_).1 hh.2
          clear hh
          revert p
          repeat (refine List.forall_mem_cons.mpr ⟨by k_mem, ?_⟩)
          intro p hp
          repeat (first | exact hp | exact List.mem_append_left _ hp | exact List.mem_append_right _ hp | exact List.mem_append_left _ (List.mem_append_left _ hp) | exact List.mem_append_left _ (List.mem_append_right _ hp) | refine List.Mem.tail _ ?_)
        exact ⟨hall2 (q, methodObj (.ref 77) (.ref x)) (List.Mem.head _), X.keeps k1, fun p hp => hall2 p (List.mem_cons_of_mem _ hp)⟩) (by dsimp only [ktrTop, Around.deeper]; omega) (by dsimp only [ktrTop, Around.deeper]; omega) ?_
    clear N10
    rintro h9 tk9 v ps' ⟨⟨es5, rfl, hes5, -, -⟩, hv⟩ F11 N11 _ _ _
    simp only [List.cons_append, List.nil_append] at N11
    generalize hy : joinGo ct len false len.toNat 0 op = yy at hes5 ret
    obtain ⟨g1, g2, g3, g4, k1, k2, k3, k4, b5, v5, rfl, rfl, hv5⟩ := hes5
    cases yy with
    | none =>
      cases hv5
      simp only [Option.isSome_none] at N11
      repeat' ktr_rel
      exact fin (s := s) ret (ps' := (dt, ot) :: (121, tabObj pt3) :: codes3) (by assumption) (by assumption) hL (List.forall_mem_cons.mpr ⟨by k_mem, List.forall_mem_cons.mpr ⟨by k_mem, fun p hp => by repeat (first | exact hp | exact List.mem_append_left _ hp | exact List.mem_append_right _ hp | exact List.mem_append_left _ (List.mem_append_left _ hp) | exact List.mem_append_left _ (List.mem_append_right _ hp) | refine List.Mem.tail _ ?_)⟩⟩) ⟨pt3, codes3, rfl, TI3, hlo, rfl⟩
    | some z =>
      obtain ⟨tz, rfl⟩ := hv5
      simp only [Option.isSome_some] at N11
      repeat' ktr_rel
      exact fin (s := s) ret (ps' := (dt, ot) :: (121, tabObj pt3) :: codes3) (by assumption) (by assumption) hL (List.forall_mem_cons.mpr ⟨by k_mem, List.forall_mem_cons.mpr ⟨by k_mem, fun p hp => by repeat (first | exact hp | exact List.mem_append_left _ hp | exact List.mem_append_right _ hp | exact List.mem_append_left _ (List.mem_append_left _ hp) | exact List.mem_append_left _ (List.mem_append_right _ hp) | refine List.Mem.tail _ ?_)⟩⟩) ⟨pt3, codes3, rfl, TI3, hlo, _, rfl⟩
end
end Mine
end

/-! LawH -/
section
namespace Mine
open PySem PySem.W PySem.Spec PySem.Calls PyProof.Rows PyProof.V
set_option maxRecDepth 100000

def Far (bad : List Nat) (c : Led) : Prop := ∀ p ∈ c, ∀ b ∈ bad, @Ne Nat p.1 b
def Apart (c1 c2 : Led) : Prop := ∀ p ∈ c1, ∀ q ∈ c2, @Ne Nat p.1 q.1
def LawL (bad : List Nat) (pre nw : Led) : Prop := ∃ (p1 p2 : Array Value) (c1 c2 : Led), nw = pre ++ ((121 : Addr), tabObj p1) :: ((107 : Addr), tabObj p2) :: (c1 ++ c2) ∧ TabInv QTf p1 c1 ∧ TabInv QTw p2 c2 ∧ Far bad c1 ∧ Far bad c2 ∧ Apart c1 c2
theorem Far.new {bad : List Nat} {c c' : Led} {lo : Nat} (h : ∀ p ∈ c', p ∈ c ∨ lo ≤ p.1) (k : Far bad c) (hb : ∀ b ∈ bad, b < lo) : Far bad c' := fun p hp b hbm => by
  rcases h p hp with h1 | h1
  · exact k p h1 b hbm
  · exact Nat.ne_of_gt (Nat.lt_of_lt_of_le (hb b hbm) h1)
theorem Apart.new {c1 c c' : Led} {lo : Nat} (h : ∀ p ∈ c', p ∈ c ∨ lo ≤ p.1) (k : Apart c1 c) (hb : ∀ p ∈ c1, @LT.lt Nat _ p.1 lo) : Apart c1 c' := fun p hp q hq => by
  rcases h q hq with h1 | h1
  · exact k p hp q h1
  · exact Nat.ne_of_lt (Nat.lt_of_lt_of_le (hb p hp) h1)
theorem Apart.symm {c1 c2 : Led} (h : Apart c1 c2) : Apart c2 c1 := fun p hp q hq e => h q hq p hp e.symm
theorem Apart.cons {p : Addr × Obj} {c1 c2 : Led} (h : ∀ q ∈ c2, @Ne Nat p.1 q.1) (k : Apart c1 c2) : Apart (p :: c1) c2 := List.forall_mem_cons.mpr ⟨h, k⟩
theorem Apart.nil {c : Led} : Apart [] c := fun _ h => nomatch h
theorem Apart.app {a b c : Led} (h : Apart a c) (k : Apart b c) : Apart (a ++ b) c := fun p hp => (List.mem_append.mp hp).elim (h p) (k p)
theorem Far.col {bad : List Nat} {c : Led} {b : Nat} (k : Far bad c) (hb : b ∈ bad) : ∀ q ∈ c, @Ne Nat b q.1 := fun q hq e => k q hq b hb e.symm
theorem othA {M news E : Led} (h1 : ∀ p ∈ E, p ∈ news) (h2 : Apart E M) : ∀ p ∈ E, p ∈ news ∧ p.1 ∉ M.map (·.1) := fun p hp => ⟨h1 p hp, fun h => by
  obtain ⟨q, hq, e⟩ := List.mem_map.mp h
  exact h2 p hp q hq e.symm⟩
theorem Readable.isRef {ps : Led} {v : Value} {r : St × Option Int} {h : Heap} (R : Readable ps v (outD r)) (hh : ∀ p ∈ ps, h.get? p.1 = some p.2) : ∃ a, v = .ref a := by
  obtain ⟨as, hr, _⟩ := R h hh
  unfold outD at hr
  cases hr
  exact ⟨_, rfl⟩
theorem newsSub {g h : Heap} {L : Addr} {a b : Led} (N : News g L h a) (k : ∀ p ∈ b, p ∈ a) : News g L h b := fun p hp => N p (k p hp)
theorem walk_law {cd ct : List (Int × Int)} {len : Int} {fwd : Bool} (b1 : 4 ≤ len) (b2 : len ≤ 12) (kin : keysIn len ct) :
    ∃ n, n ≤ 100 ∧ Walk (nxF fwd len) (visF cd len) (if fwd then 1 else -1) n (ct, []) (if fwd then 0 else len - 1) (plainGo cd len fwd len.toNat 0 (ct, [])).1 (plainGo cd len fwd len.toNat 0 (ct, [])).2 := by
  obtain ⟨n, hn, W⟩ := walk_plain (cd := cd) (fwd := fwd) (len := len) (by omega) len.toNat 0 (ct, []) (Int.le_refl _) (by omega) (fun p hp => (kin p hp).1)
  have e : atF fwd len 0 = if fwd then 0 else len - 1 := by unfold atF; cases fwd <;> simp
  rw [e] at W
  exact ⟨n, by omega, W⟩
theorem Far.nil {bad : List Nat} : Far bad [] := fun _ h => nomatch h
theorem TabInv.nil {QT : Nat → Nat → Option Str} : TabInv QT #[] [] := ⟨trivial, fun _ _ h => nomatch h⟩
theorem Far.add {bad : List Nat} {c : Led} {I : Nat} (k : Far bad c) (h : ∀ p ∈ c, @Ne Nat p.1 I) : Far (I :: bad) c := fun p hp b hb => by
  rcases List.mem_cons.mp hb with rfl | hb
  · exact h p hp
  · exact k p hp b hb
theorem row0 {x : Nat} : ∀ q ∈ ([] : Led), @Ne Nat x q.1 := fun _ h => nomatch h
theorem row1 {x a : Nat} {oa : Obj} {cs : Led} (h1 : @Ne Nat x a) (h4 : ∀ q ∈ cs, @Ne Nat x q.1) : ∀ q ∈ ((a, oa) :: cs : Led), @Ne Nat x q.1 := List.forall_mem_cons.mpr ⟨h1, h4⟩
theorem col1 {a : Nat} {oa : Obj} {c1 cs : Led} (h1 : ∀ p ∈ c1, @Ne Nat p.1 a) (h : Apart c1 cs) : Apart c1 ((a, oa) :: cs) := fun p hp => row1 (h1 p hp) (h p hp)
theorem col0 {c1 : Led} : Apart c1 [] := fun _ _ => row0
theorem Far.drop {bad : List Nat} {c : Led} {I : Nat} (k : Far (I :: bad) c) : Far bad c := fun p hp b hb => k p hp b (List.mem_cons_of_mem _ hb)
theorem Far.head {bad : List Nat} {c : Led} {I : Nat} (k : Far (I :: bad) c) : ∀ p ∈ c, @Ne Nat p.1 I := fun p hp => k p hp I (List.mem_cons_self ..)
section
variable {a b c d e f g i p : Addr × Obj} {c1 c2 r : Led}
theorem tl4 (h : p ∈ r) : p ∈ a :: b :: c :: d :: r := List.Mem.tail _ (List.Mem.tail _ (List.Mem.tail _ (List.Mem.tail _ h)))
theorem tl6 (h : p ∈ r) : p ∈ a :: b :: c :: d :: e :: f :: r := List.Mem.tail _ (List.Mem.tail _ (List.Mem.tail _ (List.Mem.tail _ (List.Mem.tail _ (List.Mem.tail _ h)))))
theorem tl8 (h : p ∈ r) : p ∈ a :: b :: c :: d :: e :: f :: g :: i :: r := List.Mem.tail _ (List.Mem.tail _ (List.Mem.tail _ (List.Mem.tail _ (List.Mem.tail _ (List.Mem.tail _ (List.Mem.tail _ (List.Mem.tail _ h)))))))
theorem reA : ∀ p ∈ a :: b :: c :: d :: e :: f :: ((c1 ++ c2) ++ r), p ∈ (c :: d :: f :: (c2 ++ r)) ++ (a :: b :: e :: c1) := fun p hp => by
  simp only [List.mem_cons, List.mem_append] at hp ⊢
  rcases hp with rfl | rfl | rfl | rfl | rfl | rfl | (hp | hp) | hp <;> simp [*]
theorem reB : ∀ p ∈ a :: b :: c :: d :: e :: f :: c1, p ∈ a :: b :: c :: d :: e :: f :: (c1 ++ r) := fun p hp => by
  simp only [List.mem_cons, List.mem_append] at hp ⊢
  rcases hp with rfl | rfl | rfl | rfl | rfl | rfl | hp <;> simp [*]
theorem reC : ∀ p ∈ a :: b :: c :: d :: e :: f :: ((c1 ++ c2) ++ r), p ∈ (c :: d :: r) ++ (a :: b :: e :: f :: (c1 ++ c2)) := fun p hp => by
  simp only [List.mem_cons, List.mem_append] at hp ⊢
  rcases hp with rfl | rfl | rfl | rfl | rfl | rfl | (hp | hp) | hp <;> simp [*]
theorem reD : ∀ p ∈ a :: b :: c :: d :: e :: f :: g :: i :: (c1 ++ c2), p ∈ (e :: g :: c1) ++ (a :: b :: c :: d :: f :: i :: c2) := fun p hp => by
  simp only [List.mem_cons, List.mem_append] at hp ⊢
  rcases hp with rfl | rfl | rfl | rfl | rfl | rfl | rfl | rfl | hp | hp <;> simp [*]
theorem reE : ∀ p ∈ a :: b :: c :: d :: e :: f :: g :: i :: (c1 ++ c2), p ∈ [e] ++ (a :: b :: c :: d :: f :: g :: i :: (c1 ++ c2)) := fun p hp => by
  simp only [List.mem_cons, List.mem_append] at hp ⊢
  rcases hp with rfl | rfl | rfl | rfl | rfl | rfl | rfl | rfl | hp | hp <;> simp [*]
end
theorem three_ops {i : Nat} {v : Value} {x y : Str} {t1 t2 : Tok} (hx : x.length ≤ 10) (hy : y.length ≤ 10) (h : (#[Value.none, Value.str x t1, Value.str y t2] : Array Value)[i]? = some v) : ∃ op, OptS v op ∧ ∀ z ∈ op, z.length ≤ 10 := by
  have hi := (Array.getElem?_eq_some_iff.mp h).1
  simp at hi
  rcases i with _ | _ | _ | i
  · exact ⟨none, (by simpa using h.symm : v = Value.none), fun _ h => nomatch h⟩
  · exact ⟨some x, ⟨t1, by simpa using h.symm⟩, fun z hz => by cases hz; exact hx⟩
  · exact ⟨some y, ⟨t2, by simpa using h.symm⟩, fun z hz => by cases hz; exact hy⟩
  · omega
theorem two_bools {i : Nat} {v : Value} (h : (#[Value.bool true, Value.bool false] : Array Value)[i]? = some v) : ∃ b, v = .bool b := by
  have hi := (Array.getElem?_eq_some_iff.mp h).1
  simp at hi
  rcases i with _ | _ | i
  · exact ⟨true, by simpa using h.symm⟩
  · exact ⟨false, by simpa using h.symm⟩
  · omega
end Mine
end

/-! Whole -/
section
namespace Mine
open PySem PySem.W PySem.Spec PySem.Calls PyProof.Rows PyProof.V
set_option maxRecDepth 100000
set_option maxHeartbeats 8000000
section
local macro_rules | `(tactic| ktr_rel) => `(tactic| ((fail_if_success (with_reducible show wpAny _ _ (pyIter _) _ _ _)); (fail_if_success (with_reducible show wpAny _ _ (exec (Stmt.For _ _ _ _ _) _) _ _ _)); (fail_if_success (with_reducible show wpAny _ _ (call (Value.ref 35) _) _ _ _)); (fail_if_success (with_reducible show wpAny _ _ (call (Value.ref 42) _) _ _ _)); (fail_if_success (with_reducible show wpAny _ _ (call (Value.ref 91) _) _ _ _)); (fail_if_success (with_reducible show wpAny _ _ (call (Value.ref 112) _) _ _ _)); (fail_if_success (with_reducible show wpAny _ _ (call (Value.ref 105) _) _ _ _)); (fail_if_success (with_reducible show wpAny _ _ (call (Value.ref 119) _) _ _ _)); (fail_if_success (with_reducible show wpAny _ _ (call (Value.ref 124) _) _ _ _)); (fail_if_success (with_reducible show wpAny _ _ (call (Value.builtin "repr") _) _ _ _)); (first | (k_unfold; (try dsimp only)) | (k_end; wrow_close) | walk1 | (dsimp only; walk1) | (leave1; (try dsimp only)))))
local macro_rules | `(tactic| ktr_room) => `(tactic| ((try simp only [depth_in1, depth_deeper]); (try dsimp only [ktrTop]); omega))
local macro_rules | `(tactic| k_all) => `(tactic| assumption)
local macro_rules | `(tactic| k_data) => `(tactic| ((fail_if_success (with_reducible show wpAny _ _ (newTuple _) _ _ _)); ktr_rel))

theorem whole : PySem.Challenge.rw_nt0339_01.Holds := hd (by
  k_go0
  all_goals try k_fold
  repeat' ktr_rel
  rename Fr _ _ _ _ => F1
  rename News _ _ _ _ => N1
  rename Top _ _ _ _ _ (ghostOf _ _) => T
  rename Below _ _ _ _ => B
  rename Frag.In _ (ghostOf _ _) => X
  rename IntsAre _ _ => hI
  rename Heap.IsList (ghostOf _ _) _ _ => hlist
  rename ¬ (((63 : Nat) : Int) < _) => h63
  rename _ ∧ _ => hlow
  rename CodeHd _ (((111 : Nat), (107 : Nat)) : Addr × Addr).1 _ => ch2
  rename CodeHd _ (((123 : Nat), (121 : Nat)) : Addr × Addr).1 _ => ch1
  obtain ⟨low1, low2⟩ := hlow
  refine Spec.use (world_spec _ hI (by omega)) [] B F1 X N1 T rfl (fun p hp => hp) (fun _ hp => nomatch hp) (fun g k1 k2 _ => hlist.at (k1 _)) (by decide) (by decide) ?_
  clear N1
  rintro h2 tk2 v ps' ⟨T1, dt, dd, ot, od, len, tl, kt, kd, ct, cd, rfl, rfl, hdt, hft, hdd, hfd, hct, hcd, kin, kid, vin, b1, b2, nd, n21, lo1, lo2⟩ F2 N2 _ _ _
  simp only [List.cons_append, List.nil_append] at N2
  repeat' ktr_rel
  rename Fr _ _ _ _ => F3
  refine For_invVF F3 (by rfl) (by rfl) ?_
  repeat' ktr_rel
  rename Fr _ _ _ _ => F3
  rename News _ _ _ _ => N3
  rename Addr => l
  rename _ ∧ _ => hlow
  obtain ⟨w1, w2, w3, w4, w5⟩ := hlow
  have hsm : ∀ p ∈ ct, SmP p := fun p hp => ⟨by have := kin p hp; omega, by have := vin p hp; omega⟩
  refine iterTup (news := [(dt, ot), (dd, od), ((121 : Addr), tabObj #[]), ((107 : Addr), tabObj #[])]) (fun i m nw => LawL [dt, dd, 121, 107, l] [(dt, ot), (dd, od)] nw ∧ m "things" = some (.ref dt) ∧ m "deeds" = some (.ref dd) ∧ m "length" = some (.int len tl))
    rfl F3 N3 (List.Mem.head _) (fun p hp => List.mem_cons_of_mem _ (List.mem_cons_of_mem _ hp)) ⟨⟨#[], #[], [], [], rfl, TabInv.nil, TabInv.nil, Far.nil, Far.nil, Apart.nil⟩, rfl, rfl, rfl⟩ ?_ ?_
  · clear F3 N3
    rintro i v m₁ nw hh tk I oI ol hv ⟨⟨p1, p2, c1, c2, rfl, TI1, TI2, fa1, fa2, ap⟩, e1, e2, e3⟩ hoff F N
    obtain ⟨fwd, rfl⟩ := two_bools hv
    rw [pin e1] at F
    rw [pin e2] at F
    rw [pin e3] at F
    simp only [List.cons_append, List.nil_append] at N hoff
    have i1 := neN (hoff (dt, ot) (by k_mem))
    have i2 := neN (hoff (dd, od) (by k_mem))
    have i3 := neN (hoff ((121 : Addr), tabObj p1) (by k_mem))
    have i4 := neN (hoff ((107 : Addr), tabObj p2) (by k_mem))
    have ic1 : ∀ p ∈ c1, @Ne Nat p.1 I := fun p hp => hoff p (tl4 (List.mem_append_left _ hp))
    have ic2 : ∀ p ∈ c2, @Ne Nat p.1 I := fun p hp => hoff p (tl4 (List.mem_append_right _ hp))
    obtain ⟨n100, hn100, W⟩ := walk_law (cd := cd) (fwd := fwd) b1 b2 kin
    obtain ⟨D, hDe, hD1, hD2, hD3⟩ : ∃ D, outD (plainGo cd len fwd len.toNat 0 (ct, [])) = D ∧ D.showable = true ∧ D.shown.length ≤ sizeLine ∧ D.depth ≤ 3 := ⟨_, rfl, show_go b1 b2 hct hsm⟩
    repeat' ktr_rel
    refine Spec.use (walked_spec _ fwd hdt hft hdd hfd lo1 lo2 (by omega) TI2 (fun p hp => ⟨fa2 p hp dd (by simp), fa2 p hp 107 (by simp)⟩) (by omega) (by omega) (by omega) len b1 b2 tl W hn100)
      ((I, oI) :: (l, ol) :: ((121 : Addr), tabObj p1) :: c1) B F X N T rfl
      (List.forall_mem_cons.mpr ⟨by k_mem, List.forall_mem_cons.mpr ⟨by k_mem, List.forall_mem_cons.mpr ⟨by k_mem, fun p hp => tl6 (List.mem_append_right _ hp)⟩⟩⟩)
      (othA (List.forall_mem_cons.mpr ⟨by k_mem, List.forall_mem_cons.mpr ⟨by k_mem, List.forall_mem_cons.mpr ⟨by k_mem, fun p hp => tl6 (List.mem_append_left _ hp)⟩⟩⟩)
        (.cons (row1 i1.symm (row1 i2.symm (row1 i4.symm fun q hq => (ic2 q hq).symm))) <| .cons (row1 (by omega) (row1 (by omega) (row1 (by omega) (fa2.col (by simp))))) <|
          .cons (row1 (by omega) (row1 (by omega) (row1 (by omega) (fa2.col (by simp))))) <| col1 (fun p hp => fa1 p hp dt (by simp)) <| col1 (fun p hp => fa1 p hp dd (by simp)) <| col1 (fun p hp => fa1 p hp 107 (by simp)) ap))
      (fun g k1 k2 _ => ch2.keeps k1) (by decide) (by decide) ?_
    clear N F
    rintro h5 tk5 v ps' ⟨pt', c2', rest, rfl, TI2', new2, hread⟩ F5 N5 sz5 ge5 lt5
    have hb5 := Far.new new2 (fa2.add ic2) (List.forall_mem_cons.mpr ⟨sz5 (I, oI) (by k_mem), List.forall_mem_cons.mpr ⟨sz5 (dt, ot) (by k_mem), List.forall_mem_cons.mpr ⟨sz5 (dd, od) (by k_mem), List.forall_mem_cons.mpr ⟨sz5 ((121 : Addr), tabObj p1) (by k_mem), List.forall_mem_cons.mpr ⟨sz5 ((107 : Addr), tabObj p2) (by k_mem), List.forall_mem_cons.mpr ⟨sz5 (l, ol) (by k_mem), fun _ h => nomatch h⟩⟩⟩⟩⟩⟩)
    have ap5 := Apart.new new2 ap (fun p hp => sz5 p (tl6 (List.mem_append_left _ hp)))
    replace N5 := newsSub N5 (b := (I, oI) :: (l, ol) :: (dt, ot) :: (dd, od) :: ((121 : Addr), tabObj p1) :: ((107 : Addr), tabObj pt') :: ((c1 ++ c2') ++ rest)) reA
    obtain ⟨a5, rfl⟩ := hread.isRef (h := h5) (fun p hp => (N5 p (tl6 (List.mem_append_right _ hp))).1)
    replace hread : Readable rest (.ref a5) D := hDe ▸ hread
    clear sz5 ge5 lt5 new2
    repeat' ktr_rel
    rename Fr _ _ _ _ => F6
    rename News _ _ _ _ => N6
    obtain ⟨as, hr, hns⟩ := hread _ (fun p hp => (N6 p (tl6 (List.mem_append_right _ hp))).1)
    refine repr_of_reads' hr hD1 (fun _ => hns) rfl (Nat.lt_of_le_of_lt (Nat.add_le_add_left (Nat.succ_le_succ hD3) _) (by dsimp only [Around.deeper]; decide)) (fun _ _ e => e) (fun h7 u7 tk7 k7 => ?_) hD2
    have F7 := Fr.keeps F6 k7
    have N7 := newsSub (News.keepsAll N6 k7) (b := (I, oI) :: (l, ol) :: (dt, ot) :: (dd, od) :: ((121 : Addr), tabObj p1) :: ((107 : Addr), tabObj pt') :: (c1 ++ c2')) reB
    clear F6 N6 hr hns k7 hread
    repeat' ktr_rel
    refine Spec.use (plain_spec _ fwd hdt hft hdd hfd lo1 lo2 (by omega) (by omega) (Nat.ne_of_lt nd) len b1 b2 tl)
      ((I, oI) :: (l, ol) :: ((121 : Addr), tabObj p1) :: ((107 : Addr), tabObj pt') :: (c1 ++ c2')) B F7 X N7 T rfl
      (List.forall_mem_cons.mpr ⟨by k_mem, List.forall_mem_cons.mpr ⟨by k_mem, fun _ h => nomatch h⟩⟩)
      (othA (List.forall_mem_cons.mpr ⟨by k_mem, List.forall_mem_cons.mpr ⟨by k_mem, List.forall_mem_cons.mpr ⟨by k_mem, List.forall_mem_cons.mpr ⟨by k_mem, fun p hp => tl6 hp⟩⟩⟩⟩)
        (.cons (row1 i1.symm (row1 i2.symm row0)) <| .cons (row1 (by omega) (row1 (by omega) row0)) <| .cons (row1 (by omega) (row1 (by omega) row0)) <| .cons (row1 (by omega) (row1 (by omega) row0)) <|
          .app (col1 (fun p hp => fa1 p hp dt (by simp)) <| col1 (fun p hp => fa1 p hp dd (by simp)) col0) (col1 (fun p hp => hb5 p hp dt (by simp)) <| col1 (fun p hp => hb5 p hp dd (by simp)) col0)))
      (fun g k1 k2 _ => trivial) (by decide) (by decide) ?_
    clear N7 F7
    rintro h8 tk8 v ps' ⟨rest, rfl, hread⟩ F8 N8 _ _ _
    replace N8 := newsSub N8 (b := (I, oI) :: (l, ol) :: (dt, ot) :: (dd, od) :: ((121 : Addr), tabObj p1) :: ((107 : Addr), tabObj pt') :: ((c1 ++ c2') ++ rest)) reC
    obtain ⟨a8, rfl⟩ := hread.isRef (h := h8) (fun p hp => (N8 p (tl6 (List.mem_append_right _ hp))).1)
    replace hread : Readable rest (.ref a8) D := hDe ▸ hread
    repeat' ktr_rel
    rename Fr _ _ _ _ => F6
    rename News _ _ _ _ => N6
    obtain ⟨as, hr, hns⟩ := hread _ (fun p hp => (N6 p (tl6 (List.mem_append_right _ hp))).1)
    refine repr_of_reads' hr hD1 (fun _ => hns) rfl (Nat.lt_of_le_of_lt (Nat.add_le_add_left (Nat.succ_le_succ hD3) _) (by dsimp only [Around.deeper]; decide)) (fun _ _ e => e) (fun h7 u7 tk7 k7 => ?_) hD2
    have F7 := Fr.keeps F6 k7
    have N7 := newsSub (News.keepsAll N6 k7) (b := (I, oI) :: (l, ol) :: (dt, ot) :: (dd, od) :: ((121 : Addr), tabObj p1) :: ((107 : Addr), tabObj pt') :: (c1 ++ c2')) reB
    clear F6 N6 hr hns k7 hread
    repeat' k_data
    · rename (D.shown != D.shown) = true => hx
      simp at hx
    rename Fr _ _ _ _ => F6
    refine For_invVF F6 (by rfl) (by rfl) ?_
    repeat' k_data
    rename Fr _ _ _ _ => F6
    rename News _ _ _ _ => N6
    refine kup_newTuple F6 N6 ?_ (by kmk_size)
    clear N6 F6
    intro l2 h4 F4 N4 less
    have lt1 := ltN (less (I, oI) (by k_mem))
    have lt2 := ltN (less (l, ol) (by k_mem))
    have lt3 := ltN (less (dt, ot) (by k_mem))
    have lt4 := ltN (less (dd, od) (by k_mem))
    have lt5 := ltN (less ((121 : Addr), tabObj p1) (by k_mem))
    have lt6 := ltN (less ((107 : Addr), tabObj pt') (by k_mem))
    refine iterTup (news := (I, oI) :: (l, ol) :: (dt, ot) :: (dd, od) :: ((121 : Addr), tabObj p1) :: ((107 : Addr), tabObj pt') :: (c1 ++ c2')) (fun i m nw => LawL [l2, I, dt, dd, 121, 107, l] [(I, oI), (l, ol), (dt, ot), (dd, od)] nw ∧ m "things" = some (.ref dt) ∧ m "deeds" = some (.ref dd) ∧ m "length" = some (.int len tl) ∧ m "is_forward" = some (.bool fwd))
      rfl F4 N4 (List.Mem.head _) (fun p hp => List.mem_cons_of_mem _ hp)
      ⟨⟨p1, pt', c1, c2', rfl, TI1, TI2', (fa1.add ic1).add (fun p hp => Nat.ne_of_lt (less p (tl6 (List.mem_append_left _ hp)))), hb5.add (fun p hp => Nat.ne_of_lt (less p (tl6 (List.mem_append_right _ hp)))), ap5⟩, rfl, rfl, rfl, rfl⟩ ?_ ?_
    · clear F4 N4 less
      rintro j vo m₂ nw hh2 tk I2 oI2 ol2 hv2 ⟨⟨q1, q2, d1, d2, rfl, TJ1, TJ2, fb1, fb2, aq⟩, e1, e2, e3, e4⟩ hoff2 F N
      obtain ⟨op, hop, hopl⟩ := three_ops (by decide) (by decide) hv2
      rw [pin e1] at F
      rw [pin e2] at F
      rw [pin e3] at F
      rw [pin e4] at F
      simp only [List.cons_append, List.nil_append] at N hoff2
      have k1 := neN (hoff2 (I, oI) (by k_mem))
      have k2 := neN (hoff2 (l, ol) (by k_mem))
      have k3 := neN (hoff2 (dt, ot) (by k_mem))
      have k4 := neN (hoff2 (dd, od) (by k_mem))
      have k5 := neN (hoff2 ((121 : Addr), tabObj q1) (by k_mem))
      have k6 := neN (hoff2 ((107 : Addr), tabObj q2) (by k_mem))
      have kc1 : ∀ p ∈ d1, @Ne Nat p.1 I2 := fun p hp => hoff2 p (tl6 (List.mem_append_left _ hp))
      have kc2 : ∀ p ∈ d2, @Ne Nat p.1 I2 := fun p hp => hoff2 p (tl6 (List.mem_append_right _ hp))
      repeat' ktr_rel
      refine Spec.use (folded_spec _ fwd hdt hft lo1 (by omega) TJ1 (fun p hp => ⟨fb1 p hp 121 (by simp), fb1 p hp dt (by simp)⟩) (by omega) len b1 b2 tl hop hopl (fun p hp => (hsm p hp).2) (fun p hp => ⟨(kin p hp).1, by have := kin p hp; omega⟩))
        ((I2, oI2) :: (l2, ol2) :: (I, oI) :: (l, ol) :: (dd, od) :: ((107 : Addr), tabObj q2) :: d2) B F X N T rfl
        (List.forall_mem_cons.mpr ⟨by k_mem, List.forall_mem_cons.mpr ⟨by k_mem, fun p hp => tl8 (List.mem_append_left _ hp)⟩⟩)
        (othA (List.forall_mem_cons.mpr ⟨by k_mem, List.forall_mem_cons.mpr ⟨by k_mem, List.forall_mem_cons.mpr ⟨by k_mem, List.forall_mem_cons.mpr ⟨by k_mem, List.forall_mem_cons.mpr ⟨by k_mem, List.forall_mem_cons.mpr ⟨by k_mem, fun p hp => tl8 (List.mem_append_right _ hp)⟩⟩⟩⟩⟩⟩)
          (.cons (row1 k3.symm (row1 k5.symm fun q hq => (kc1 q hq).symm)) <| .cons (row1 (by omega) (row1 (by omega) (fb1.col (by simp)))) <| .cons (row1 i1.symm (row1 i3.symm (fb1.col (by simp)))) <|
            .cons (row1 (by omega) (row1 (by omega) (fb1.col (by simp)))) <| .cons (row1 (by omega) (row1 (by omega) (fb1.col (by simp)))) <| .cons (row1 (by omega) (row1 (by omega) (fb1.col (by simp)))) <|
            col1 (fun p hp => fb2 p hp dt (by simp)) <| col1 (fun p hp => fb2 p hp 121 (by simp)) aq.symm))
        (fun g k1 k2 _ => ch1.keeps k1) (by decide) (by decide) ?_
      clear N F
      rintro h5 tk5 v ps' ⟨q1', d1', rfl, TJ1', new1, hout⟩ F5 N5 sz5 ge5 lt5'
      have fc := Far.new new1 (fb1.add kc1) (List.forall_mem_cons.mpr ⟨sz5 (I2, oI2) (by k_mem), List.forall_mem_cons.mpr ⟨sz5 (l2, ol2) (by k_mem), List.forall_mem_cons.mpr ⟨sz5 (I, oI) (by k_mem), List.forall_mem_cons.mpr ⟨sz5 (dt, ot) (by k_mem), List.forall_mem_cons.mpr ⟨sz5 (dd, od) (by k_mem),
        List.forall_mem_cons.mpr ⟨sz5 ((121 : Addr), tabObj q1) (by k_mem), List.forall_mem_cons.mpr ⟨sz5 ((107 : Addr), tabObj q2) (by k_mem), List.forall_mem_cons.mpr ⟨sz5 (l, ol) (by k_mem), fun _ h => nomatch h⟩⟩⟩⟩⟩⟩⟩⟩)
      have ap6 := (Apart.new new1 aq.symm (fun p hp => sz5 p (tl8 (List.mem_append_right _ hp)))).symm
      replace N5 := newsSub N5 (b := (I2, oI2) :: (l2, ol2) :: (I, oI) :: (l, ol) :: (dt, ot) :: (dd, od) :: ((121 : Addr), tabObj q1') :: ((107 : Addr), tabObj q2) :: (d1' ++ d2)) reD
      clear sz5 ge5 lt5' new1
      repeat' ktr_rel
      rename Fr _ _ _ _ => F6
      rename News _ _ _ _ => N6
      refine Spec.use (joined_spec _ fwd hdt hft lo1 len b1 b2 tl hop hopl (fun p hp => (hsm p hp).2))
        ((I2, oI2) :: (l2, ol2) :: (I, oI) :: (l, ol) :: (dd, od) :: ((121 : Addr), tabObj q1') :: ((107 : Addr), tabObj q2) :: (d1' ++ d2)) B F6 X N6 T rfl
        (List.forall_mem_cons.mpr ⟨by k_mem, fun _ h => nomatch h⟩)
        (othA (List.forall_mem_cons.mpr ⟨by k_mem, List.forall_mem_cons.mpr ⟨by k_mem, List.forall_mem_cons.mpr ⟨by k_mem, List.forall_mem_cons.mpr ⟨by k_mem, List.forall_mem_cons.mpr ⟨by k_mem, List.forall_mem_cons.mpr ⟨by k_mem, List.forall_mem_cons.mpr ⟨by k_mem, fun p hp => tl8 hp⟩⟩⟩⟩⟩⟩⟩)
          (.cons (row1 k3.symm row0) <| .cons (row1 (by omega) row0) <| .cons (row1 i1.symm row0) <| .cons (row1 (by omega) row0) <| .cons (row1 (by omega) row0) <| .cons (row1 (by omega) row0) <| .cons (row1 (by omega) row0) <|
            .app (col1 (fun p hp => fc p hp dt (by simp)) col0) (col1 (fun p hp => fb2 p hp dt (by simp)) col0)))
        (fun g k1 k2 _ => trivial) (by decide) (by decide) ?_
      clear N6 F6
      rintro h8 tk8 v8 ps8 ⟨rfl, hout8⟩ F8 N8 _ _ _
      replace N8 := newsSub N8 (b := (I2, oI2) :: (l2, ol2) :: (I, oI) :: (l, ol) :: (dt, ot) :: (dd, od) :: ((121 : Addr), tabObj q1') :: ((107 : Addr), tabObj q2) :: (d1' ++ d2)) reE
      have hn' : ∀ p ∈ (I, oI) :: (l, ol) :: (dt, ot) :: (dd, od) :: ((121 : Addr), tabObj q1') :: ((107 : Addr), tabObj q2) :: (d1' ++ d2), p.1 ≠ I2 :=
        List.forall_mem_cons.mpr ⟨k1, List.forall_mem_cons.mpr ⟨k2, List.forall_mem_cons.mpr ⟨k3, List.forall_mem_cons.mpr ⟨k4, List.forall_mem_cons.mpr ⟨k5, List.forall_mem_cons.mpr ⟨k6, fun p hp => (List.mem_append.mp hp).elim (fc.head p) (kc2 p)⟩⟩⟩⟩⟩⟩
      revert hout hout8
      generalize joinGo ct len fwd len.toNat 0 op = out
      intro hout hout8
      cases out with
      | none =>
        cases hout
        cases hout8
        repeat' ktr_rel
        rename Fr _ _ _ _ => F9
        exact ⟨_, _, _, _, rfl, F9, N8, hn', ⟨⟨q1', q2, d1', d2, rfl, TJ1', TJ2, fc.drop, fb2, ap6⟩, rfl, rfl, rfl, rfl⟩⟩
      | some x =>
        obtain ⟨t8, rfl⟩ := hout
        obtain ⟨t9, rfl⟩ := hout8
        repeat' ktr_rel
        · rename (x != x) = true => hx
          simp at hx
        rename Fr _ _ _ _ => F9
        exact ⟨_, _, _, _, rfl, F9, N8, hn', ⟨⟨q1', q2, d1', d2, rfl, TJ1', TJ2, fc.drop, fb2, ap6⟩, rfl, rfl, rfl, rfl⟩⟩
    · clear F4 N4 less
      rintro m₂ nw hh2 tk ⟨⟨q1, q2, d1, d2, rfl, TJ1, TJ2, fb1, fb2, aq⟩, e1, e2, e3, e4⟩ F N
      rw [pin e1] at F
      rw [pin e2] at F
      rw [pin e3] at F
      rw [pin e4] at F
      simp only [List.cons_append, List.nil_append] at N
      repeat' ktr_rel
      exact ⟨_, _, _, _, rfl, F, N, (List.forall_mem_cons.mpr ⟨i1, List.forall_mem_cons.mpr ⟨i2, List.forall_mem_cons.mpr ⟨i3, List.forall_mem_cons.mpr ⟨i4, fun p hp => (List.mem_append.mp hp).elim (fb1.drop.head p) (fb2.drop.head p)⟩⟩⟩⟩),
        ⟨⟨q1, q2, d1, d2, rfl, TJ1, TJ2, fb1.drop.drop, fb2.drop.drop, aq⟩, rfl, rfl, rfl⟩⟩
  · clear F3 N3
    rintro m₁ nw hh tk ⟨⟨q1, q2, d1, d2, rfl, -, -, -, -, -⟩, -, -, e3⟩ F N
    rw [pin e3] at F
    simp only [List.cons_append, List.nil_append] at N
    replace N := newsSub N (b := ((121 : Addr), tabObj q1) :: ((107 : Addr), tabObj q2) :: (d1 ++ d2)) (fun p hp => List.mem_cons_of_mem _ (List.mem_cons_of_mem _ hp))
    repeat' ktr_rel
    rename Fr _ _ _ _ => F6
    refine For_invVF F6 (by rfl) (by rfl) ?_
    repeat' ktr_rel
    rename Fr _ _ _ _ => F3
    rename News _ _ _ _ => N3
    refine iterR (n := ((len + 3) - (0 - len - 2)).toNat) (fun i m nw => nw = ((121 : Addr), tabObj q1) :: ((107 : Addr), tabObj q2) :: (d1 ++ d2) ∧ m "length" = some (.int len tl))
      rfl (by assumption) (small_one (by omega) (by omega) (by omega) (by omega)) (rangeSize_nat _ _) F3 N3 ⟨rfl, rfl⟩ ?_ ?_
    · clear F3 N3
      rintro i ti m₂ nw h9 tk9 I oI hi ⟨rfl, e4⟩ hoff F N
      rw [pin e4] at F
      generalize hx : 0 - len - 2 + (i : Int) = x at F
      have x0 : 0 - len - 2 ≤ x := by omega
      have x1 : x < len + 3 := by omega
      clear hx
      repeat' ktr_rel
      all_goals first
        | (rename Fr _ _ _ _ => F6; rename News _ _ _ _ => N6
           exact ⟨_, _, _, ((121 : Addr), tabObj q1) :: ((107 : Addr), tabObj q2) :: (d1 ++ d2), rfl, F6, newsSub N6 (fun p hp => List.mem_cons_of_mem _ (List.mem_cons_of_mem _ hp)), hoff, rfl, rfl⟩)
        | (exfalso; omega)
        | (exfalso; rename (_ && _) = false => hx; simp only [Bool.and_eq_false_iff, beq_eq_false_iff_ne] at hx; omega)
    · clear F3 N3
      rintro m₂ nw h9 tk9 ⟨rfl, e4⟩ F N
      repeat' ktr_rel
      rename Fr _ _ _ _ => F6
      rename News _ _ _ _ => N6
      refine Spec.use (least_spec _ (vs := []) (ns := []) .nil 0 9 _ _) _ B F6 X N6 T rfl (fun _ h => nomatch h) (fun p hp => ⟨hp, fun h => nomatch h⟩) (fun g k1 k2 k3 => ⟨_, k3 _ _ (N6 _ (List.Mem.head _)).1 (fun h => nomatch h), rfl, _, rfl⟩) (by decide) (by decide) ?_
      clear N6 F6
      rintro g1 tg1 va ps1 ⟨rfl, ha⟩ G1 M1 _ _ _
      simp only [List.nil_append] at M1
      cases (show va = Value.none from ha)
      repeat' ktr_rel
      rename Fr _ _ _ _ => F6
      rename News _ _ _ _ => N6
      refine Spec.use (great_spec _ (vs := []) (ns := []) .nil 9 _) _ B F6 X N6 T rfl (fun _ h => nomatch h) (fun p hp => ⟨hp, fun h => nomatch h⟩) (fun g k1 k2 k3 => ⟨_, k3 _ _ (N6 _ (List.Mem.head _)).1 (fun h => nomatch h), rfl, _, rfl⟩) (by decide) (by decide) ?_
      clear N6 F6
      rintro g2 tg2 v2 ps2 ⟨rfl, ha2⟩ G2 M2 _ _ _
      simp only [List.nil_append] at M2
      cases (show v2 = Value.none from ha2)
      repeat' ktr_rel
      rename Fr _ _ _ _ => F6
      rename News _ _ _ _ => N6
      refine Spec.use (least_spec _ (ns := [5, 3, 9]) (.cons 5 _ (.cons 3 _ (.cons 9 _ .nil))) 4 9 _ _) _ B F6 X N6 T rfl (fun _ h => nomatch h) (fun p hp => ⟨hp, fun h => nomatch h⟩) (fun g k1 k2 k3 => ⟨_, k3 _ _ (N6 _ (List.Mem.head _)).1 (fun h => nomatch h), rfl, _, rfl⟩) (by decide) (by decide) ?_
      clear N6 F6
      rintro g3 tg3 v3 ps3 ⟨rfl, ha3⟩ G3 M3 _ _ _
      simp only [List.nil_append] at M3
      obtain ⟨t3, rfl⟩ : ∃ t, v3 = .int 5 t := by rw [show leastF [5, 3, 9] 4 9 = some 5 by decide] at ha3; exact ha3
      repeat' ktr_rel
      rename Fr _ _ _ _ => F6
      rename News _ _ _ _ => N6
      refine Spec.use (great_spec _ (ns := [5, 3, 9]) (.cons 5 _ (.cons 3 _ (.cons 9 _ .nil))) 8 _) _ B F6 X N6 T rfl (fun _ h => nomatch h) (fun p hp => ⟨hp, fun h => nomatch h⟩) (fun g k1 k2 k3 => ⟨_, k3 _ _ (N6 _ (List.Mem.head _)).1 (fun h => nomatch h), rfl, _, rfl⟩) (by decide) (by decide) ?_
      clear N6 F6
      rintro g4 tg4 v4 ps4 ⟨rfl, ha4⟩ G4 M4 _ _ _
      simp only [List.nil_append] at M4
      obtain ⟨t4, rfl⟩ : ∃ t, v4 = .int 5 t := by rw [show greatF [5, 3, 9] 8 = some 5 by decide] at ha4; exact ha4
      repeat' ktr_rel
      done)
end
end Mine
end

theorem PySem.Challenge.cw_nt0339_01_holds : PySem.Challenge.rw_nt0339_01.Holds :=
  Mine.whole
