import PyProof.Rows.All
import Wide.All
import OpenK.AllK
import Wide.FinOn
import PySem.Challenge.RW_rh0158_01
set_option Elab.async false
set_option rowWalk.seconds 0
set_option compiler.extract_closed false
namespace Mine
open PySem PySem.W PyProof.Rows PySem.Calls PySem.Spec
theorem ltVia {a b x : Nat} {Q : Prop} (h : x < b ∧ Q) (k : x < b ∧ Q → a < b) : @Ne Nat a b := Nat.ne_of_lt (k h)
theorem gtVia {a b x : Nat} {Q : Prop} (h : x < b ∧ Q) (k : x < b ∧ Q → a < b) : @Ne Nat b a := Nat.ne_of_gt (k h)
theorem neVia {a b x : Nat} {Q : Prop} (h : @Ne Nat x b ∧ Q) (k : @Ne Nat x b ∧ Q → @Ne Nat a b) : @Ne Nat a b := k h
theorem enVia {a b x : Nat} {Q : Prop} (h : @Ne Nat x b ∧ Q) (k : @Ne Nat x b ∧ Q → @Ne Nat a b) : @Ne Nat b a := Ne.symm (k h)
theorem nnVia {a b x y : Nat} {P Q : Prop} (h : (@Ne Nat x y ∧ P) ∧ Q) (k : (@Ne Nat x y ∧ P) ∧ Q → @Ne Nat a b) : @Ne Nat a b := k h
theorem mmVia {a b x y : Nat} {P Q : Prop} (h : (@Ne Nat x y ∧ P) ∧ Q) (k : (@Ne Nat x y ∧ P) ∧ Q → @Ne Nat a b) : @Ne Nat b a := Ne.symm (k h)
local macro_rules | `(tactic| k_ne) => `(tactic| (refine neN ?_; (try dsimp only); first | with_reducible first | assumption | (refine Ne.symm ?_; assumption) | exact Nat.ne_of_lt (by assumption) | exact Nat.ne_of_gt (by assumption) | (refine ltVia (by assumption) ?_; intro hh; simp only [hh]; done) | (refine gtVia (by assumption) ?_; intro hh; simp only [hh]; done) | (refine neVia (by assumption) ?_; intro hh; simp only [hh, ne_eq, not_false_eq_true]; done) | (refine enVia (by assumption) ?_; intro hh; simp only [hh, ne_eq, not_false_eq_true]; done) | (refine nnVia (by assumption) ?_; intro hh; simp only [hh, ne_eq, not_false_eq_true]; done) | (refine mmVia (by assumption) ?_; intro hh; simp only [hh, ne_eq, not_false_eq_true]; done) | omega))
section
open PySem PySem.W PyProof.Rows
set_option maxRecDepth 100000
set_option maxRecDepth 100000 in
set_option maxHeartbeats 8000000 in
open_top hd for PySem.Challenge.rw_rh0158_01
end
section
open PySem PySem.W PyProof.Rows PySem.Calls PySem.Spec
set_option maxRecDepth 100000
def Stop (P : Prop) : Prop := P
theorem stop {P : Prop} (h : Stop P) : P := h
abbrev aTop (hdl : Option Value) (dp un : Nat) (gd : Option (List Code)) (cn : Str) (cs : Scope) (L a : Addr) (ccd : Value) (cl : List (Str × Addr)) (outer : List Env) : Around := { handled := hdl, depth := dp, frames := some (envX cn cs L a ccd cl :: outer), guards := gd, units := un }
def LeaveF (R : Result → Shared → Prop) (v : Value) (s' : Shared) : Prop := R (.ok (.ret v)) s'
theorem frBack {h₀ g h : Heap} {L L' : Addr} {m m' : Str → Option Value} (F : Fr h₀ L g m) (F' : Fr g L' h m') : Fr h₀ L h m := by
  obtain ⟨oL, es, ep, hL, hLd, hLk, hLf⟩ := F.ns
  exact ⟨⟨oL, es, ep, F'.keep L oL hL, hLd, hLk, hLf⟩, fun b o e => F'.keep b o (F.keep b o e), F.above⟩
section
variable {prog : Program} {w : World} {A₀ A : Around} {s : Shared} {base h₀ : Heap} {outer : List Env} {L : Addr} {m mg mb : Str → Option Value} {env : Env} {news : List (Addr × Obj)} {K : Frag} {p : Program} {loose : List Str} {mean : ExcName → Option Value}
  {R : Result → Shared → Prop} {name qual : Str} {params : Arguments} {body : List Stmt} {scope : Scope} {cl : List (Str × Addr)} {dV kV doc pm cdv ct : Value} {an : Option Addr} {fo : Obj} {f : Addr} {args : Args} {binds : List (Str × Value)}

/-- a call into a plain frame: the ledger is the callee's own choice; all else stands in g -/
theorem callF (B : Below A₀ base outer h₀) (F : Fr h₀ L s.heap m) (X₀ : K.In h₀) (N : News h₀ L s.heap news) (T : Top p loose mean mg mb h₀) (hA : A.frames = some (env :: outer)) (hf : env.frame = some L) (hke : env.scope.kind = .function)
    (ho : s.heap.get? f = some fo) (hd : fo.data = .func (fnX name qual params body scope cl dV kV doc pm an cdv ct)) (hcd : s.heap.CodeRec cdv qual) (hroom : A.depth < recursionLimit)
    (hbind : BindsTo s (fnX name qual params body scope cl dV kV doc pm an cdv ct) args binds) (hloc : ∀ y ∈ binds, scope.names.lookup y.1 = some .local)
    (h : ∀ g L' h₁, Fr h₀ L g m → Fr g L' h₁ (fun y => binds.reverse.lookup y) → News g L' h₁ news → Below A base (env :: outer) g → K.In g → Top p loose mean mg mb g →
      (∀ b o, s.heap.get? b = some o → b ∉ news.map (·.1) → g.get? b = some o) → (∀ b o, g.get? b = some o → s.heap.get? b = some o) → (∀ p ∈ news, p.1 < L') →
      wpAny (model prog w) (A.deeper (envX qual scope L' f cdv cl)) (execs body (envX qual scope L' f cdv cl))
        (fun fl s' => LeaveF R (match fl with | .ret v => v | _ => .none) s')
        (fun e s' => wpAny (model prog w) (A.deeper (envX qual scope L' f cdv cl)) (leaving (envX qual scope L' f cdv cl) e) (fun _ s'' => R (.error e) s'') (fun e' s'' => R (.error e') s'') s')
        { s with heap := h₁, toks := s.toks + binds.length })
    (hcell : ∀ x ∈ scope.names, x.2 ≠ .cell) (hco : scope.isCoroutine = false := by rfl) (hgen : scope.isGenerator = false := by rfl) (hk : scope.kind = .function := by rfl) : codeAny (model prog w) A (.call (.ref f) args) R s := by
  obtain ⟨FG, BG, st, lv⟩ := groundX (R := R) B F N hA hf hke
  refine codeAny_call_def (fd := fnX name qual params body scope cl dV kV doc pm an cdv ct) (body := body) (binds := binds) hroom ho hd (T.nolimit.keeps F.keep) hcd rfl hbind hcell hloc (fun h₁ hns hk₁ => ?_) hco hgen hk
  exact wpAny_mono (h _ s.heap.objs.size h₁ FG ⟨hns, fun b o e => hk₁ b o (of_hideAll _ e), Nat.le_of_eq (hideAll_size _ _)⟩
    (fun p hp => ⟨hk₁ _ _ (N p hp).1, Nat.ne_of_lt (Heap.lt_size (N p hp).1), hideAll_none _ (List.mem_map_of_mem hp)⟩) BG (X₀.keeps st) (T.keeps st) (fun b o e q => hideAll_get _ e q) (fun b o e => of_hideAll _ e) (fun p hp => Heap.lt_size (N p hp).1)) (fun fl s' hl => hl) fun _ _ y => y
end
section
variable {prog : Program} {w : World} {A₀ A : Around} {s : Shared} {base h₀ : Heap} {outer : List Env} {L : Addr} {m mg mb : Str → Option Value} {env : Env} {news : List (Addr × Obj)} {K : Frag} {p : Program} {loose : List Str} {mean : ExcName → Option Value}
  {R : Result → Shared → Prop} {name qual : Str} {params : Arguments} {body : List Stmt} {scope : Scope} {dV kV doc pm cdv ct : Value} {an : Option Addr} {fo : Obj} {f : Addr} {args : Args} {binds : List (Str × Value)}
/-- the same for a def some of whose names are cells -/
theorem callFC (B : Below A₀ base outer h₀) (F : Fr h₀ L s.heap m) (X₀ : K.In h₀) (N : News h₀ L s.heap news) (T : Top p loose mean mg mb h₀) (hA : A.frames = some (env :: outer)) (hf : env.frame = some L) (hke : env.scope.kind = .function)
    (ho : s.heap.get? f = some fo) (hd : fo.data = .func (fnX name qual params body scope [] dV kV doc pm an cdv ct)) (hcd : s.heap.CodeRec cdv qual) (hroom : A.depth < recursionLimit)
    (hbind : BindsTo s (fnX name qual params body scope [] dV kV doc pm an cdv ct) args binds) (hkind : (binds.all fun y => scope.names.lookup y.1 == some .local || scope.names.lookup y.1 == some .cell) = true)
    (hnd : ((cellsFrom 0 scope.names []).map (·.1)).Nodup)
    (h : ∀ g L' h₁ tk cells, Fr h₀ L g m → Fr g L' h₁ (bindL (envOfC qual scope L' f cdv).kindOf binds fun _ => none) → News g L' h₁ (cells ++ news) →
      CellsAre (bindC (envOfC qual scope L' f cdv).kindOf binds fun _ => none) (cellsFrom (L' + 1) scope.names []) cells → Below A base (env :: outer) g → K.In g → Top p loose mean mg mb g →
      (∀ b o, s.heap.get? b = some o → b ∉ news.map (·.1) → g.get? b = some o) → (∀ b o, g.get? b = some o → s.heap.get? b = some o) → (∀ p ∈ news, p.1 < L') →
      wpAny (model prog w) (A.deeper (envOfC qual scope L' f cdv)) (execs body (envOfC qual scope L' f cdv))
        (fun fl s' => LeaveF R (match fl with | .ret v => v | _ => .none) s')
        (fun e s' => wpAny (model prog w) (A.deeper (envOfC qual scope L' f cdv)) (leaving (envOfC qual scope L' f cdv) e) (fun _ s'' => R (.error e) s'') (fun e' s'' => R (.error e') s'') s')
        { s with heap := h₁, toks := tk })
    (hco : scope.isCoroutine = false := by rfl) (hgen : scope.isGenerator = false := by rfl) (hk : scope.kind = .function := by rfl) : codeAny (model prog w) A (.call (.ref f) args) R s := by
  obtain ⟨FG, BG, st, lv⟩ := groundX (R := R) B F N hA hf hke
  refine codeAny_call_function hroom ho hd hco hgen rfl hcd (hbind _ _ _ _ ?_)
  refine wpAny_newFunctionEnv_cells hk (kindsX hkind _) fun env' he s' x => ?_
  subst he
  refine ⟨(T.nolimit.keeps F.keep).keeps x.toInCall.keep, codeAny_func ?_⟩
  obtain ⟨h₁, tk, rfl, _⟩ := x.done
  have hk₁ := x.toInCall.keep
  obtain ⟨cells, NC, Y⟩ := Cl.news (h₀ := s.heap) (Nat.le_refl _) fun n c hm => ⟨x.cell n c (lookup_of_mem_nodup (cellsFrom_names scope.names 0 (s.heap.objs.size + 1) [] [] rfl ▸ hnd) hm), x.above n c hm⟩
  refine wpAny_mono (h _ s.heap.objs.size h₁ tk cells FG ⟨x.toInCall.ns, fun b o e => hk₁ b o (of_hideAll _ e), Nat.le_of_eq (hideAll_size _ _)⟩ (fun p hp => ?_) Y BG (X₀.keeps st) (T.keeps st) (fun b o e q => hideAll_get _ e q) (fun b o e => of_hideAll _ e) (fun p hp => Heap.lt_size (N p hp).1)) (fun fl s' hl => hl) fun _ _ y => y
  rcases List.mem_append.mp hp with hp | hp
  · refine ⟨(NC p hp).1, (NC p hp).2.1, ?_⟩
    cases q : (hideAll s.heap (news.map (·.1))).get? p.1 with
    | none => rfl
    | some o => have := of_hideAll _ q; rw [(NC p hp).2.2] at this; cases this
  · exact ⟨hk₁ _ _ (N p hp).1, Nat.ne_of_lt (Heap.lt_size (N p hp).1), hideAll_none _ (List.mem_map_of_mem hp)⟩
end
theorem freshOf {h g : Heap} {l : List Addr} {b : Addr} (k : ∀ b o, h.get? b = some o → b ∉ l → g.get? b = some o) (e : g.get? b = none) (n : b ∉ l) : h.get? b = none := by
  cases z : h.get? b with
  | none => rfl
  | some o => rw [k b o z n] at e; cases e
theorem freshSub {h g : Heap} {b : Addr} (k : ∀ b o, h.get? b = some o → g.get? b = some o) (e : g.get? b = none) : h.get? b = none := by
  cases z : h.get? b with
  | none => rfl
  | some o => rw [k b o z] at e; cases e
section
variable {h₀ h h' : Heap} {L b : Addr} {m : Str → Option Value} {news : List (Addr × Obj)} {o : Obj}
theorem newsKeep (N : News h₀ L h news) (k : ∀ b o, h.get? b = some o → h'.get? b = some o) : News h₀ L h' news := fun p hp => ⟨k _ _ (N p hp).1, (N p hp).2⟩
theorem newsNe (N : News h₀ L h news) (e : h.get? b = none) : ∀ p ∈ news, p.1 ≠ b := fun p hp q => by
  have := (N p hp).1
  rw [q, e] at this; cases this
noncomputable def AllNe (d : Nat) : List (Addr × Obj) → Prop
  | [] => True
  | p :: r => @Ne Nat p.1 d ∧ AllNe d r
theorem allNe_of {d : Addr} : ∀ {l : List (Addr × Obj)}, (∀ p ∈ l, p.1 ≠ d) → AllNe d l
  | [], _ => trivial
  | p :: _, h => ⟨h p (.head _), allNe_of fun q hq => h q (.tail _ hq)⟩
theorem newsAdd (N : News h₀ L h' news) (F : Fr h₀ L h m) (e : h.get? b = none) (ho : h'.get? b = some o) : News h₀ L h' ((b, o) :: news) := fun p hp => by
  rcases List.mem_cons.mp hp with rfl | hp
  · refine ⟨ho, fun q => ?_, ?_⟩
    · obtain ⟨oL, _, _, hL, _⟩ := F.ns
      have : h.get? L = none := q ▸ e
      rw [hL] at this; cases this
    · cases q : h₀.get? b with
      | none => rfl
      | some o' => rw [F.keep _ _ q] at e; cases e
  · exact N p hp
theorem newsTurn {news' : List (Addr × Obj)} {a : Addr} {o' : Obj} (N : News h₀ L h news) (k : ∀ b o, b ≠ a → h.get? b = some o → h'.get? b = some o) (ho : h'.get? a = some o') (U : Upd a o o' news news') : News h₀ L h' news' := by
  obtain ⟨pre, post, rfl, rfl, h1, h2⟩ := U.split
  intro p hp
  rcases List.mem_append.mp hp with q | q
  · have n := N p (List.mem_append_left _ q)
    exact ⟨k _ _ (h1 p q) n.1, n.2⟩
  · rcases List.mem_cons.mp q with rfl | q
    · exact ⟨ho, (N (a, o) (by simp)).2⟩
    · have n := N p (List.mem_append_right _ (.tail _ q))
      exact ⟨k _ _ (h2 p q) n.1, n.2⟩
end
theorem newsApart {h₀ h : Heap} {L a b : Addr} {news : List (Addr × Obj)} {o o' : Obj} (N : News h₀ L h news) (ha : (a, o) ∈ news) (hb : (b, o') ∈ news) (hne : o.data ≠ o'.data ∨ o.cls ≠ o'.cls) : a ≠ b := fun q => by
  have z := (N _ ha).1
  dsimp only at z
  rw [q, (N _ hb).1] at z
  obtain rfl := Option.some.inj z
  exact hne.elim (fun f => f rfl) fun f => f rfl
theorem codeK {K : Frag} {h₀ h : Heap} (X : K.In h₀) (k : ∀ b o, h₀.get? b = some o → h.get? b = some o) {cd : Value} {q : Str} (e : codeIn K cd q = true) : h.CodeRec cd q := codeRec_of (X.keeps k) e
theorem getK {K : Frag} {h₀ h : Heap} (X : K.In h₀) (k : ∀ b o, h₀.get? b = some o → h.get? b = some o) {f : Addr} {o : Obj} (e : K.lookup f = some o) : h.get? f = some o := (X.keeps k) _ _ e
end
section
open PySem PySem.W PyProof.Rows PySem.Calls PySem.Spec
set_option maxRecDepth 100000
set_option maxRecDepth 100000 in
set_option maxHeartbeats 8000000 in
theorem next_spec {w : World} {pt : Program} {lo : List Str} {mean : ExcName → Option Value} {mg mb : Str → Option Value} {hdl : Option Value} {dp un : Nat} {gd : Option (List Code)} {cn : Str} {cs : Scope} {L a : Addr} {ccd : Value} {cl : List (Str × Addr)} {outer : List Env} {A₀ : Around} {base h₀ : Heap} {m : Str → Option Value} {s : Shared} {Q E : Value → Shared → Prop}
   {r l : Addr} {vs : List Value} {ns : List Int} {n many : Int} {tn tm : Tok} {c : Nat}
   (B : Below A₀ base outer h₀) (F : Fr h₀ L s.heap m) (X : (hd.heap_39 w.params).In h₀) (T : Top pt lo mean mg mb h₀) (hk : cs.kind = .function)
   (hr : s.heap.get? r = some (listOf #[.ref l, .int n tn] c)) (hrL : r ≠ L) (hr0 : h₀.get? r = none) (hl : s.heap.IsList l vs.toArray) (hrl : r ≠ l)
   (hi : IntsAre vs ns) (hlen : ns.length ≤ 30) (hn : 0 ≤ n) (hn' : n ≤ 1000) (hm : 0 < many) (hm' : many ≤ 10) (hd : dp + 10 < recursionLimit) (hu : un + 20 < cLine)
   (ret : ∀ d t tn' h' tk', 0 ≤ d → d < many → Fr h₀ L h' m → (∀ b o, b ≠ r → s.heap.get? b = some o → h'.get? b = some o) → h'.get? r = some (listOf #[.ref l, .int (n+1) tn'] c) → Q (.int d t) { s with heap := h', toks := tk' }) :
   wpAny (model PySem.Challenge.rw_rh0158_01.row.prog w) (aTop hdl dp un gd cn cs L a ccd cl outer) (call (.ref 132) [.ref r, .int many tm]) Q E s := by
  w_top off; revert X; k_fill; intro X
  have N : News h₀ L s.heap [(r, listOf #[.ref l, .int n tn] c)] := by
    intro p hp; rw [List.mem_singleton.mp hp]; exact ⟨hr, hrL, hr0⟩
  refine wpAny_call ?_
  k_dflt (refine' callF B F X N T rfl rfl hk (getK X F.keep (by k_is)) rfl (codeK X F.keep (by k_is)) ?k8 ?k9 ?kB ?_ ?c5; (case k8 => ktr_room); (case k9 => exact BindsTo.of_eq rfl); (case c5 => decide); (case kB => exact locs rfl); intro g' L' h' FG' F' N' B' X' T' hkeep hback hlt; (try dsimp only); (try k_fold))
  have hlg : g'.IsList l vs.toArray := by
    obtain ⟨o, ho, hx⟩ := hl
    exact ⟨o, hkeep l o ho (by simpa using Ne.symm hrl), hx⟩
  k_steps
  all_goals (
    rename Fr g' _ _ _ => FE
    rename News g' _ _ _ => NE
    exact ret _ _ _ _ _ (Int.fmod_nonneg_of_pos _ hm) (Int.fmod_lt_of_pos _ hm) (frBack FG' FE) (fun b o hb e => FE.keep b o (hkeep b o e (by simpa using hb))) (NE _ (.head _)).1)
end
section
open PySem PySem.W PyProof.Rows PySem.Calls PySem.Spec
set_option maxRecDepth 100000
section
variable {prog : Program} {w : World} {A : Around} {E : Value → Shared → Prop} {s : Shared} {K : Frag} {x C : Addr} {ox : Obj} {od : Option Obj} {name : Str} {expr : Bool} {Q : Value → Shared → Prop}

theorem bexc_sub (X : K.In s.heap) (I : InstAt s.heap x ox C od) (hm : mroIn K C (.type "BaseException") = some true) : Looks (model prog w) s.heap (isInstance (.ref x) (.type "BaseException")) true :=
  I.type.andThen (looks_mroIn X hm)

theorem get_exc {v : Value} (X : K.In s.heap) (I : InstAt s.heap x ox C od) (hga : findIn K (.ref C) "__getattribute__" = some (some (.builtin "BaseException.__getattribute__")))
    (hgt : findIn K (.ref C) "__getattr__" = some none) (hm : mroIn K C (.type "BaseException") = some true)
    (hf : findObj K C od name = some (.value v)) (hh : handedIn v = true) (h : Q v { s with toks := s.toks + 1 }) : wpAny (model prog w) A (getAttr (.ref x) name expr) Q E s := by
  have hsub := bexc_sub (prog := prog) (w := w) X I hm
  obtain ⟨hp, g, d, t, os⟩ := s
  have L0 := I.type (M := model prog w)
  have L1 := looks_findIn (M := model prog w) X hga
  have L2 := looks_findIn (M := model prog w) X hgt
  have L3 := looks_find (M := model prog w) X I hf
  have FX := PySem.F.excAttr_ValueError
  unfold getAttr getAttrBy
  refine wpAny_bind (wpAny_mkText (wpAny_holding (wpAny_bind (L0.at (wpAny_bind (L1.at ?_))))))
  show wpAny _ _ (getAttrByItsOwn _ _ _ _ _ _) _ _ _
  unfold getAttrByItsOwn
  refine wpAny_bind ?_
  show wpAny _ _ (typeLookup (.ref C) "__getattr__") _ _ _
  refine L2.at ?_
  refine wpAny_bind (wpAny_attempt (wpAny_holding ?_))
  have e0 : callGetattribute (.ref x) (.str name t) (.builtin "BaseException.__getattribute__") expr = boundAndCalled (.builtin "BaseException.__getattribute__") (.ref x) (.str name t) := by
    unfold callGetattribute
    cases expr <;> rfl
  rw [e0]
  unfold boundAndCalled
  rw [FX.ga.bind]
  refine wpAny_bind (wpAny_pure (wpAny_call ?_))
  refine codeAny_call_builtin FX.ga.plain PySem.F.entry_bexc_ga (check_slot (i := "BaseException.__getattribute__") (owner := "BaseException") (n := "__getattribute__") (by decide +kernel) (by decide +kernel) hsub (PySem.F.args_bexc_ga _ _) ?_)
  refine wpAny_bind (wpAny_pure (wpAny_bind (wpAny_pure (wpAny_bind (L0.at (wpAny_bind (L3.at ?_)))))))
  refine wpAny_pure ?_
  show wpAny _ _ (handedOut v) _ _ _
  rw [handedOut_of hh]; exact wpAny_pure h
end
theorem instE {h₀ h : Heap} {L x C dx : Addr} {news : List (Addr × Obj)} {od : Obj} {fs : Array Value} {sl : Array (Option Value)} (N : News h₀ L h news) (h1 : (x, (⟨.ref C, some dx, .fields fs, sl⟩ : Obj)) ∈ news) (h2 : (dx, od) ∈ news) :
    InstAt h x ⟨.ref C, some dx, .fields fs, sl⟩ C (some od) := ⟨(N _ h1).1, rfl, rfl, (N _ h2).1⟩
section
variable {prog : Program} {w : World} {A : Around} {s : Shared} {K : Frag} {x C L : Addr} {h₀ : Heap} {m : Str → Option Value} {ox : Obj} {od : Option Obj} {name : Str} {v : Value} {tk : Tok} {R : Result → Shared → Prop} {cd : ClassData}

theorem osaE (X : K.In s.heap) (I : InstAt s.heap x ox C od) (hc : clsIn K C = some cd) (hne : cd.mro.isEmpty = false) (hob : cd.mro.contains (.type "object") = true)
    (hpass : refuseLoop (.ref x) "__setattr__" cd.mro = pure ()) (ht : takerIn K C name = some none)
    (h : ∀ b, wpAny (model prog w) A.in1 (Builtin.ObjectAttr.storeInOwnDict (.ref x) (.ref C) (.str name tk) name v b)
      (fun fin s' => match fin with | .done f => R (.ok f) s' | .again c' => c'.quiet = true ∧ codeAny (model prog w) A c' R s') (fun e s' => R (.error e) s') s) :
    codeAny (model prog w) A (.call (.builtin "object.__setattr__") ⟨[.ref x, .str name tk, v], []⟩) R s := by
  have SF := PySem.F.store_object
  have sub : Looks (model prog w) s.heap (isInstance (.ref x) (.type "object")) true := I.type.andThen (looks_mroIn X (by unfold mroIn; rw [hc, Option.bind_some, if_neg (by rw [hne]; decide), hob]))
  refine codeAny_call_builtin SF.slot.plain SF.entry (@check_slot (model prog w) _ _ s "object.__setattr__" "object" "__setattr__" (.ref x) [.str name tk, v] [] _ SF.kind SF.split sub (SF.args (.ref x) (.str name tk) v) ?_)
  obtain ⟨attr, ha, hr⟩ := Option.bind_eq_some_iff.mp ht
  have hm : Looks (model prog w) s.heap (mroOf (.ref C)) cd.mro := (looks_clsIn X hc).andThen .now
  have L3 : Looks (model prog w) s.heap (Builtin.ObjectAttr.storeTaker? attr) none := by
    cases attr with
    | none => exact .now
    | some a =>
      obtain ⟨b, hb, hb'⟩ := Option.map_eq_some_iff.mp hr
      refine (looks_takesIn X hb).andThen ?_
      cases b
      · exact .now
      · cases hb'
  rw [osa_eq, refuse_eq]
  refine wpAny_bind (wpAny_bind (I.type.here (wpAny_bind (hm.here ?_))))
  rw [hpass]
  refine wpAny_pure (wpAny_bind (I.type.here (wpAny_bind ((looks_findIn X ha).here (wpAny_bind (L3.here ?_))))))
  exact h _
end
section
variable {prog : Program} {w : World} {A : Around} {E : Value → Shared → Prop} {s : Shared} {K : Frag} {x C dx L : Addr} {h₀ : Heap} {m : Str → Option Value} {news news' : List (Addr × Obj)} {name : Str} {v : Value} {tk : Tok} {cd : ClassData} {fs : Array Value} {sl : Array (Option Value)} {es es' : List DictEntry} {n n' : Nat}

/-- the first store into an exception of an own class: its dict is made -/
theorem osa_exc0 {R : Result → Shared → Prop} (F : Fr h₀ L s.heap m) (X : K.In s.heap) (N : News h₀ L s.heap news) (hx : s.heap.get? x = some ⟨.ref C, none, .fields fs, sl⟩)
    (hc : clsIn K C = some cd) (hne : cd.mro.isEmpty = false) (hob : cd.mro.contains (.type "object") = true) (hh : cd.hasDict = true)
    (hpass : refuseLoop (.ref x) "__setattr__" cd.mro = pure ()) (ht : takerIn K C name = some none)
    (U : Upd x ⟨.ref C, none, .fields fs, sl⟩ ⟨.ref C, some s.heap.objs.size, .fields fs, sl⟩ news news')
    (h : ∀ h', Fr h₀ L h' m → News h₀ L h' ((s.heap.objs.size, dictOf [⟨PyData.keyHash w.params name, .str name s.toks, v⟩] 1) :: news') → (∀ p ∈ news, p.1 < s.heap.objs.size) → R (.ok (.ret .none)) { s with heap := h', toks := s.toks + 1 }) :
    codeAny (model prog w) A (.call (.builtin "object.__setattr__") ⟨[.ref x, .str name tk, v], []⟩) R s := by
  have I : InstAt s.heap x ⟨.ref C, none, .fields fs, sl⟩ C none := ⟨hx, rfl, rfl, trivial⟩
  refine osaE X I hc hne hob hpass ht fun b => ?_
  refine wpAny_bind (wpAny_pure (wpAny_bind (wpAny_bind (wpAny_loadPart hx (wpAny_bind ((looks_clsIn X hc).here ?_))))))
  rw [hh]
  obtain ⟨pre, post, rfl, rfl, h1, h2⟩ := U.split
  have hlt : ∀ p ∈ pre ++ (x, (⟨.ref C, none, .fields fs, sl⟩ : Obj)) :: post, p.1 < s.heap.objs.size := fun p hp => Heap.lt_size (N p hp).1
  have xlt : x < s.heap.objs.size := Heap.lt_size hx
  have F1 := F.push (dictOf [] 0)
  have N1 := N.push F (dictOf [] 0)
  obtain ⟨F2, N2⟩ := news_upd (d := x) (pre := (s.heap.objs.size, dictOf [] 0) :: pre) (post := post) (f := fun o => { o with dict := some s.heap.objs.size }) (o' := ⟨.ref C, some s.heap.objs.size, .fields fs, sl⟩) F1 N1
    (fun p hp => by
      rcases List.mem_cons.mp hp with rfl | hp
      · exact Nat.ne_of_gt xlt
      · exact h1 p hp) h2 rfl rfl
  have eP : Obj.putName name (PyData.keyHash w.params name) (.str name s.toks) v (dictOf [] 0) = dictOf [⟨PyData.keyHash w.params name, .str name s.toks, v⟩] 1 := by
    rw [putName_dict]; rfl
  obtain ⟨F3, N3⟩ := news_upd (d := s.heap.objs.size) (pre := []) (post := pre ++ (x, ⟨.ref C, some s.heap.objs.size, .fields fs, sl⟩) :: post) (f := Obj.putName name (PyData.keyHash w.params name) (.str name s.toks) v) F2 N2
    (fun p hp => nomatch hp) (fun p hp => by
      rcases List.mem_append.mp hp with q | q
      · exact Nat.ne_of_lt (hlt p (List.mem_append_left _ q))
      · rcases List.mem_cons.mp q with rfl | q
        · exact Nat.ne_of_lt xlt
        · exact Nat.ne_of_lt (hlt p (List.mem_append_right _ (.tail _ q)))) eP rfl
  have D2 := (N2 (s.heap.objs.size, dictOf [] 0) (.head _)).1
  have D3 := (N3 (s.heap.objs.size, _) (.head _)).1
  refine wpAny_bind (wpAny_alloc ?_)
  refine wpAny_bind (wpAny_update (Heap.get?_push_of_some _ hx) ?_)
  refine wpAny_pure (wpAny_bind (wpAny_pure (wpAny_bind ?_)))
  unfold nsSet
  refine wpAny_bind (wpAny_bind (wpAny_askSetting (wpAny_pure (wpAny_bind (wpAny_mkText (wpAny_bind (wpAny_loadPart D2 ?_)))))))
  refine wpAny_updatePart D2 ?_
  refine wpAny_bind (wpAny_lookBehind D3 (by exact pastItsLine_dict (by simp only [List.size_toArray, List.length_cons, List.length_nil]; rw [sizeLine_eq]; omega)) ?_)
  exact wpAny_pure (h _ F3 N3 hlt)

theorem set_exc0 {nw : Addr → List (Addr × Obj)} {Q : Unit → Shared → Prop} (F : Fr h₀ L s.heap m) (X₀ : K.In h₀) (N : News h₀ L s.heap news) (hx : s.heap.get? x = some ⟨.ref C, none, .fields fs, sl⟩)
    (hs : findIn K (.ref C) "__setattr__" = some (some (.builtin "object.__setattr__"))) (hc : clsIn K C = some cd) (hne : cd.mro.isEmpty = false) (hob : cd.mro.contains (.type "object") = true) (hh : cd.hasDict = true)
    (hpass : refuseLoop (.ref x) "__setattr__" cd.mro = pure ()) (ht : takerIn K C name = some none)
    (U : ∀ d, Upd x ⟨.ref C, none, .fields fs, sl⟩ ⟨.ref C, some d, .fields fs, sl⟩ news (nw d))
    (h : ∀ d h', Fr h₀ L h' m → News h₀ L h' ((d, dictOf [⟨PyData.keyHash w.params name, .str name (s.toks + 1), v⟩] 1) :: nw d) → (∀ p ∈ news, p.1 < d) → Q () { s with heap := h', toks := s.toks + 2 }) :
    wpAny (model prog w) A (setAttr (.ref x) name v) Q E s := by
  have I : InstAt s.heap x ⟨.ref C, none, .fields fs, sl⟩ C none := ⟨hx, rfl, rfl, trivial⟩
  refine set_plain (X₀.keeps F.keep) I hs ?_
  exact osa_exc0 (s := { s with toks := s.toks + 1 }) F (X₀.keeps F.keep) N hx hc hne hob hh hpass ht (U _) (h _)

/-- a later store: the dict stands -/
theorem osa_exc1 {ox : Obj} {R : Result → Shared → Prop} (F : Fr h₀ L s.heap m) (X : K.In s.heap) (N : News h₀ L s.heap news) (I : InstAt s.heap x ox C (some (dictOf es n))) (hd : ox.dict = some dx)
    (hc : clsIn K C = some cd) (hne : cd.mro.isEmpty = false) (hob : cd.mro.contains (.type "object") = true) (hh : cd.hasDict = true)
    (hpass : refuseLoop (.ref x) "__setattr__" cd.mro = pure ()) (ht : takerIn K C name = some none) (hl : (getL name es).isSome = true)
    (e : (putL name (PyData.keyHash w.params name) (.str name s.toks) v es, putN name es n) = (es', n')) (U : Upd dx (dictOf es n) (dictOf es' n') news news') (hz : es'.length ≤ 1000)
    (h : ∀ h', Fr h₀ L h' m → News h₀ L h' news' → R (.ok (.ret .none)) { s with heap := h', toks := s.toks + 1 }) :
    codeAny (model prog w) A (.call (.builtin "object.__setattr__") ⟨[.ref x, .str name tk, v], []⟩) R s := by
  refine osaE X I hc hne hob hpass ht fun b => ?_
  obtain ⟨pre, post, rfl, rfl, h1, h2⟩ := U.split
  obtain ⟨e1, e2⟩ := Prod.mk.inj e
  have eP : Obj.putName name (PyData.keyHash w.params name) (.str name s.toks) v (dictOf es n) = dictOf es' n' := by rw [putName_dict, e1, e2]
  obtain ⟨U1, U2⟩ := news_upd (f := Obj.putName name (PyData.keyHash w.params name) (.str name s.toks) v) F N h1 h2 eP rfl
  have D := (N (dx, dictOf es n) (by simp)).1
  have D' := (U2 (dx, dictOf es' n') (by simp)).1
  obtain ⟨hx, hcl, hn, -⟩ := I
  obtain ⟨oc, odi, oda, osl⟩ := ox
  dsimp only at hcl hd
  subst hcl hd
  refine wpAny_bind (wpAny_pure (wpAny_bind (wpAny_bind (wpAny_loadPart hx (wpAny_bind ((looks_clsIn X hc).here ?_))))))
  rw [hh]
  refine wpAny_pure (a := some dx) (wpAny_bind (wpAny_pure (wpAny_bind ?_)))
  unfold nsSet
  refine wpAny_bind (wpAny_bind (wpAny_askSetting (wpAny_pure (wpAny_bind (wpAny_mkText (wpAny_bind (wpAny_loadPart D ?_)))))))
  dsimp only
  have c : (!es.toArray.any (·.key.isStr name) && es.toArray.any (·.refKey)) = false := by
    rw [← Array.any_toList, ← Array.any_toList]
    unfold getL at hl
    split at hl
    · rename_i en he
      rw [List.any_eq_true.mpr ⟨en, List.mem_of_find?_eq_some he, List.find?_some he⟩]; rfl
    · split at hl
      · cases hl
      · rename_i z; rw [Bool.not_eq_true] at z; rw [z, Bool.and_false]
  rw [aRefKeyMayBeTheName_at, c]
  refine wpAny_updatePart D ?_
  refine wpAny_bind (wpAny_lookBehind D' (by exact pastItsLine_dict (by rw [List.size_toArray, sizeLine_eq]; omega)) ?_)
  exact wpAny_pure (h _ U1 U2)

theorem set_exc1 {ox : Obj} {Q : Unit → Shared → Prop} (F : Fr h₀ L s.heap m) (X₀ : K.In h₀) (N : News h₀ L s.heap news) (I : InstAt s.heap x ox C (some (dictOf es n))) (hd : ox.dict = some dx)
    (hs : findIn K (.ref C) "__setattr__" = some (some (.builtin "object.__setattr__"))) (hc : clsIn K C = some cd) (hne : cd.mro.isEmpty = false) (hob : cd.mro.contains (.type "object") = true) (hh : cd.hasDict = true)
    (hpass : refuseLoop (.ref x) "__setattr__" cd.mro = pure ()) (ht : takerIn K C name = some none) (hl : (getL name es).isSome = true)
    (e : (putL name (PyData.keyHash w.params name) (.str name (s.toks + 1)) v es, putN name es n) = (es', n')) (U : Upd dx (dictOf es n) (dictOf es' n') news news') (hz : es'.length ≤ 1000)
    (h : ∀ h', Fr h₀ L h' m → News h₀ L h' news' → Q () { s with heap := h', toks := s.toks + 2 }) :
    wpAny (model prog w) A (setAttr (.ref x) name v) Q E s := by
  refine set_plain (X₀.keeps F.keep) I hs ?_
  exact osa_exc1 (s := { s with toks := s.toks + 1 }) F (X₀.keeps F.keep) N I hd hc hne hob hh hpass ht hl e U hz h
end
section
variable {prog : Program} {w : World} {A : Around} {E : Value → Shared → Prop} {s : Shared} {K : Frag} {x C dx L : Addr} {h₀ : Heap} {m : Str → Option Value} {news : List (Addr × Obj)} {name : Str} {v : Value} {fs : Array Value} {sl : Array (Option Value)} {es : List DictEntry} {n : Nat} {expr : Bool} {attr : Option Value}
theorem get_excN {Q : Value → Shared → Prop} (F : Fr h₀ L s.heap m) (X₀ : K.In h₀) (N : News h₀ L s.heap news) (h1 : (x, (⟨.ref C, some dx, .fields fs, sl⟩ : Obj)) ∈ news) (h2 : (dx, dictOf es n) ∈ news)
    (hga : findIn K (.ref C) "__getattribute__" = some (some (.builtin "BaseException.__getattribute__"))) (hgt : findIn K (.ref C) "__getattr__" = some none) (hm : mroIn K C (.type "BaseException") = some true)
    (hh : hasDictIn K C = true) (ha : findIn K (.ref C) name = some attr) (hn : noGet K attr = true) (hl : getL name es = some (some v)) (hv : handedIn v = true) (h : Q v { s with toks := s.toks + 1 }) :
    wpAny (model prog w) A (getAttr (.ref x) name expr) Q E s :=
  get_exc (X₀.keeps F.keep) (instE N h1 h2) hga hgt hm (findObj_own hh ha hn ((lookIn_dict name es n).trans hl)) hv h
end
end
section
open PySem PySem.W PyProof.Rows PySem.Calls PySem.Spec
set_option maxRecDepth 100000
local macro_rules | `(tactic| walk_at "setAttr ref") => `(tactic| (k_here; refine stop ?_))
theorem nsSome {K : Frag} {h : Heap} {N : Addr} {mg : Str → Option Value} {n : Str} {v : Value} (X : K.In h) (G : h.Ns N mg) (e : nsIn K N n = some (some v)) : mg n = some v := by
  obtain ⟨o, es, ep, ho, hd, _, hf⟩ := G
  unfold nsIn at e
  split at e
  · rename_i q
    have := X _ _ q
    rw [ho] at this
    cases this
    cases hd
    split at e
    · rename_i en he
      cases e
      rw [← hf]
      unfold nsFind findBy
      rw [← Array.find?_toList, he]
      rfl
    · split at e <;> cases e
  · cases e

set_option maxHeartbeats 8000000 in
theorem luaerr_spec {w : World} {pt : Program} {lo : List Str} {mean : ExcName → Option Value} {mg mb : Str → Option Value} {hdl : Option Value} {dp un : Nat} {gd : Option (List Code)} {cn : Str} {cs : Scope} {L a : Addr} {ccd : Value} {cl : List (Str × Addr)} {outer : List Env} {A₀ : Around} {base h₀ : Heap} {m : Str → Option Value} {s : Shared} {Q E : Value → Shared → Prop} {v : Value}
   (B : Below A₀ base outer h₀) (F : Fr h₀ L s.heap m) (X : (hd.heap_39 w.params).In h₀) (T : Top pt lo mean mg mb h₀) (hk : cs.kind = .function)
   (hd : dp + 10 < recursionLimit) (hu : un + 20 < cLine)
   (ret : ∀ e dx t q x1 x2 x3 t1 t2 t3 h' tk', s.heap.get? e = none → s.heap.get? dx = none → e ≠ dx → Fr h₀ L h' m → (∀ b o, s.heap.get? b = some o → h'.get? b = some o) →
     h'.get? e = some ⟨.ref 66, some dx, .fields #[.ref t, .none, .none, .none, .bool false, .none], #[]⟩ →
     h'.get? dx = some (dictOf [⟨x1, .str "value" t1, v⟩, ⟨x2, .str "trace" t2, .ref q⟩, ⟨x3, .str "is_in_handler" t3, .bool false⟩] 3) → Q (.ref e) { s with heap := h', toks := tk' }) :
   wpAny (model PySem.Challenge.rw_rh0158_01.row.prog w) (aTop hdl dp un gd cn cs L a ccd cl outer) (call (.ref 66) [v]) Q E s := by
  w_top off; revert X; k_fill; intro X
  obtain ⟨hp, g, d, tk, os⟩ := s
  have hC := getK X F.keep (f := 66) (by k_is)
  have hNs : hp.Ns 65 (hp.nsMap 65) := .of_isNs (isNs_of_in (X.keeps F.keep) (N := 65) (by kernel_rfl))
  refine wpAny_call_exc_init PySem.F.excBase_Exception hC hNs (nsSome (X.keeps F.keep) hNs (by k_is)) (getK X F.keep (f := 63) (by k_is)) rfl ?_
  intro hm e he
  obtain ⟨t, het, htn, htt⟩ := he.there
  have F1 : Fr h₀ L hm m := F.keeps he.keeps
  have N1 : News h₀ L hm [(e, ⟨.ref 66, none, .fields #[.ref t, .none, .none, .none, .bool false, .none], #[]⟩)] := by
    intro p hp; rw [List.mem_singleton.mp hp]
    refine ⟨het, ?_, ?_⟩
    · rintro rfl
      have := he.new
      obtain ⟨oL, _, _, hL, _⟩ := F.ns
      rw [hL] at this; cases this
    · cases q : h₀.get? e with
      | none => rfl
      | some o => have := F.keep _ _ q; rw [he.new] at this; cases this
  refine wpAny_call ?_
  k_dflt (refine' callF B F1 X N1 T rfl rfl hk (getK X F1.keep (f := 63) (by k_is)) rfl (codeK X F1.keep (by k_is)) ?k8 ?k9 ?kB ?_ ?c5; (case k8 => ktr_room); (case k9 => exact BindsTo.of_eq rfl); (case c5 => decide); (case kB => exact locs rfl); intro g' L' h' FG' F' N' B' X' T' hkeep hback hlt; (try dsimp only); (try k_fold))
  k_steps
  unfold Stop
  k_dflt (refine' set_exc0 ?F ?X ?N ?hx ?hs ?hc ?hne ?hob ?hh ?hp ?ht ?U ?_; (case F => k_asm); (case X => k_asm); (case N => k_asm); (case hx => exact News.get (by k_asm) (by k_mem)); (case hs => k_is); (case hc => k_is); (case hne => rfl); (case hob => decide +kernel); (case hh => rfl); (case hp => exact (refuseLoop_ref _ _ _ _).trans (PySem.F.store_Exception.passes _)); (case ht => k_is); (case U => intro d; k_upd); k_whole; intro d₉ h₉ F₉ N₉ l1; (try k_lt l1); (try dsimp only at N₉); (try k_sweep))
  k_steps
  unfold Stop
  k_dflt (refine' set_exc1 ?F ?X ?N ?I ?hd ?hs ?hc ?hne ?hob ?hh ?hp ?ht ?hl ?e ?U ?hz ?_; (case F => k_asm); (case X => k_asm); (case N => k_asm); (case I => refine' instE ?N ?h1 ?h2; (case N => k_asm); (case h1 => k_mem); (case h2 => k_mem)); (case hd => rfl); (case hs => k_is); (case hc => k_is); (case hne => rfl); (case hob => decide +kernel); (case hh => rfl); (case hp => exact (refuseLoop_ref _ _ _ _).trans (PySem.F.store_Exception.passes _)); (case ht => k_is); (case hl => k_get); (case e => k_put); (case U => k_upd); (case hz => simp only [List.length_cons, List.length_nil]; omega); k_whole; intro h₉ F₉ N₉; (try k_sweep))
  k_steps
  unfold Stop
  k_dflt (refine' set_exc1 ?F ?X ?N ?I ?hd ?hs ?hc ?hne ?hob ?hh ?hp ?ht ?hl ?e ?U ?hz ?_; (case F => k_asm); (case X => k_asm); (case N => k_asm); (case I => refine' instE ?N ?h1 ?h2; (case N => k_asm); (case h1 => k_mem); (case h2 => k_mem)); (case hd => rfl); (case hs => k_is); (case hc => k_is); (case hne => rfl); (case hob => decide +kernel); (case hh => rfl); (case hp => exact (refuseLoop_ref _ _ _ _).trans (PySem.F.store_Exception.passes _)); (case ht => k_is); (case hl => k_get); (case e => k_put); (case U => k_upd); (case hz => simp only [List.length_cons, List.length_nil]; omega); k_whole; intro h₉ F₉ N₉; (try k_sweep))
  k_steps
  rename Fr g' _ _ _ => FE
  rename News g' _ _ _ => NE
  rename e < _ => hed
  refine ⟨rfl, ret e _ t _ _ _ _ _ _ _ _ _ he.new (freshSub he.keeps (freshOf hkeep (NE _ (.tail _ (.head _))).2.2 (by simpa using Nat.ne_of_gt hed))) (Nat.ne_of_lt hed) (frBack FG' FE) (fun b o q => FE.keep b o (hkeep b o (he.keeps _ _ q) ?_)) (NE _ (.tail _ (.tail _ (.head _)))).1 (NE _ (.tail _ (.head _))).1⟩
  intro hm'
  obtain rfl : b = e := by simpa using hm'
  have := he.new
  rw [q] at this; cases this
end
section
open PySem PySem.W PyProof.Rows PySem.Calls PySem.Spec
set_option maxRecDepth 100000
/-- all of h but X stands in h'; the slots of S may turn -/
def Kp (X S : List Addr) (h h' : Heap) : Prop := ∀ b o, b ∉ X → h.get? b = some o → ∃ sl, h'.get? b = some { o with slots := sl } ∧ (b ∉ S → sl = o.slots)
theorem Kp.refl {X S : List Addr} {h : Heap} : Kp X S h h := fun _ o _ e => ⟨o.slots, e, fun _ => rfl⟩
theorem Kp.trans {X S : List Addr} {h₁ h₂ h₃ : Heap} (x : Kp X S h₁ h₂) (y : Kp X S h₂ h₃) : Kp X S h₁ h₃ := fun b o n e => by
  obtain ⟨s1, e1, k1⟩ := x b o n e
  obtain ⟨s2, e2, k2⟩ := y b _ n e1
  exact ⟨s2, e2, fun m => (k2 m).trans (k1 m)⟩
theorem Kp.get {X S : List Addr} {h h' : Heap} (x : Kp X S h h') {b : Addr} {o : Obj} (n : b ∉ X) (m : b ∉ S) (e : h.get? b = some o) : h'.get? b = some o := by
  obtain ⟨sl, e', k⟩ := x b o n e
  rw [e', k m]
theorem Kp.mono {X X' S S' : List Addr} {h h' : Heap} (x : Kp X S h h') (hX : ∀ b, b ∈ X → b ∈ X') (hS : ∀ b, b ∈ S → b ∈ S') : Kp X' S' h h' := fun b o n e => by
  obtain ⟨sl, e', k⟩ := x b o (fun q => n (hX b q)) e
  exact ⟨sl, e', fun m => k fun q => m (hS b q)⟩
/-- what was not there needs no care -/
theorem Kp.drop {X X' S : List Addr} {h h' : Heap} (x : Kp X S h h') (hX : ∀ b, b ∈ X → b ∈ X' ∨ h.get? b = none) : Kp X' S h h' := fun b o n e =>
  x b o (fun q => (hX b q).elim n fun z => by rw [e] at z; cases z) e
theorem Kp.ns {X S : List Addr} {h h' : Heap} (x : Kp X S h h') {L : Addr} {m : Str → Option Value} (n : L ∉ X) (N : h.Ns L m) : h'.Ns L m := by
  obtain ⟨o, es, ep, ho, hd, r⟩ := N
  obtain ⟨sl, e, _⟩ := x L o n ho
  exact ⟨_, es, ep, e, hd, r⟩
theorem Kp.of_slotsOnly {S : List Addr} {h h' : Heap} (x : Heap.SlotsOnly S h h') : Kp [] S h h' := fun b o _ e => by
  obtain ⟨sl, e'⟩ := x.2.2 b o e
  refine ⟨sl, e', fun m => ?_⟩
  have := (x.2.1 b m).trans e
  rw [e'] at this
  exact congrArg Obj.slots (Option.some.inj this)
theorem Kp.push {h : Heap} (o : Obj) : Kp [] [] h (h.push o) := fun _ ob _ e => ⟨ob.slots, Heap.get?_push_of_some _ e, fun _ => rfl⟩
theorem Kp.update {h : Heap} (a : Addr) (f : Obj → Obj) : Kp [a] [] h (h.update a f) := fun b o n e =>
  ⟨o.slots, (Heap.get?_update_other _ _ (fun q : a = b => n (by simp [q]))).trans e, fun _ => rfl⟩

theorem Kp.dropS {X S S' : List Addr} {h h' : Heap} (x : Kp X S h h') (hS : ∀ b, b ∈ S → b ∈ S' ∨ h.get? b = none) : Kp X S' h h' := fun b o n e => by
  obtain ⟨sl, e', k⟩ := x b o n e
  exact ⟨sl, e', fun m => k fun q => (hS b q).elim m fun z => by rw [e] at z; cases z⟩
theorem Kp.of_keep {X : List Addr} {h h' : Heap} (k : ∀ b o, b ∉ X → h.get? b = some o → h'.get? b = some o) : Kp X [] h h' := fun b o n e => ⟨o.slots, k b o n e, fun _ => rfl⟩
theorem frKp {X S : List Addr} {h₀ h h' : Heap} {L : Addr} {m : Str → Option Value} (F : Fr h₀ L h m) (k : Kp X S h h') (hL : L ∉ X) (hX : ∀ b, b ∈ X → h₀.get? b = none) (hS : ∀ b, b ∈ S → h₀.get? b = none) : Fr h₀ L h' m :=
  ⟨k.ns hL F.ns, fun b o e => k.get (fun q => by rw [hX b q] at e; cases e) (fun q => by rw [hS b q] at e; cases e) (F.keep b o e), F.above⟩
theorem newsKp {X S : List Addr} {h₀ h h' : Heap} {L : Addr} {news : List (Addr × Obj)} (N : News h₀ L h news) (k : Kp X S h h') (hX : ∀ p ∈ news, p.1 ∉ X) (hS : ∀ p ∈ news, p.1 ∉ S) : News h₀ L h' news :=
  fun p hp => ⟨k.get (hX p hp) (hS p hp) (N p hp).1, (N p hp).2⟩
theorem frNone {h₀ h : Heap} {L : Addr} {m : Str → Option Value} (F : Fr h₀ L h m) : h₀.get? L = none := kts_self F
theorem keepOf {h₀ g h h' : Heap} {L L' : Addr} {S : List Addr} {old new : List (Addr × Obj)} (N : News h₀ L h old) (NE : News g L' h' new) (hkeep : ∀ b o, h.get? b = some o → b ∉ old.map (·.1) → g.get? b = some o) (FE : ∀ b o, g.get? b = some o → h'.get? b = some o)
    (sub : ∀ p ∈ old, p.1 ∉ S → p ∈ new) : ∀ b o, b ∉ S → h.get? b = some o → h'.get? b = some o := fun b o n e => by
  by_cases hm : b ∈ old.map (·.1)
  · obtain ⟨p, hp, rfl⟩ := List.mem_map.mp hm
    have e1 := (N p hp).1
    rw [e] at e1
    obtain rfl := Option.some.inj e1
    exact (NE _ (sub p hp n)).1
  · exact FE b o (hkeep b o e hm)
/-- an exception of the class 66, its dict, the head of its traceback, its context, its flight -/
def Xc (h : Heap) (e dx T : Addr) (ctx fl : Value) : Prop := ∃ fs sl oT ts, h.get? e = some (⟨.ref 66, some dx, .fields fs, sl⟩ : Obj) ∧ 2 < fs.size ∧ fs[1]? = some (.ref T) ∧ fs[2]? = some ctx ∧ T ≠ e ∧ h.get? T = some oT ∧ oT.data = .fields ts ∧ ts[3]? = some fl
def Ready (h : Heap) (L : Addr) : Prop := ∃ o, h.get? L = some o ∧ (o.slots.getD 3 none).isSome = true
theorem Ready.kp {X S : List Addr} {h h' : Heap} {L : Addr} (r : Ready h L) (k : Kp X S h h') (n : L ∉ X) (m : L ∉ S) : Ready h' L :=
  let ⟨_, a, b⟩ := r; ⟨_, k.get n m a, b⟩

section
variable {M : Model} {A : Around} {E : Value → Shared → Prop} {s : Shared} {env : Env} {outer : List Env} {L e dx T : Addr} {S : List Addr} {ctx fl : Value}
/-- readyFrames of l turns slots of S alone -/
def Rdy0 (M : Model) (A : Around) (l : List Env) (S : List Addr) (h : Heap) : Prop := ∀ (s : Shared) (Q : Unit → Shared → Prop) (E : Value → Shared → Prop), s.heap = h → (∀ h', Heap.SlotsOnly S s.heap h' → Q () { s with heap := h' }) → wpAny M A (readyFrames l) Q E s
/-- .. and its first frame is ready behind it -/
def Rdy (M : Model) (A : Around) (l : List Env) (L : Addr) (S : List Addr) (h : Heap) : Prop := ∀ (s : Shared) (Q : Unit → Shared → Prop) (E : Value → Shared → Prop), s.heap = h → (∀ h', Heap.SlotsOnly S s.heap h' → Ready h' L → Q () { s with heap := h' }) → wpAny M A (readyFrames l) Q E s

theorem rdy_head {o : Obj} {h : Heap} {S' : List Addr} (hf : env.frame = some L) (ho : h.get? L = some o) (hk : env.scope.kind ≠ .module) (hL : L ∉ S') (R : ∀ h', Heap.SlotsOnly [L] h h' → Rdy0 M A outer S' h') : Rdy M A (env :: outer) L (L :: S') h := fun s Q E hs hq => by
  subst hs
  simp only [readyFrames, hf]
  refine wpAny_bind (wpAny_load ho ?_)
  by_cases hrd : ((o.slots.getD 3 none).isSome) = true
  · rw [if_pos hrd]; exact wpAny_pure (hq _ (.refl ..) ⟨o, ho, hrd⟩)
  · rw [if_neg hrd]
    refine wpAny_bind (wpAny_of_eq (a := false) (by simp [behindIsImport, hk]) ?_)
    refine wpAny_bind (wpAny_keptBack_false fun back => ?_)
    refine wpAny_bind (wpAny_update ho ?_)
    have hu := Heap.SlotsOnly.update ho fun o => #[some env.code, some (.ref env.globals), o.slots.getD 2 none, some back, o.slots.getD 4 none, env.func.map Value.ref, some (.ref env.builtins)]
      ++ (env.cells.map fun c => some (.ref c.2)).toArray
    refine R _ hu { s with heap := _ } _ _ rfl fun h' hs' => ?_
    refine hq h' ((hu.mono fun b hb => List.mem_cons.mpr (Or.inl (List.mem_singleton.mp hb))).trans (hs'.mono fun b hb => List.mem_cons_of_mem _ hb)) ⟨_, (hs'.2.1 L hL).trans (Heap.get?_update_self _ ho ?_), ?_⟩
    · have hx := (Heap.get?_some_iff.mp ho).2
      obtain ⟨c, d, dt, s0⟩ := o
      cases dt <;> first | rfl | (simp [Obj.isFreed] at hx)
    · simp
theorem rdy_stop {env₂ : Env} {rest : List Env} {L₂ : Addr} {h : Heap} (hf₂ : env₂.frame = some L₂) (r : Ready h L₂) : Rdy0 M A (env₂ :: rest) [] h := fun s Q E hs hq => by
  subst hs
  obtain ⟨o, h2, hr⟩ := r
  simp only [readyFrames, hf₂]
  refine wpAny_bind (wpAny_load h2 ?_)
  rw [if_pos hr]
  exact wpAny_pure (hq _ (.refl ..))
theorem Rdy.plain {h : Heap} {l : List Env} (R : Rdy M A l L S h) : Rdy0 M A l S h := fun s Q E hs hq => R s Q E hs fun h' x _ => hq h' x
theorem rdy_all {base : Heap} {l : List Env} {h : Heap} (hl : h.FunFrames base l) : Rdy0 M A l (l.filterMap (·.frame)) h := fun s Q E hs hq => by
  subst hs
  exact wpAny_readyFrames_fun hl hq

theorem entry_x {fs : Array Value} {sl : Array (Option Value)} {head : Value} {hadNext : Bool} {Q : Unit → Shared → Prop}
    (hfr : A.frames = some (env :: outer)) (hf : env.frame = some L) (R : Rdy M A (env :: outer) L S s.heap) (heS : e ∉ S) (heL : e ≠ L)
    (he : s.heap.get? e = some (⟨.ref 66, some dx, .fields fs, sl⟩ : Obj)) (hsz : 2 < fs.size) (h2 : fs[2]? = some ctx)
    (hQ : ∀ h' T, s.heap.get? T = none → Xc h' e dx T ctx (rawInt L) → Kp [e] S s.heap h' → Ready h' L → Q () { s with heap := h' }) :
    wpAny M A (do let a ← PySem.frameOf env; let pl ← entryPlaceOf L hadNext; let b ← EntryCells.newEntry head a .none (rawInt L) .none pl; setField (.ref e) 1 b) Q E s := by
  have hof : ∀ (Q : Value → Shared → Prop) (E : Value → Shared → Prop), (∀ h', Heap.SlotsOnly S s.heap h' → Ready h' L → Q (.ref L) { s with heap := h' }) → wpAny M A (PySem.frameOf env) Q E s := by
    intro Q E h
    unfold PySem.frameOf
    refine wpAny_bind (wpAny_frameEnvs hfr ?_)
    have hdw : ((env :: outer).dropWhile fun x => x.frame != env.frame) = env :: outer := by simp [List.dropWhile]
    rw [hdw]
    unfold frameObject
    refine wpAny_bind (wpAny_bind (R s _ _ rfl fun h₁ hs₁ r => wpAny_pure ?_))
    rw [hf]
    exact wpAny_pure (h h₁ hs₁ r)
  refine wpAny_bind (hof _ _ fun h₁ hs₁ rd => ?_)
  refine wpAny_bind (wpAny_entryPlaceOf fun pl hpl => ?_)
  unfold EntryCells.newEntry newFields
  refine wpAny_bind (wpAny_newObj_type ?_ (hpl.sizeOk5 _ _ _ _ _))
  have he₁ : h₁.get? e = some (⟨.ref 66, some dx, .fields fs, sl⟩ : Obj) := (hs₁.2.1 e heS).trans he
  let oT : Obj := { cls := .type "traceback", dict := none, data := .fields ([head, .ref L, .none, rawInt L, .none] ++ (if pl.isEmpty then List.replicate 6 Value.none else pl)).toArray }
  have he₂ := Heap.get?_push_of_some (h := h₁) oT he₁
  have hlt : e < h₁.objs.size := Heap.lt_size he₁
  have hT₂ : (h₁.push oT).get? h₁.objs.size = some oT := Heap.get?_push_size _ rfl
  have k2 := (((Kp.of_slotsOnly hs₁).mono (X' := [e]) (S' := S) (fun _ q => nomatch q) fun _ q => q).trans ((Kp.push oT).mono (fun _ q => nomatch q) fun _ q => nomatch q)).trans ((Kp.update (h := h₁.push oT) e (Obj.mapFields (·.setIfInBounds 1 (.ref h₁.objs.size)))).mono (fun _ q => q) fun _ q => nomatch q)
  refine wpAny_setField he₂ rfl (by omega) (hQ _ h₁.objs.size ?_ ?_ k2 ?_)
  · refine Heap.get?_none_of_le ?_
    have := hs₁.1
    omega
  · refine ⟨fs.setIfInBounds 1 (.ref h₁.objs.size), sl, oT, _, Heap.get?_update_self _ he₂ rfl, ?_, ?_, ?_, Nat.ne_of_gt hlt, (Heap.get?_update_other _ _ (Nat.ne_of_lt hlt)).trans hT₂, rfl, ?_⟩
    · rw [Array.size_setIfInBounds]; exact hsz
    · rw [Array.getElem?_setIfInBounds_self_of_lt (by omega)]
    · rw [Array.getElem?_setIfInBounds_ne (by decide)]; exact h2
    · simp
  · obtain ⟨o, a, b⟩ := rd
    exact ⟨o, (Heap.get?_update_other _ _ heL).trans (Heap.get?_push_of_some _ a), b⟩

theorem note_x0 {fs : Array Value} {sl : Array (Option Value)} {Q : Unit → Shared → Prop}
    (hfr : A.frames = some (env :: outer)) (hf : env.frame = some L) (R : Rdy M A (env :: outer) L S s.heap) (heS : e ∉ S) (heL : e ≠ L)
    (he : s.heap.get? e = some (⟨.ref 66, some dx, .fields fs, sl⟩ : Obj)) (hsz : 2 < fs.size) (h1 : fs[1]? = some .none) (h2 : fs[2]? = some ctx)
    (hQ : ∀ h' T, s.heap.get? T = none → Xc h' e dx T ctx (rawInt L) → Kp [e] S s.heap h' → Ready h' L → Q () { s with heap := h' }) :
    wpAny M A (noteFrame (.ref e) env) Q E s := by
  unfold noteFrame
  simp only [hf]
  refine wpAny_bind (wpAny_field he rfl h1 ?_)
  rw [if_neg (by decide)]
  exact entry_x hfr hf R heS heL he hsz h2 hQ

theorem note_x1 {Q : Unit → Shared → Prop}
    (hfr : A.frames = some (env :: outer)) (hf : env.frame = some L) (R : ∀ h', Kp [T] [] s.heap h' → Rdy M A (env :: outer) L S h') (heS : e ∉ S) (heL : e ≠ L) (x : Xc s.heap e dx T ctx .none)
    (hQ : ∀ h' T', s.heap.get? T' = none → Xc h' e dx T' ctx (rawInt L) → Kp [e, T] S s.heap h' → Ready h' L → Q () { s with heap := h' }) :
    wpAny M A (noteFrame (.ref e) env) Q E s := by
  obtain ⟨fs, sl, oT, ts, he, hsz, h1, h2, hTe, hT, hdT, h3⟩ := id x
  unfold noteFrame
  simp only [hf]
  refine wpAny_bind (wpAny_field he rfl h1 ?_)
  rw [if_pos (show (Value.ref T != Value.none) = true from by simp)]
  refine wpAny_bind (wpAny_field hT hdT h3 ?_)
  rw [if_neg (show ¬ ((Value.none == rawInt L) = true) from by simp [rawInt])]
  refine wpAny_bind (wpAny_setField hT hdT (Array.getElem?_eq_some_iff.mp h3).1 ?_)
  have k1 : Kp [T] [] s.heap (s.heap.update T (Obj.mapFields (·.setIfInBounds 3 Value.none))) := Kp.update T _
  have he' := k1.get (b := e) (by simpa using Ne.symm hTe) (by simp) he
  refine entry_x (s := { s with heap := s.heap.update T (Obj.mapFields (·.setIfInBounds 3 Value.none)) }) hfr hf (R _ k1) heS heL he' hsz h2 fun h' T' hn hx hk rd => hQ h' T' ?_ hx ?_ rd
  · cases q : s.heap.get? T' with
    | none => rfl
    | some o =>
      have hT' : T' ≠ T := by
        rintro rfl
        have := Heap.get?_update_self (Obj.mapFields (·.setIfInBounds 3 Value.none)) hT (Obj.isFreed_of_fields (Obj.data_mapFields hdT _))
        rw [hn] at this; cases this
      rw [k1.get (by simpa using hT') (by simp) q] at hn; cases hn
  · exact (k1.mono (fun b q => by simp at q; simp [q]) fun _ q => nomatch q).trans (hk.mono (fun b q => by simp at q; simp [q]) fun _ q => q)

theorem fly_x {Q : Unit → Shared → Prop} (x : Xc s.heap e dx T ctx fl)
    (hQ : ∀ h', Xc h' e dx T ctx .none → Kp [T] [] s.heap h' → Q () { s with heap := h' }) : wpAny M A (setFlight (.ref e) none) Q E s := by
  obtain ⟨fs, sl, oT, ts, he, hsz, h1, h2, hTe, hT, hdT, h3⟩ := id x
  have h3' := (Array.getElem?_eq_some_iff.mp h3).1
  unfold setFlight
  refine wpAny_bind (wpAny_field he rfl h1 ?_)
  rw [if_pos (show (Value.ref T != Value.none) = true from by simp)]
  refine wpAny_setField hT hdT h3' (hQ _ ⟨fs, sl, _, _, (Heap.get?_update_other _ _ hTe).trans he, hsz, h1, h2, hTe, Heap.get?_update_self _ hT (Obj.isFreed_of_fields (Obj.data_mapFields hdT _)), Obj.data_mapFields hdT _, ?_⟩ (Kp.update T _))
  simp [h3']

/-- an exception new in its frame leaves it -/
theorem leave_x0 {fs : Array Value} {sl : Array (Option Value)} {Q : Unit → Shared → Prop}
    (hfr : A.frames = some (env :: outer)) (hf : env.frame = some L) (R : Rdy M A (env :: outer) L S s.heap) (heS : e ∉ S) (heL : e ≠ L)
    (he : s.heap.get? e = some (⟨.ref 66, some dx, .fields fs, sl⟩ : Obj)) (hsz : 2 < fs.size) (h1 : fs[1]? = some .none) (h2 : fs[2]? = some ctx)
    (hQ : ∀ h' T, s.heap.get? T = none → Xc h' e dx T ctx .none → Kp [e] S s.heap h' → Q () { s with heap := h' }) :
    wpAny M A (leaving env (.ref e)) Q E s := by
  unfold leaving
  refine wpAny_bind (note_x0 hfr hf R heS heL he hsz h1 h2 fun h₁ T hn hx k rd => ?_)
  refine fly_x (s := { s with heap := h₁ }) hx fun h₂ hx₂ k₂ => hQ h₂ T hn hx₂ ?_
  have k3 := (k.mono (X' := [e, T]) (fun b q => by simp at q; simp [q]) fun _ q => q).trans (k₂.mono (X' := [e, T]) (S' := S) (fun b q => by simp at q; simp [q]) fun _ q => nomatch q)
  exact k3.drop fun b hb => by
    rcases List.mem_cons.mp hb with rfl | hb
    · exact .inl (.head _)
    · rcases List.mem_cons.mp hb with rfl | hb
      · exact .inr hn
      · exact nomatch hb
end
end
section
open PySem PySem.W PyProof.Rows PySem.Calls PySem.Spec
set_option maxRecDepth 100000
theorem clsLuaError : ∀ P, (hd.heap_39 P).lookup 66 = some (excClassObj "LuaError" "LuaError" 66 65 [.type "Exception"] [.type "Exception", .type "BaseException", .type "object"] true [] [] false none none (some (.ref 50)) none (some (.str "LuaError" 243)) (some (.str "LuaError" 251)) (some (.bool true)) "Exception.__new__") := fun P => by
  kernel_rfl
theorem entry_unchain : entryFor table "proto.unchain" = some Builtin.«proto.unchain» := entryFor_of_tree (by kernel_rfl)
section
variable {prog : Program} {w : World} {A : Around} {E : Value → Shared → Prop} {s : Shared} {env : Env}
variable {nm q : Str} {C N : Addr} {bs bm : List Value} {hdct : Bool} {sn : List Str} {sub : List Value} {ab : Bool} {col : Option Bool} {dd : Option Addr} {k0 k1 k2 k3 k5 : Option Value} {newId : String}

theorem raiseNew_x {α : Type} {e eh : Addr} {oe oh : Obj} {fs fh : Array Value} {Q : α → Shared → Prop} (hh : A.handled = some (.ref eh)) (hne : eh ≠ e) (he : s.heap.get? e = some oe) (hd : oe.data = .fields fs) (hsz : 2 < fs.size)
    (hH : s.heap.get? eh = some oh) (hHd : oh.data = .fields fh) (h2 : fh[2]? = some .none)
    (h : E (.ref e) { s with heap := s.heap.update e (Obj.mapFields (·.setIfInBounds 2 (.ref eh))) }) : wpAny (model prog w) A (raiseNew (.ref e) : Sem α) Q E s := by
  unfold raiseNew
  refine wpAny_bind (wpAny_handled ?_)
  rw [hh]
  dsimp only
  rw [if_pos (show (Value.ref eh != Value.ref e) = true from by simpa using hne)]
  refine wpAny_bind (wpAny_holding (wpAny_runValue (codeAny_builtin entry_unchain ?_)))
  unfold Builtin.«proto.unchain»
  refine wpAny_bind (wpAny_field hH hHd h2 ?_)
  rw [if_pos (by rfl)]
  refine wpAny_pure ?_
  refine wpAny_bind ?_
  unfold updateField
  refine wpAny_bind (wpAny_load he ?_)
  rw [hd]
  dsimp only
  rw [if_pos hsz]
  refine wpAny_update he ?_
  exact wpAny_throw h

theorem raise_stmt_none {x : Sem Value} {Q : Flow → Shared → Prop} (hbase : bm.contains (.type "BaseException") = true) (hh : A.handled = none)
    (h : wpAny (model prog w) A x (fun v s₁ => ∃ e dx fs sl, v = .ref e ∧ s₁.heap.get? C = some (excClassObj nm q C N bs bm hdct sn sub ab col dd k0 k1 k2 k3 k5 newId) ∧
      s₁.heap.get? e = some (⟨.ref C, some dx, .fields fs, sl⟩ : Obj) ∧ fs[1]? = some .none ∧ E (.ref e) s₁) E s) :
    wpAny (model prog w) A (raiseStmt env (some x) none) Q E s := by
  have hcB : (Value.ref C :: bm).contains (.type "BaseException") = true := by rw [List.contains_cons, hbase, Bool.or_true]
  unfold raiseStmt
  refine wpAny_bind (wpAny_mono h (fun v s₁ h₁ => ?_) fun _ _ x => x)
  obtain ⟨e, dx, fs, sl, rfl, hC, he, h1, hE⟩ := h₁
  obtain ⟨hp, g, d, tk, os⟩ := s₁
  repeat (first | with_reducible refine wpAny_loadPart_at he ?_ | with_reducible refine wpAny_loadPart_at hC ?_ | (with_reducible refine wpAny_isSubtype_exc hC ?_; rw [hcB]) | with_reducible refine wpAny_field he rfl h1 ?_ | wp_step)
  exact wpAny_raiseNew_none hh hE

theorem raise_stmt_some {x : Sem Value} {eh : Addr} {Q : Flow → Shared → Prop} (hbase : bm.contains (.type "BaseException") = true) (hh : A.handled = some (.ref eh))
    (h : wpAny (model prog w) A x (fun v s₁ => ∃ e dx fs sl oh fh, v = .ref e ∧ s₁.heap.get? C = some (excClassObj nm q C N bs bm hdct sn sub ab col dd k0 k1 k2 k3 k5 newId) ∧
      s₁.heap.get? e = some (⟨.ref C, some dx, .fields fs, sl⟩ : Obj) ∧ fs[1]? = some .none ∧ 2 < fs.size ∧ eh ≠ e ∧ s₁.heap.get? eh = some oh ∧ oh.data = .fields fh ∧ fh[2]? = some .none ∧ E (.ref e) { s₁ with heap := s₁.heap.update e (Obj.mapFields (·.setIfInBounds 2 (.ref eh))) }) E s) :
    wpAny (model prog w) A (raiseStmt env (some x) none) Q E s := by
  have hcB : (Value.ref C :: bm).contains (.type "BaseException") = true := by rw [List.contains_cons, hbase, Bool.or_true]
  unfold raiseStmt
  refine wpAny_bind (wpAny_mono h (fun v s₁ h₁ => ?_) fun _ _ x => x)
  obtain ⟨e, dx, fs, sl, oh, fh, rfl, hC, he, h1, hsz, hne, hH, hHd, h2, hE⟩ := h₁
  obtain ⟨hp, g, d, tk, os⟩ := s₁
  repeat (first | with_reducible refine wpAny_loadPart_at he ?_ | with_reducible refine wpAny_loadPart_at hC ?_ | (with_reducible refine wpAny_isSubtype_exc hC ?_; rw [hcB]) | with_reducible refine wpAny_field he rfl h1 ?_ | wp_step)
  exact raiseNew_x hh hne he rfl hsz hH hHd h2 hE

/-- raise of a call's value -/
def RaiseN (K : Frag) (E : Value → Shared → Prop) (v : Value) (s₁ : Shared) : Prop := ∃ e dx fs sl, v = .ref e ∧ K.In s₁.heap ∧ s₁.heap.get? e = some (⟨.ref 66, some dx, .fields fs, sl⟩ : Obj) ∧ fs[1]? = some .none ∧ E (.ref e) s₁
def RaiseS (K : Frag) (eh : Addr) (E : Value → Shared → Prop) (v : Value) (s₁ : Shared) : Prop := ∃ e dx fs sl oh fh, v = .ref e ∧ K.In s₁.heap ∧ s₁.heap.get? e = some (⟨.ref 66, some dx, .fields fs, sl⟩ : Obj) ∧ fs[1]? = some .none ∧ 2 < fs.size ∧ eh ≠ e ∧ s₁.heap.get? eh = some oh ∧ oh.data = .fields fh ∧ fh[2]? = some .none ∧ E (.ref e) { s₁ with heap := s₁.heap.update e (Obj.mapFields (·.setIfInBounds 2 (.ref eh))) }
end
section
variable {w : World} {A : Around} {E : Value → Shared → Prop} {s : Shared} {env : Env} {Q : Flow → Shared → Prop} {x : Expr} {pos : Pos}
theorem raise_none (hh : A.handled = none)
   (h : wpAny (model PySem.Challenge.rw_rh0158_01.row.prog w) A (eval x env) (RaiseN (hd.heap_39 w.params) E) E s) : wpAny (model PySem.Challenge.rw_rh0158_01.row.prog w) A (exec (.Raise (some x) none pos) env) Q E s := by
  rw [arm_exec_Raise]
  simp only [evalOpt, Option.map]
  refine wpAny_bind (wpAny_standAt (raise_stmt_none (nm := "LuaError") (q := "LuaError") (C := 66) (N := 65) (bs := [.type "Exception"]) (bm := [.type "Exception", .type "BaseException", .type "object"]) (hdct := true) (sn := []) (sub := []) (ab := false) (col := none) (dd := none) (k0 := some (.ref 50)) (k1 := none) (k2 := some (.str "LuaError" 243)) (k3 := some (.str "LuaError" 251)) (k5 := some (.bool true)) (newId := "Exception.__new__") (by decide +kernel) hh (wpAny_bind (wpAny_mono h (fun v s₁ h₁ => wpAny_bind (wpAny_standAt (wpAny_pure ?_))) fun _ _ x => x))))
  obtain ⟨e, dx, fs, sl, rfl, X, he, h1, hE⟩ := h₁
  exact ⟨e, dx, fs, sl, rfl, X _ _ (clsLuaError _), he, h1, hE⟩
theorem raise_some {eh : Addr} (hh : A.handled = some (.ref eh))
   (h : wpAny (model PySem.Challenge.rw_rh0158_01.row.prog w) A (eval x env) (RaiseS (hd.heap_39 w.params) eh E) E s) : wpAny (model PySem.Challenge.rw_rh0158_01.row.prog w) A (exec (.Raise (some x) none pos) env) Q E s := by
  rw [arm_exec_Raise]
  simp only [evalOpt, Option.map]
  refine wpAny_bind (wpAny_standAt (raise_stmt_some (nm := "LuaError") (q := "LuaError") (C := 66) (N := 65) (bs := [.type "Exception"]) (bm := [.type "Exception", .type "BaseException", .type "object"]) (hdct := true) (sn := []) (sub := []) (ab := false) (col := none) (dd := none) (k0 := some (.ref 50)) (k1 := none) (k2 := some (.str "LuaError" 243)) (k3 := some (.str "LuaError" 251)) (k5 := some (.bool true)) (newId := "Exception.__new__") (by decide +kernel) hh (wpAny_bind (wpAny_mono h (fun v s₁ h₁ => wpAny_bind (wpAny_standAt (wpAny_pure ?_))) fun _ _ x => x))))
  obtain ⟨e, dx, fs, sl, oh, fh, rfl, X, he, h1, r⟩ := h₁
  exact ⟨e, dx, fs, sl, oh, fh, rfl, X _ _ (clsLuaError _), he, h1, r⟩
end
end
section
open PySem PySem.W PyProof.Rows PySem.Calls PySem.Spec
set_option maxRecDepth 100000
section
variable {M : Model} {A : Around} {E : Value → Shared → Prop} {s : Shared}
theorem putName_slots (name : Str) (h : Int) (key v : Value) (o : Obj) : (o.putName name h key v).slots = o.slots := by
  rw [Obj.putName_eq]
  unfold Obj.putNameByArray
  split
  · split <;> rfl
  · rfl
theorem putName_freed (name : Str) (h : Int) (key v : Value) (o : Obj) (e : o.isFreed = false) : (o.putName name h key v).isFreed = false := by
  rw [Obj.putName_eq]
  unfold Obj.putNameByArray
  split
  · split <;> rfl
  · exact e
theorem nsSet_ready {a : Addr} {m} {name : Str} {v : Value} {Q : Unit → Shared → Prop} (hn : s.heap.Ns a m)
    (h : ∀ h', h'.Ns a (fun x => if x = name then some v else m x) → Heap.SameBut a s.heap h' → (Ready s.heap a → Ready h' a) → Q () { s with heap := h', toks := s.toks + 1 }) :
    wpAny M A (nsSet a name v) Q E s := fun Γ p _ => by
  have key := Sem.wp_nsSet M Γ (fun e _ s' => E e s') p s hn name v (fun _ _ s' => s'.heap.Ns a (fun x => if x = name then some v else m x)) (fun h' x _ => x)
  obtain ⟨o, es, ep, ho, hd, hk, hm⟩ := hn
  have hany : es.any (·.refKey) = false := by
    rw [Array.any_eq_false']; intro e he; obtain ⟨n, t, h⟩ := hk e he; simp [DictEntry.refKey, h]
  simp only [nsSet, strHash, Sem.wp_bind', Sem.wp_cmd_ask, Sem.wp_pure', Sem.wp_cmd_mkText] at key ⊢
  rw [Sem.wp_loadPart_of M Γ _ p { s with toks := s.toks + 1 } (o := o) _ ho] at key ⊢
  simp only [hd, aRefKeyMayBeTheName_at, hany, Bool.and_false, Bool.false_eq_true, if_false, Sem.wp_cmd_updatePart] at key ⊢
  refine ⟨key.1, h _ key.2 (Heap.SameBut.update ..) ?_⟩
  rintro ⟨o', ho', hr⟩
  rw [ho] at ho'
  obtain rfl := Option.some.inj ho'
  exact ⟨_, Heap.get?_update_self _ ho (putName_freed _ _ _ _ _ (Heap.get?_some_iff.mp ho).2), by rw [putName_slots]; exact hr⟩
theorem store_ready {env : Env} {name : Str} {m} {v : Value} {Q : Unit → Shared → Prop} (hl : env.kindOf name = some .local)
    (hn : s.heap.Ns env.locals m)
    (h : ∀ h', h'.Ns env.locals (fun x => if x = name then some v else m x) → Heap.SameBut env.locals s.heap h' → (Ready s.heap env.locals → Ready h' env.locals) →
      Q () { s with heap := h', toks := s.toks + 1 })
    (hp : (env.scope.kind == .class || (env.scope.kind == .module && env.locals != env.globals)) = false := by rfl) : wpAny M A (storeName env name v) Q E s := by
  rw [storeName_local hl hp]; exact nsSet_ready hn h
end
section
variable {w : World} {A : Around} {E : Value → Shared → Prop} {s : Shared} {env : Env} {outer : List Env} {L e dx T : Addr} {S : List Addr} {ctx : Value} {m mg : Str → Option Value} {Q : Flow → Shared → Prop}
  {n : Str} {b₀ : Stmt} {suite : List Stmt} {pos np : Pos} {rest : List ExceptHandler}
/-- «except LuaError as n» takes what it is handed -/
theorem caught_x (hfr : A.frames = some (env :: outer)) (hf : env.frame = some L) (hlL : env.locals = L) (hglo : env.globals = mainGlobals)
    (R : ∀ h', Kp [T] [] s.heap h' → Rdy (model PySem.Challenge.rw_rh0158_01.row.prog w) A (env :: outer) L S h') (heS : e ∉ S) (heL : e ≠ L) (hTL : T ≠ L) (x : Xc s.heap e dx T ctx .none)
    (N : s.heap.Ns L m) (G : s.heap.Ns mainGlobals mg) (hg : mg "LuaError" = some (.ref 66)) (hC : ∀ P, (hd.heap_39 P).lookup 66 = s.heap.get? 66) (g1 : e ≠ mainGlobals) (g2 : T ≠ mainGlobals) (g3 : e ≠ 66) (g4 : T ≠ 66) (g5 : 66 ∉ S)
    (k : ∀ h' tk T', s.heap.get? T' = none → Xc h' e dx T' ctx .none → Kp [e, T, L] S s.heap h' → h'.Ns L (fun y => if y = n then some (.ref e) else m y) → Ready h' L →
      wpAny (model PySem.Challenge.rw_rh0158_01.row.prog w) (A.mark (some (.ref e))) (execs (b₀ :: suite) env)
        (fun f s₄ => wpAny (model PySem.Challenge.rw_rh0158_01.row.prog w) A (do bindName env n .none; unbindBehindTheSuite env n pos) (fun _ s₅ => Q f s₅) E s₄)
        (AsSuiteRaised (model PySem.Challenge.rw_rh0158_01.row.prog w) (A.mark (some (.ref e))) env n pos (notedBy (model PySem.Challenge.rw_rh0158_01.row.prog w) (A.mark (some (.ref e))) env (cameBackBy (model PySem.Challenge.rw_rh0158_01.row.prog w) A env E)))
        { s with heap := h', toks := tk })
    (hk : env.scope.kind = .function := by rfl) (hx : env.kindOf "LuaError" = some .globalImplicit := by rfl) (hlo : env.kindOf n = some .local := by rfl) :
    wpAny (model PySem.Challenge.rw_rh0158_01.row.prog w) A (noteFrame (.ref e) env)
      (fun _ s₂ => wpAny (model PySem.Challenge.rw_rh0158_01.row.prog w) A (setFlight (.ref e) none) (fun _ s₃ =>
        wpAny (model PySem.Challenge.rw_rh0158_01.row.prog w) A (handleBy (.ref e) env (.ExceptHandler (some (.Name "LuaError" np)) (some n) (b₀ :: suite) pos :: rest)) Q E s₃) E s₂) E s := by
  refine note_x1 hfr hf R heS heL x fun h₁ T₁ hn₁ x₁ k₁ r₁ => ?_
  refine fly_x (s := { s with heap := h₁ }) x₁ fun h₂ x₂ k₂ => ?_
  dsimp only at k₂
  have fresh1 : ∀ b o, s.heap.get? b = some o → b ≠ T₁ := fun b o q z => by rw [z, hn₁] at q; cases q
  obtain ⟨oL, _, _, hoL, _⟩ := id N
  obtain ⟨oG, _, _, hoG, _⟩ := id G
  have hC66 := clsLuaError w.params
  rw [hC] at hC66
  have k2 : Kp [e, T, T₁] S s.heap h₂ := (k₁.mono (fun b q => by simp at q; rcases q with q | q <;> simp [q]) fun _ q => q).trans (k₂.mono (fun b q => by simp at q; simp [q]) fun _ q => nomatch q)
  have nx : ∀ {b o}, s.heap.get? b = some o → b ≠ e → b ≠ T → b ∉ [e, T, T₁] := fun {b o} q z1 z2 z => by
    simp only [List.mem_cons, List.not_mem_nil, or_false] at z
    rcases z with z | z | z
    · exact z1 z
    · exact z2 z
    · exact fresh1 b o q z
  have G₂ : h₂.Ns mainGlobals mg := k2.ns (nx hoG (Ne.symm g1) (Ne.symm g2)) G
  have N₂ : h₂.Ns L m := k2.ns (nx hoL (Ne.symm heL) (Ne.symm hTL)) N
  have C₂ := k2.get (nx hC66 (Ne.symm g3) (Ne.symm g4)) g5 hC66
  have r₂ : Ready h₂ L := r₁.kp k₂ (by simpa using fresh1 L oL hoL) (by simp)
  refine wpAny_handleBy_cons (codeAny_handlers_test (Name_function_global hk hx (loadGlobal_global (hglo ▸ G₂) hg ?_))) (by intro q; cases q)
  obtain ⟨fs, sl, oT, ts, he₂, r⟩ := id x₂
  refine wpAny_excMatches_sub_self C₂ he₂ rfl (by decide +kernel) (codeAny_handlers_suite_as ?_)
  refine fly_x (s := { s with heap := h₂ }) x₂ fun h₃ x₃ k₃ => ?_
  dsimp only at k₃
  have k3 : Kp [e, T, T₁] S s.heap h₃ := k2.trans (k₃.mono (fun b q => by simp at q; simp [q]) fun _ q => nomatch q)
  have N₃ : h₃.Ns L m := k₃.ns (by simpa using fresh1 L oL hoL) N₂
  have r₃ : Ready h₃ L := r₂.kp k₃ (by simpa using fresh1 L oL hoL) (by simp)
  subst hlL
  refine store_ready (s := { s with heap := h₃ }) hlo N₃ (fun h₄ N₄ sb r4 => ?_) (by rw [hk]; rfl)
  refine k h₄ _ T₁ hn₁ ?_ ?_ N₄ (r4 r₃)
  · obtain ⟨fs, sl, oT, ts, a1, a2, a3, a4, a5, a6, a7, a8⟩ := x₃
    exact ⟨fs, sl, oT, ts, (sb.2 e heL).trans a1, a2, a3, a4, a5, (sb.2 T₁ (Ne.symm (fresh1 _ oL hoL))).trans a6, a7, a8⟩
  · intro b o nb hb
    simp only [List.mem_cons, List.not_mem_nil, or_false, not_or] at nb
    obtain ⟨sl, e1, e2⟩ := k3 b o (nx hb nb.1 nb.2.1) hb
    exact ⟨sl, (sb.2 b nb.2.2).trans e1, e2⟩
end
end
section
open PySem PySem.W PyProof.Rows PySem.Calls PySem.Spec
set_option maxRecDepth 100000
abbrev tup3 (a b c : Int) (ta tb tc : Tok) : Obj := { cls := .type "tuple", data := .seq #[.int a ta, .int b tb, .int c tc] }
abbrev holderD (w : World) (t0 t1 t2 t3 t4 t5 t6 t7 : Tok) (vst vup van vov vfr vcc vhn vtop : Value) : Obj :=
  dictOf [⟨PyData.keyHash w.params "stack", .str "stack" t0, vst⟩, ⟨PyData.keyHash w.params "open_upvals", .str "open_upvals" t1, vup⟩, ⟨PyData.keyHash w.params "answers", .str "answers" t2, van⟩, ⟨PyData.keyHash w.params "is_over", .str "is_over" t3, vov⟩,
    ⟨PyData.keyHash w.params "frames", .str "frames" t4, vfr⟩, ⟨PyData.keyHash w.params "ccalls", .str "ccalls" t5, vcc⟩, ⟨PyData.keyHash w.params "handling", .str "handling" t6, vhn⟩, ⟨PyData.keyHash w.params "top", .str "top" t7, vtop⟩] 8
abbrev excD (x1 x2 x3 : Int) (t1 t2 t3 : Tok) (v : Value) (q : Addr) (b : Bool) : Obj := dictOf [⟨x1, .str "value" t1, v⟩, ⟨x2, .str "trace" t2, .ref q⟩, ⟨x3, .str "is_in_handler" t3, .bool b⟩] 3
def deeperAt (plan : List Int) (k : Nat) : Int := (plan ++ [0]).getD (min k plan.length) 0

theorem deep_eq {plan : List Int} {a n : Nat} (h : a = plan.length) : (plan ++ [0]).getD (if (a : Int) < ((n + 1 : Nat) : Int) - 1 then (a : Int) else ((n + 1 : Nat) : Int) - 1).toNat 0 = deeperAt plan n := by
  unfold deeperAt
  congr 1
  subst h
  split <;> omega
def AnsC (w : World) (fa q : Addr) (objs : List (Addr × Obj)) (plan : List Int) : Prop :=
  ∀ {pt : Program} {lo : List Str} {mean : ExcName → Option Value} {mg mb : Str → Option Value} {dp un : Nat} {gd : Option (List Code)} {cn : Str} {cs : Scope} {L a : Addr} {ccd : Value} {cl : List (Str × Addr)} {env₂ : Env} {rest : List Env} {A₀ : Around} {base h₀ : Heap} {m : Str → Option Value} {s : Shared} {Q E : Value → Shared → Prop}
    {x hx eh L₂ : Addr} {oh : Obj} {fh : Array Value} {items : Array Value} {c : Nat} {cc hn v : Int} {tcc thn tv t0 t1 t2 t3 t4 t5 t6 t7 : Tok} {vst vup van vov vfr vtop : Value},
    Below A₀ base (env₂ :: rest) h₀ → Fr h₀ L s.heap m → (hd.heap_39 w.params).In h₀ → Top pt lo mean mg mb h₀ → cs.kind = .function →
    env₂.frame = some L₂ → Ready h₀ L₂ → (∀ o ∈ objs, s.heap.get? o.1 = some o.2 ∧ o.1 ≠ L ∧ h₀.get? o.1 = none ∧ o.1 ≠ x ∧ o.1 ≠ hx ∧ o.1 ≠ q) →
    News h₀ L s.heap [(x, instObj 38 hx), (hx, holderD w t0 t1 t2 t3 t4 t5 t6 t7 vst vup van vov vfr (.int cc tcc) (.int hn thn) vtop), (q, listOf items c)] → x ≠ hx → x ≠ q → hx ≠ q →
    s.heap.get? eh = some oh → oh.data = .fields fh → fh[2]? = some .none →
    0 ≤ cc → cc ≤ 1000 → 0 ≤ hn → hn ≤ 1000 → 0 ≤ v → v ≤ 1000 → items.size ≤ 1000 → dp + 20 < recursionLimit → un + 40 < cLine →
    (deeperAt plan items.size = 0 → ∀ t ta tb tc c' tr h' tk', s.heap.get? t = none → Fr h₀ L h' m → (∀ b o, b ≠ q → s.heap.get? b = some o → h'.get? b = some o) → h'.get? q = some (listOf (items.push (.ref t)) c') → h'.get? t = some (tup3 cc hn v ta tb tc) →
      Q (.int (v + 100) tr) { s with heap := h', toks := tk' }) →
    (deeperAt plan items.size ≠ 0 → ∀ t ta tb tc c' e dx T r x1 x2 x3 s1 s2 s3 tv' tcc' h' tk', s.heap.get? t = none → s.heap.get? e = none → s.heap.get? dx = none → s.heap.get? T = none → e ≠ dx → T ≠ e → T ≠ dx → t ≠ e → t ≠ dx → T ≠ t →
      Fr h₀ L h' m → Kp [hx, q] [L] s.heap h' → h'.get? q = some (listOf (items.push (.ref t)) c') → h'.get? t = some (tup3 cc hn v ta tb tc) →
      h'.get? hx = some (holderD w t0 t1 t2 t3 t4 t5 t6 t7 vst vup van vov vfr (.int (cc + deeperAt plan items.size - 1) tcc') (.int hn thn) vtop) →
      Xc h' e dx T (.ref eh) .none → h'.get? dx = some (excD x1 x2 x3 s1 s2 s3 (.int (v + 1) tv') r false) → E (.ref e) { s with heap := h', toks := tk' }) →
    wpAny (model PySem.Challenge.rw_rh0158_01.row.prog w) (aTop (some (.ref eh)) dp un gd cn cs L a ccd cl (env₂ :: rest)) (call (.ref fa) [.ref x, .int v tv]) Q E s
end
section
open PySem PySem.W PyProof.Rows PySem.Calls PySem.Spec
set_option maxRecDepth 100000
/-- the chain of contexts that is being handled: one exception, or two -/
def HdL (h : Heap) : List Addr → Prop
  | [a] => ∃ o f, h.get? a = some o ∧ o.data = .fields f ∧ f[2]? = some .none
  | [a, b] => a ≠ b ∧ (∃ o f, h.get? a = some o ∧ o.data = .fields f ∧ f[2]? = some (.ref b)) ∧ ∃ o f, h.get? b = some o ∧ o.data = .fields f ∧ f[2]? = some .none
  | _ => False
abbrev Hd (h : Heap) (a : Addr) : Prop := HdL h [a]
theorem hd1 {h : Heap} {a : Addr} {o : Obj} {f : Array Value} (e : h.get? a = some o) (d : o.data = .fields f) (n : f[2]? = some .none) : Hd h a := ⟨o, f, e, d, n⟩
theorem HdL.keeps {h h' : Heap} {l : List Addr} (x : HdL h l) (k : ∀ a ∈ l, ∀ o, h.get? a = some o → h'.get? a = some o) : HdL h' l := by
  match l, x with
  | [a], ⟨o, f, e, r⟩ => exact ⟨o, f, k a (by simp) _ e, r⟩
  | [a, b], ⟨n, ⟨o, f, e, r⟩, ⟨o', f', e', r'⟩⟩ => exact ⟨n, ⟨o, f, k a (by simp) _ e, r⟩, ⟨o', f', k b (by simp) _ e', r'⟩⟩
theorem HdL.fr {h₀ h : Heap} {L : Addr} {m : Str → Option Value} {l : List Addr} (x : HdL h₀ l) (F : Fr h₀ L h m) : HdL h l := x.keeps fun _ _ o e => F.keep _ o e
theorem HdL.lt {h : Heap} {l : List Addr} (x : HdL h l) : ∀ a ∈ l, a < h.objs.size := by
  match l, x with
  | [a], ⟨o, f, e, r⟩ => intro b hb; rw [List.mem_singleton.mp hb]; exact Heap.lt_size e
  | [a, b], ⟨n, ⟨o, f, e, r⟩, ⟨o', f', e', r'⟩⟩ =>
    intro c hc
    rcases List.mem_cons.mp hc with rfl | hc
    · exact Heap.lt_size e
    · rw [List.mem_singleton.mp hc]; exact Heap.lt_size e'
section
variable {prog : Program} {w : World} {A : Around} {E : Value → Shared → Prop} {s : Shared}
theorem raiseNew_L {α : Type} {e eh : Addr} {l : List Addr} {oe : Obj} {fs : Array Value} {Q : α → Shared → Prop} (hh : A.handled = some (.ref eh)) (X : HdL s.heap (eh :: l)) (hne : ∀ a ∈ eh :: l, a ≠ e) (he : s.heap.get? e = some oe) (hd : oe.data = .fields fs) (hsz : 2 < fs.size)
    (h : E (.ref e) { s with heap := s.heap.update e (Obj.mapFields (·.setIfInBounds 2 (.ref eh))) }) : wpAny (model prog w) A (raiseNew (.ref e) : Sem α) Q E s := by
  have fin : wpAny (model prog w) A (do updateField e 2 (.ref eh); throw (.ref e) : Sem α) Q E s := by
    refine wpAny_bind ?_
    unfold updateField
    refine wpAny_bind (wpAny_load he ?_)
    rw [hd]
    dsimp only
    rw [if_pos hsz]
    refine wpAny_update he ?_
    exact wpAny_throw h
  unfold raiseNew
  refine wpAny_bind (wpAny_handled ?_)
  rw [hh]
  dsimp only
  rw [if_pos (show (Value.ref eh != Value.ref e) = true from by simpa using hne eh (.head _))]
  refine wpAny_bind (wpAny_holding (wpAny_runValue (codeAny_builtin entry_unchain ?_)))
  match l, X with
  | [], ⟨o, f, e1, e2, e3⟩ =>
    unfold Builtin.«proto.unchain»
    refine wpAny_bind (wpAny_field e1 e2 e3 ?_)
    rw [if_pos (by rfl)]
    exact wpAny_pure fin
  | [b], ⟨n, ⟨o, f, e1, e2, e3⟩, ⟨o', f', e1', e2', e3'⟩⟩ =>
    unfold Builtin.«proto.unchain»
    refine wpAny_bind (wpAny_field e1 e2 e3 ?_)
    rw [if_neg (by simp)]
    rw [if_neg (by simpa using hne b (.tail _ (.head _)))]
    rw [if_neg (by simpa using Ne.symm n)]
    refine wpAny_bind (wpAny_pure (wpAny_pure ⟨Code.quiet_builtin _ (by decide +kernel), codeAny_builtin entry_unchain ?_⟩))
    unfold Builtin.«proto.unchain»
    refine wpAny_bind (wpAny_field e1' e2' e3' ?_)
    rw [if_pos (by rfl)]
    exact wpAny_pure fin
theorem tuple_end_H {it t eh : Addr} {l : List Addr} {i : Nat} {items} {Q : Option Value → Shared → Prop} (hh : A.handled = some (.ref eh)) (X : HdL s.heap (eh :: l)) (hne : ∀ a ∈ eh :: l, a ≠ it)
    (hit : s.heap.IsTupleIter it t i) (ht : s.heap.IsTuple t items) (hx : items[i]? = none)
    (hQ : ∀ h', (∀ b o, b ≠ it → s.heap.get? b = some o → h'.get? b = some o) → Q none { s with heap := h' }) : wpAny (model prog w) A (pyNext (.ref it)) Q E s := by
  obtain ⟨o, ho, hc, hd⟩ := id hit
  obtain ⟨ol, hol, _, nl, hdl⟩ := ht
  unfold pyNext
  refine wpAny_bind (wpAny_attempt (wpAny_callSpecial?_slot (name := Str.ofString "__next__") hit.typeIs F.slot_tuple_iterator_next
    (wpAny_call_entry F.slot_tuple_iterator_next hit.typeIs F.entry_tuple_iterator_next ?_ (F.args_tuple_iterator_next_1 _))))
  show wpAny _ _ (field (.ref it) 0 >>= _) _ _ s
  refine wpAny_bind (wpAny_field ho hd (x := .ref t) rfl ?_)
  show wpAny _ _ (if (Value.ref t == Value.none) = true then _ else _) _ _ s
  rw [if_neg (show ¬ ((Value.ref t == Value.none) = true) from Bool.false_ne_true)]
  show wpAny _ _ (field (.ref it) 1 >>= _) _ _ s
  refine wpAny_bind (wpAny_field ho hd (x := .int i 0) rfl ?_)
  show wpAny _ _ (seqItems? (.ref t) >>= _) _ _ s
  refine wpAny_bind (wpAny_seqItems hol hdl ?_)
  simp only [Int.toNat_natCast, hx]
  refine wpAny_bind (wpAny_rule (wpAny_bind (wpAny_setField ho hd (by simp) ?_)))
  show wpAny _ _ (newExc (.type "StopIteration") [] >>= _) _ _ _
  refine wpAny_bind ?_
  simp only [newExc, newTuple]
  refine wpAny_bind (wpAny_newObj_type ?_ (by size_fits))
  refine wpAny_bind (m := firstArgMember _ _) (wpAny_of_eq (a := Value.none) (by first | rfl | (simp only [firstArgMember]; rfl)) ?_)
  refine wpAny_newObj_type ?_ (by size_fits)
  have k0 : ∀ b o', b ≠ it → s.heap.get? b = some o' → (s.heap.update it (Obj.mapFields (·.setIfInBounds 0 Value.none))).get? b = some o' := fun b o' n e => (Heap.get?_update_other _ _ (Ne.symm n)).trans e
  have kk : ∀ b o', b ≠ it → s.heap.get? b = some o' → (((s.heap.update it (Obj.mapFields (·.setIfInBounds 0 Value.none))).push { cls := .type "tuple", data := .seq ([] : List Value).toArray }).get? b = some o') := fun b o' n e => Heap.get?_push_of_some _ (k0 b o' n e)
  refine raiseNew_L (l := l) hh (X.keeps fun a ha o' e => Heap.get?_push_of_some _ (kk a o' (hne a ha) e)) (fun a ha => ?_) (Heap.get?_push_size _ rfl) rfl (by simp; omega) ?_
  · have z := X.lt a ha
    have e1 : (s.heap.update it (Obj.mapFields (·.setIfInBounds 0 Value.none))).objs.size = s.heap.objs.size := Heap.size_after_update ..
    rw [Heap.size_push, e1]
    exact Nat.ne_of_lt (Nat.lt_succ_of_lt z)
  refine wpAny_bind (wpAny_isInstance (T := "StopIteration") (b := true) ⟨_, Heap.get?_update_self _ (Heap.get?_push_size _ rfl) rfl, rfl⟩ isSubtype_stop ?_)
  refine wpAny_pure (hQ _ fun b o' n e => ?_)
  have z := Heap.get?_push_of_some { cls := .type "tuple", data := .seq ([] : List Value).toArray } (k0 _ _ n e)
  refine (Heap.get?_update_other _ _ ?_).trans (Heap.get?_push_of_some _ z)
  exact Nat.ne_of_gt (Heap.lt_size z)

theorem tuple_walks_H {eh : Addr} {l : List Addr} (hh : A.handled = some (.ref eh)) (I ax : Addr) (hne : ax ≠ I) (hne2 : ∀ a ∈ eh :: l, a ≠ I) (items : Array Value) :
    Walks prog w A I (I :: ax :: eh :: l) [I] items.size (fun i v => items[i]? = some v) (fun i h => (h.IsTupleIter I ax i ∧ h.IsTuple ax items) ∧ HdL h (eh :: l)) where
  sub := fun b hb => by simp at hb; simp [hb]
  frame := fun _ _ _ st hk => ⟨⟨st.1.1.at fun o e => hk I (by simp) o e, st.1.2.at fun o e => hk ax (by simp) o e⟩, st.2.keeps fun a ha o e => hk a (.tail _ (.tail _ ha)) o e⟩
  item := fun i s Q E hi st hQ => by
    refine wpAny_pyNext_tuple_item st.1.1 st.1.2 (x := items[i]) (by simp [hi]) fun h' hit' hs' => ?_
    exact hQ _ h' s.toks (by simp [hi]) ⟨⟨hit', st.1.2.extBut hs'.extBut hne⟩, st.2.keeps fun a ha o e => hs'.extBut a o (hne2 a ha) e⟩ fun b o hb e => hs'.extBut b o (fun h => hb (by simp [h])) e
  done := fun s Q E st hQ => tuple_end_H hh st.2 hne2 st.1.1 st.1.2 (by simp) fun h' he' => hQ h' s.toks fun b o hb e => he' b o (fun h => hb (by simp [h])) e
  self := fun _ _ _ _ st hQ => wpAny_pyIter_tupleiter st.1.1 hQ

theorem min_H {eh : Addr} {l : List Addr} {a b : Int} {t u : Tok} {Q : Value → Shared → Prop} (hh : A.handled = some (.ref eh)) (X : HdL s.heap (eh :: l))
    (h : ∀ h' tk, (∀ c o, s.heap.get? c = some o → h'.get? c = some o) → Q (if b < a then .int b u else .int a t) { s with heap := h', toks := tk }) :
    wpAny (model prog w) A (call (.builtin "min") [.int a t, .int b u]) Q E s := by
  have hT : (s.heap.push { cls := .type "tuple", data := .seq #[.int a t, .int b u] }).IsTuple s.heap.objs.size (intItems #[(a, t), (b, u)]) := ⟨_, Heap.get?_push_size _ rfl, rfl, 0, by simp [intItems]⟩
  refine call_min_two (wpAny_pyIter_tuple hT ?_)
  have hsz : (s.heap.push { cls := .type "tuple", data := .seq #[.int a t, .int b u] }).objs.size = s.heap.objs.size + 1 := Heap.size_push ..
  have hlt := X.lt
  refine ⟨_, _ :: s.heap.objs.size :: eh :: l, [_], _, _, _, _, rfl, tuple_walks_H (A := A.in1) hh _ s.heap.objs.size (by rw [hsz]; exact Nat.ne_of_lt (Nat.lt_succ_self _)) (fun a ha => by rw [hsz]; exact Nat.ne_of_lt (Nat.lt_succ_of_lt (hlt a ha))) (intItems #[(a, t), (b, u)]),
    ⟨⟨⟨_, Heap.get?_push_size _ rfl, rfl, rfl⟩, hT.push _⟩, X.keeps fun _ _ o e => Heap.get?_push_of_some _ (Heap.get?_push_of_some _ e)⟩, fun c hc => ?_, by simp [intItems], CmpOf.ints_lt (numAt #[(a, t), (b, u)]) (fun _ _ => intItems_at), fun v h' tk hP hk => ?_⟩
  · show c < ((s.heap.push _).push _).objs.size
    rw [Heap.size_push, hsz]
    rcases List.mem_cons.mp hc with rfl | hc
    · rw [hsz]; exact Nat.lt_succ_self _
    · rcases List.mem_cons.mp hc with rfl | hc
      · exact Nat.lt_succ_of_lt (Nat.lt_succ_self _)
      · exact Nat.lt_succ_of_lt (Nat.lt_succ_of_lt (hlt c hc))
  · have hold : ∀ c o, s.heap.get? c = some o → h'.get? c = some o := fun c o e => by
      refine hk c o (fun hm => ?_) (Heap.get?_push_of_some _ (Heap.get?_push_of_some _ e))
      rcases List.mem_cons.mp hm with e1 | hm
      · have := Heap.lt_size e; rw [e1, hsz] at this; exact Nat.lt_irrefl _ (Nat.lt_of_succ_lt this)
      · cases hm
    have := h h' tk hold
    have hv : v = if b < a then Value.int b u else Value.int a t := by
      have hP' : (intItems #[(a, t), (b, u)])[argBest (fun i j => decide (numAt #[(a, t), (b, u)] i < numAt #[(a, t), (b, u)] j)) 1]? = some v := by
        have hsz2 : (intItems #[(a, t), (b, u)]).size - 1 = 1 := by simp [intItems]
        rw [← hsz2]; exact hP
      by_cases hba : b < a
      · have e : argBest (fun i j => decide (numAt #[(a, t), (b, u)] i < numAt #[(a, t), (b, u)] j)) 1 = 1 := by simp [argBest, numAt, hba]
        rw [e] at hP'
        simpa [intItems, hba] using hP'.symm
      · have e : argBest (fun i j => decide (numAt #[(a, t), (b, u)] i < numAt #[(a, t), (b, u)] j)) 1 = 0 := by simp [argBest, numAt, hba]
        rw [e] at hP'
        simpa [intItems, hba] using hP'.symm
    rw [hv]; exact this

theorem max_H {eh : Addr} {l : List Addr} {a b : Int} {t u : Tok} {Q : Value → Shared → Prop} (hh : A.handled = some (.ref eh)) (X : HdL s.heap (eh :: l))
    (h : ∀ h' tk, (∀ c o, s.heap.get? c = some o → h'.get? c = some o) → Q (if b > a then .int b u else .int a t) { s with heap := h', toks := tk }) :
    wpAny (model prog w) A (call (.builtin "max") [.int a t, .int b u]) Q E s := by
  have hT : (s.heap.push { cls := .type "tuple", data := .seq #[.int a t, .int b u] }).IsTuple s.heap.objs.size (intItems #[(a, t), (b, u)]) := ⟨_, Heap.get?_push_size _ rfl, rfl, 0, by simp [intItems]⟩
  refine call_max_two (wpAny_pyIter_tuple hT ?_)
  have hsz : (s.heap.push { cls := .type "tuple", data := .seq #[.int a t, .int b u] }).objs.size = s.heap.objs.size + 1 := Heap.size_push ..
  have hlt := X.lt
  refine ⟨_, _ :: s.heap.objs.size :: eh :: l, [_], _, _, _, _, rfl, tuple_walks_H (A := A.in1) hh _ s.heap.objs.size (by rw [hsz]; exact Nat.ne_of_lt (Nat.lt_succ_self _)) (fun a ha => by rw [hsz]; exact Nat.ne_of_lt (Nat.lt_succ_of_lt (hlt a ha))) (intItems #[(a, t), (b, u)]),
    ⟨⟨⟨_, Heap.get?_push_size _ rfl, rfl, rfl⟩, hT.push _⟩, X.keeps fun _ _ o e => Heap.get?_push_of_some _ (Heap.get?_push_of_some _ e)⟩, fun c hc => ?_, by simp [intItems], CmpOf.ints_gt (numAt #[(a, t), (b, u)]) (fun _ _ => intItems_at), fun v h' tk hP hk => ?_⟩
  · show c < ((s.heap.push _).push _).objs.size
    rw [Heap.size_push, hsz]
    rcases List.mem_cons.mp hc with rfl | hc
    · rw [hsz]; exact Nat.lt_succ_self _
    · rcases List.mem_cons.mp hc with rfl | hc
      · exact Nat.lt_succ_of_lt (Nat.lt_succ_self _)
      · exact Nat.lt_succ_of_lt (Nat.lt_succ_of_lt (hlt c hc))
  · have hold : ∀ c o, s.heap.get? c = some o → h'.get? c = some o := fun c o e => by
      refine hk c o (fun hm => ?_) (Heap.get?_push_of_some _ (Heap.get?_push_of_some _ e))
      rcases List.mem_cons.mp hm with e1 | hm
      · have := Heap.lt_size e; rw [e1, hsz] at this; exact Nat.lt_irrefl _ (Nat.lt_of_succ_lt this)
      · cases hm
    have := h h' tk hold
    have hv : v = if b > a then Value.int b u else Value.int a t := by
      have hP' : (intItems #[(a, t), (b, u)])[argBest (fun i j => decide (numAt #[(a, t), (b, u)] i > numAt #[(a, t), (b, u)] j)) 1]? = some v := by
        have hsz2 : (intItems #[(a, t), (b, u)]).size - 1 = 1 := by simp [intItems]
        rw [← hsz2]; exact hP
      by_cases hba : b > a
      · have e : argBest (fun i j => decide (numAt #[(a, t), (b, u)] i > numAt #[(a, t), (b, u)] j)) 1 = 1 := by simp [argBest, numAt, hba]
        rw [e] at hP'
        simpa [intItems, hba] using hP'.symm
      · have e : argBest (fun i j => decide (numAt #[(a, t), (b, u)] i > numAt #[(a, t), (b, u)] j)) 1 = 0 := by simp [argBest, numAt, hba]
        rw [e] at hP'
        simpa [intItems, hba] using hP'.symm
    rw [hv]; exact this
theorem unpackItems_H {t eh : Addr} {l : List Addr} {items : Array Value} {Q : List Value → Shared → Prop} (hh : A.handled = some (.ref eh)) (X : HdL s.heap (eh :: l)) (ht : s.heap.IsTuple t items)
    (hQ : ∀ h', (∀ b o, s.heap.get? b = some o → h'.get? b = some o) → Q items.toList { s with heap := h' }) : wpAny (model prog w) A (unpackItems (.ref t) items.size none) Q E s := by
  have hlt : t ≠ s.heap.objs.size := by obtain ⟨o, ho, _⟩ := ht; exact Nat.ne_of_lt (Heap.lt_size ho)
  have hle : ∀ a ∈ eh :: l, a ≠ s.heap.objs.size := fun a ha => Nat.ne_of_lt (X.lt a ha)
  have old : ∀ {b o}, s.heap.get? b = some o → b ≠ s.heap.objs.size := fun e => Nat.ne_of_lt (Heap.lt_size e)
  unfold unpackItems notIterableAtAll
  refine wpAny_bind (wpAny_bind (wpAny_specialOf ht.typeIs F.slot_tuple_iter.lookup (wpAny_pure ?_)))
  simp only [Bool.false_eq_true, if_false]
  refine wpAny_bind (wpAny_holding (wpAny_pyIter_tuple ht ?_))
  refine wpAny_bind (wpAny_holding (wpAny_draw_tuple hlt items.size 0 _ _ ⟨_, Heap.get?_push_size _ rfl, rfl, rfl⟩ (ht.push _) (by omega) fun h₁ hit₁ hs₁ => ?_))
  have hall : List.take items.size (List.drop 0 items.toList) = items.toList := by
    rw [List.drop_zero]; exact List.take_of_length_le (by simp)
  rw [hall, if_neg (by simp)]
  have k1 : ∀ b o, s.heap.get? b = some o → h₁.get? b = some o := fun b o e => hs₁.extBut b o (old e) (Heap.get?_push_of_some _ e)
  refine wpAny_bind (wpAny_holding (tuple_end_H hh (X.keeps fun a _ o e => k1 a o e) hle hit₁ ((ht.push _).extBut hs₁.extBut hlt) (by simp) fun h₂ he₂ => ?_))
  simp only [Option.isSome_none, Bool.false_eq_true, if_false]
  exact wpAny_pure (hQ h₂ fun b o e => he₂ b o (old e) (k1 b o e))
theorem unpack_HN {elts : List Expr} {k : Nat} {pos : Pos} {env : Env} {t eh L : Addr} {l : List Addr} {items : Array Value} {h₀ : Heap} {m : Str → Option Value} {news : List (Addr × Obj)} {Q : Unit → Shared → Prop} (hh : A.handled = some (.ref eh)) (X : HdL s.heap (eh :: l)) (F : Fr h₀ L s.heap m) (N : News h₀ L s.heap news) (ht : s.heap.IsTuple t items)
    (hn : (assignEach elts env).length = items.size) (hstar : (assignEach elts env).findIdx? (·.1) = none)
    (h : ∀ h', Fr h₀ L h' m → News h₀ L h' news → wpAny (model prog w) A (assignInOrder ((assignEach elts env).map (·.2)) items.toList) Q E { s with heap := h' }) :
    wpAny (model prog w) A (assign (.Tuple elts k pos) env (.ref t)) Q E s := by
  rw [arm_assign_Tuple]
  refine wpAny_bind (wpAny_standAt ?_)
  unfold unpack
  rw [hn, hstar]
  exact wpAny_bind (wpAny_holding (unpackItems_H hh X ht fun h' k => h h' (F.keeps k) (newsKeep N k)))
theorem items_HN {n : Nat} {t eh L : Addr} {l : List Addr} {items : Array Value} {h₀ : Heap} {m : Str → Option Value} {news : List (Addr × Obj)} {Q : List Value → Shared → Prop} (hh : A.handled = some (.ref eh)) (X : HdL s.heap (eh :: l)) (F : Fr h₀ L s.heap m) (N : News h₀ L s.heap news) (ht : s.heap.IsTuple t items) (hn : n = items.size)
    (h : ∀ h', Fr h₀ L h' m → News h₀ L h' news → Q items.toList { s with heap := h' }) : wpAny (model prog w) A (unpackItems (.ref t) n none) Q E s := by
  subst hn
  exact unpackItems_H hh X ht fun h' k => h h' (F.keeps k) (newsKeep N k)
theorem min_HN {eh L : Addr} {l : List Addr} {a b : Int} {t u : Tok} {h₀ : Heap} {m : Str → Option Value} {news : List (Addr × Obj)} {Q : Value → Shared → Prop} (hh : A.handled = some (.ref eh)) (X : HdL h₀ (eh :: l)) (F : Fr h₀ L s.heap m) (N : News h₀ L s.heap news)
    (h : ∀ h' tk, Fr h₀ L h' m → News h₀ L h' news → Q (.int (if b < a then b else a) (if b < a then u else t)) { s with heap := h', toks := tk }) :
    wpAny (model prog w) A (call (.builtin "min") [.int a t, .int b u]) Q E s :=
  min_H hh (X.keeps fun _ _ o e => F.keep _ o e) fun h' tk k => by
    have z := h h' tk (F.keeps k) (newsKeep N k)
    by_cases c : b < a
    · simpa only [if_pos c] using z
    · simpa only [if_neg c] using z
theorem max_HN {eh L : Addr} {l : List Addr} {a b : Int} {t u : Tok} {h₀ : Heap} {m : Str → Option Value} {news : List (Addr × Obj)} {Q : Value → Shared → Prop} (hh : A.handled = some (.ref eh)) (X : HdL s.heap (eh :: l)) (F : Fr h₀ L s.heap m) (N : News h₀ L s.heap news)
    (h : ∀ h' tk, Fr h₀ L h' m → News h₀ L h' news → Q (.int (if b > a then b else a) (if b > a then u else t)) { s with heap := h', toks := tk }) :
    wpAny (model prog w) A (call (.builtin "max") [.int a t, .int b u]) Q E s :=
  max_H hh X fun h' tk k => by
    have z := h h' tk (F.keeps k) (newsKeep N k)
    by_cases c : b > a
    · simpa only [if_pos c] using z
    · simpa only [if_neg c] using z
end
end
section
open PySem PySem.W PyProof.Rows PySem.Calls PySem.Spec
set_option maxRecDepth 100000
/-- the frames of a callee and its caller, the caller's caller being ready -/
theorem rdy_two {M : Model} {A : Around} {env₁ env env₂ : Env} {rest : List Env} {L' L L₂ : Addr} {h : Heap} {o o' : Obj} (f1 : env₁.frame = some L') (f : env.frame = some L) (f2 : env₂.frame = some L₂) (k1 : env₁.scope.kind = .function) (k : env.scope.kind = .function)
    (h1 : h.get? L' = some o') (h2 : h.get? L = some o) (n : L' ≠ L) (n2 : L' ≠ L₂) (n3 : L ≠ L₂) (r : Ready h L₂) : Rdy M A (env₁ :: env :: env₂ :: rest) L' [L', L] h := by
  refine rdy_head f1 h1 (by rw [k1]; decide) (by simpa using n) fun ha sa => ?_
  obtain ⟨sl, e⟩ := sa.2.2 L o h2
  refine (rdy_head (S' := []) f e (by rw [k]; decide) (by simp) fun hb sb => ?_).plain
  refine rdy_stop f2 ?_
  obtain ⟨o2, e2, r2⟩ := r
  exact ⟨o2, (sb.2.1 L₂ (by simpa using Ne.symm n3)).trans ((sa.2.1 L₂ (by simpa using Ne.symm n2)).trans e2), r2⟩

theorem ans_end {w : World} {A : Around} {env₁ env env₂ : Env} {rest : List Env} {h₀ g h : Heap} {s : Shared} {L L' L₂ hx q e d t eh : Addr} {m m' : Str → Option Value} {E : Value → Shared → Prop} {R : Result → Shared → Prop} {old news : List (Addr × Obj)} {od : Obj} {ft : Addr} {K : Frag} {oh : Obj} {fh : Array Value}
   {gens drawn tk os} {otup ohx oq : Obj}
   (FG : Fr h₀ L g m) (FE : Fr g L' h m') (NE : News g L' h ((e, ⟨.ref 66, some d, .fields #[.ref ft, .none, .none, .none, .bool false, .none], #[]⟩) :: (d, od) :: news)) (X : K.In g)
   (hkeep : ∀ b o, s.heap.get? b = some o → b ∉ old.map (·.1) → g.get? b = some o) (N : News h₀ L s.heap old) (sub : ∀ p ∈ old, p.1 ∉ [hx, q] → p ∈ news)
   (hno : ∀ b, b ∈ [e, d, t] → b ∉ old.map (·.1)) (hlt : ∀ p ∈ old, p.1 < L')
   (ht : (t, otup) ∈ news) (hhx : (hx, ohx) ∈ news) (hq : (q, oq) ∈ news) (hfl : e ≠ d ∧ t ≠ e ∧ t ≠ d ∧ hx ≠ e ∧ q ≠ e)
   (heh : g.get? eh = some oh) (hehd : oh.data = .fields fh) (heh2 : fh[2]? = some .none)
   (hA : A.frames = some (env₁ :: env :: env₂ :: rest)) (f1 : env₁.frame = some L') (f : env.frame = some L) (f2 : env₂.frame = some L₂) (k1 : env₁.scope.kind = .function) (k : env.scope.kind = .function) (hrd : Ready h₀ L₂)
   (hR : ∀ e s', E e s' → R (.error e) s')
   (fin : ∀ T h', s.heap.get? t = none → s.heap.get? e = none → s.heap.get? d = none → s.heap.get? T = none → e ≠ d → T ≠ e → T ≠ d → t ≠ e → t ≠ d → T ≠ t → Fr h₀ L h' m → Kp [hx, q] [L] s.heap h' →
     h'.get? q = some oq → h'.get? t = some otup → h'.get? hx = some ohx → Xc h' e d T (.ref eh) .none → h'.get? d = some od → E (.ref e) ⟨h', gens, drawn, tk, os⟩) :
   RaiseS K eh (fun e s' => wpAny (model PySem.Challenge.rw_rh0158_01.row.prog w) A (leaving env₁ e) (fun _ s'' => R (.error e) s'') (fun e' s'' => R (.error e') s'') s') (.ref e) ⟨h, gens, drawn, tk, os⟩ := by
  obtain ⟨n1, n2, n3, n4, n5⟩ := hfl
  have he := (NE _ (.head _)).1
  have hd := (NE _ (.tail _ (.head _))).1
  have htt := (NE _ (.tail _ (.tail _ ht))).1
  have hhh := (NE _ (.tail _ (.tail _ hhx))).1
  have hqq := (NE _ (.tail _ (.tail _ hq))).1
  dsimp only at he hd htt hhh hqq
  have fe : s.heap.get? e = none := freshOf hkeep (NE _ (.head _)).2.2 (hno _ (by simp))
  have fd : s.heap.get? d = none := freshOf hkeep (NE _ (.tail _ (.head _))).2.2 (hno _ (by simp))
  have ft' : s.heap.get? t = none := freshOf hkeep (NE _ (.tail _ (.tail _ ht))).2.2 (hno _ (by simp))
  have fL' : s.heap.get? L' = none := freshOf hkeep (frNone FE) fun hm => by
    obtain ⟨p, hp, e⟩ := List.mem_map.mp hm
    exact absurd (hlt p hp) (by rw [e]; exact Nat.lt_irrefl _)
  have hne : eh ≠ e := fun z => by
    have := (NE _ (.head _)).2.2
    dsimp only at this
    rw [← z, heh] at this; cases this
  refine ⟨e, d, _, _, oh, fh, rfl, X.keeps FE.keep, he, rfl, by simp, hne, FE.keep _ _ heh, hehd, heh2, ?_⟩
  have kR : Kp [e] [] h (h.update e (Obj.mapFields (·.setIfInBounds 2 (.ref eh)))) := Kp.update e _
  have heR : (h.update e (Obj.mapFields (·.setIfInBounds 2 (.ref eh)))).get? e = some (⟨.ref 66, some d, .fields #[.ref ft, .none, .ref eh, .none, .bool false, .none], #[]⟩ : Obj) := (Heap.get?_update_self _ he rfl)
  obtain ⟨oL, _, _, hoL, _⟩ := id FG.ns
  obtain ⟨oL', _, _, hoL', _⟩ := id FE.ns
  have hLL' : L' ≠ L := fun z => by have := frNone FE; rw [z, hoL] at this; cases this
  have heL : e ≠ L := fun z => by
    have := (NE _ (.head _)).2.2
    dsimp only at this
    rw [z, hoL] at this; cases this
  have heL' : e ≠ L' := (NE _ (.head _)).2.1
  obtain ⟨o2, ho2, hr2⟩ := id hrd
  have hL2 : L ≠ L₂ := fun z => by have := frNone FG; rw [z, ho2] at this; cases this
  have hL2' : L' ≠ L₂ := fun z => by have := frNone FE; rw [z, FG.keep _ _ ho2] at this; cases this
  have he2 : e ≠ L₂ := fun z => by
    have := (NE _ (.head _)).2.2
    dsimp only at this
    rw [z, FG.keep _ _ ho2] at this; cases this
  have rdR : Ready (h.update e (Obj.mapFields (·.setIfInBounds 2 (.ref eh)))) L₂ := ⟨o2, kR.get (by simpa using Ne.symm he2) (by simp) (FE.keep _ _ (FG.keep _ _ ho2)), hr2⟩
  refine leave_x0 (L := L') (S := [L', L]) hA f1 (rdy_two f1 f f2 k1 k (kR.get (by simpa using Ne.symm heL') (by simp) hoL') (kR.get (by simpa using Ne.symm heL) (by simp) (FE.keep _ _ hoL)) hLL' hL2' hL2 rdR) (by simp [heL, heL']) heL' heR (by simp) rfl rfl fun h' T hT hx' hk => hR _ _ ?_
  have k2 : Kp [e] [L', L] h h' := (kR.mono (fun _ q => q) fun _ q => nomatch q).trans hk
  have k1' : Kp [hx, q] [] s.heap h := Kp.of_keep (keepOf N NE hkeep FE.keep fun p hp hn => .tail _ (.tail _ (sub p hp hn)))
  have fT : s.heap.get? T = none := by
    cases z : s.heap.get? T with
    | none => rfl
    | some o =>
      have hTe : T ≠ e := fun w => by rw [w, fe] at z; cases z
      by_cases hm : T ∈ [hx, q]
      · simp only [List.mem_cons, List.not_mem_nil, or_false] at hm
        rcases hm with rfl | rfl
        · have := kR.get (b := T) (by simpa using hTe) (by simp) hhh; rw [hT] at this; cases this
        · have := kR.get (b := T) (by simpa using hTe) (by simp) hqq; rw [hT] at this; cases this
      · obtain ⟨sl, z', _⟩ := k1' T o hm z
        have := kR.get (b := T) (by simpa using hTe) (by simp) z'; rw [hT] at this; cases this
  have aT : ∀ {b o}, h.get? b = some o → b ≠ e → T ≠ b := fun {b o} z n w => by
    have := kR.get (b := b) (by simpa using n) (by simp) z
    rw [← w, hT] at this; cases this
  have nL : ∀ {b o}, (b, o) ∈ news → b ≠ L' ∧ b ≠ L := fun {b o} hb => by
    have z := NE _ (.tail _ (.tail _ hb))
    refine ⟨z.2.1, fun w => ?_⟩
    have := z.2.2
    dsimp only at this
    rw [w, hoL] at this; cases this
  have get2 : ∀ {b o}, h.get? b = some o → b ≠ e → b ≠ L' → b ≠ L → h'.get? b = some o := fun {b o} z a1 a2 a3 => k2.get (by simpa using a1) (by simp [a2, a3]) z
  refine fin T h' ft' fe fd fT n1 (by obtain ⟨_, _, _, _, _, _, _, _, z, _⟩ := hx'; exact z) (aT hd (Ne.symm n1)) n2 n3 (aT htt n2) (frKp (frBack FG FE) k2 (by simpa using Ne.symm heL) (fun b hb => ?_) fun b hb => ?_) ?_
    (get2 hqq n5 (nL hq).1 (nL hq).2) (get2 htt n2 (nL ht).1 (nL ht).2) (get2 hhh n4 (nL hhx).1 (nL hhx).2) hx' (get2 hd (Ne.symm n1) ?_ ?_)
  · rw [List.mem_singleton.mp hb]; exact freshSub FG.keep (NE _ (.head _)).2.2
  · rcases List.mem_cons.mp hb with rfl | hb
    · exact freshSub FG.keep (frNone FE)
    · rw [List.mem_singleton.mp hb]; exact frNone FG
  · have k3 : Kp [hx, q, e] [L', L] s.heap h' := (k1'.mono (fun b z => by simp at z; rcases z with z | z <;> simp [z]) fun _ z => nomatch z).trans (k2.mono (fun b z => by simp at z; simp [z]) fun _ z => z)
    exact (k3.drop fun b hb => by
      simp only [List.mem_cons, List.not_mem_nil, or_false] at hb
      rcases hb with rfl | rfl | rfl
      · exact .inl (by simp)
      · exact .inl (by simp)
      · exact .inr fe).dropS fun b hb => by
      rcases List.mem_cons.mp hb with rfl | hb
      · exact .inr fL'
      · exact .inl hb
  · exact (NE _ (.tail _ (.head _))).2.1
  · intro z
    have := (NE _ (.tail _ (.head _))).2.2
    dsimp only at this
    rw [z, hoL] at this; cases this
end
section
open PySem PySem.W PyProof.Rows PySem.Calls PySem.Spec
set_option maxRecDepth 100000
local macro_rules | `(tactic| walk_at "setAttr ref") => `(tactic| (k_here; refine stop ?_))
local macro_rules | `(tactic| walk_at "call ref") => `(tactic| (k_here; (with_reducible show wpAny _ _ (call (Value.ref 66) _) _ _ _); refine stop ?_))
abbrev eieB : Array UInt8 := #[101, 114, 114, 111, 114, 32, 105, 110, 32, 101, 114, 114, 111, 114, 32, 104, 97, 110, 100, 108, 105, 110, 103]
set_option maxHeartbeats 8000000 in
theorem eie_spec {w : World} {pt : Program} {lo : List Str} {mean : ExcName → Option Value} {mg mb : Str → Option Value} {hdl : Option Value} {dp un : Nat} {gd : Option (List Code)} {cn : Str} {cs : Scope} {L a : Addr} {ccd : Value} {cl : List (Str × Addr)} {outer : List Env} {A₀ : Around} {base h₀ : Heap} {m : Str → Option Value} {s : Shared} {Q E : Value → Shared → Prop}
   (B : Below A₀ base outer h₀) (F : Fr h₀ L s.heap m) (X : (hd.heap_39 w.params).In h₀) (T : Top pt lo mean mg mb h₀) (hk : cs.kind = .function)
   (hd : dp + 20 < recursionLimit) (hu : un + 40 < cLine)
   (ret : ∀ e dx t q x1 x2 x3 t1 t2 t3 tb h' tk', s.heap.get? e = none → s.heap.get? dx = none → e ≠ dx → Fr h₀ L h' m → (∀ b o, s.heap.get? b = some o → h'.get? b = some o) →
     h'.get? e = some ⟨.ref 66, some dx, .fields #[.ref t, .none, .none, .none, .bool false, .none], #[]⟩ →
     h'.get? dx = some (excD x1 x2 x3 t1 t2 t3 (.bytes eieB tb) q true) → Q (.ref e) { s with heap := h', toks := tk' }) :
   wpAny (model PySem.Challenge.rw_rh0158_01.row.prog w) (aTop hdl dp un gd cn cs L a ccd cl outer) (call (.ref 83) []) Q E s := by
  w_top off; revert X; k_fill; intro X
  have N : News h₀ L s.heap [] := News.nil
  refine wpAny_call ?_
  k_dflt (refine' callF B F X N T rfl rfl hk (getK X F.keep (by k_is)) rfl (codeK X F.keep (by k_is)) ?k8 ?k9 ?kB ?_ ?c5; (case k8 => ktr_room); (case k9 => exact BindsTo.of_eq rfl); (case c5 => decide); (case kB => exact locs rfl); intro g' L' h' FG' F' N' B' X' T' hkeep hback hlt; (try dsimp only); (try k_fold))
  k_steps
  unfold Stop
  k_dflt (refine' luaerr_spec ?B ?F ?X ?T ?k ?d ?u ?_; (case B => k_asm); (case F => k_asm); (case X => k_asm); (case T => k_asm); (case k => first | rfl | assumption); (case d => ktr_room); (case u => ktr_units); (rename News _ _ _ _ => lN₉); (rename Fr _ _ _ _ => lF₉); intro e₉ d₉ t₉ q₉ x1₉ x2₉ x3₉ s1₉ s2₉ s3₉ h₉ tk₉ n1₉ n2₉ n3₉ F₉ K₉ y1₉ y2₉; (replace n3₉ := neN n3₉); (have N₉ := newsAdd (newsAdd (newsKeep lN₉ K₉) lF₉ n2₉ y2₉) lF₉ n1₉ y1₉); clear lN₉ lF₉; (try dsimp only at N₉))
  k_steps
  unfold Stop
  k_dflt (refine' set_exc1 ?F ?X ?N ?I ?hd ?hs ?hc ?hne ?hob ?hh ?hp ?ht ?hl ?e ?U ?hz ?_; (case F => k_asm); (case X => k_asm); (case N => k_asm); (case I => refine' instE ?N ?h1 ?h2; (case N => k_asm); (case h1 => k_mem); (case h2 => k_mem)); (case hd => rfl); (case hs => k_is); (case hc => k_is); (case hne => rfl); (case hob => decide +kernel); (case hh => rfl); (case hp => exact (refuseLoop_ref _ _ _ _).trans (PySem.F.store_Exception.passes _)); (case ht => k_is); (case hl => k_get); (case e => k_put); (case U => k_upd); (case hz => simp only [List.length_cons, List.length_nil]; omega); k_whole; intro h₉ F₉ N₉; (try k_sweep))
  k_steps
  rename Fr g' _ _ _ => FE
  rename News g' _ _ _ => NE
  rename @Ne Nat _ _ => hne
  exact ret _ _ _ _ _ _ _ _ _ _ _ _ _ (freshOf hkeep (NE _ (.head _)).2.2 (by simp)) (freshOf hkeep (NE _ (.tail _ (.head _))).2.2 (by simp)) hne (frBack FG' FE) (fun b o q => FE.keep b o (hkeep b o q (by simp))) (NE _ (.head _)).1 (NE _ (.tail _ (.head _))).1
end
section
open PySem PySem.W PyProof.Rows PySem.Calls PySem.Spec
set_option maxRecDepth 100000
/-- what is asked, and the answer: by the law's own reckoning -/
noncomputable def run (plan : List Int) (most : Int) : Nat → Nat → Int → List (Int × Int × Int) × Option Int
  | 0, _, _ => ([], none)
  | f + 1, k, depth => if depth < most then (if deeperAt plan k = 0 then ([(depth, (k : Int) + 1, (k : Int))], some ((k : Int) + 100))
      else ((depth, (k : Int) + 1, (k : Int)) :: (run plan most f (k + 1) (depth + max (deeperAt plan k - 1) 1)).1, (run plan most f (k + 1) (depth + max (deeperAt plan k - 1) 1)).2)) else ([], none)
theorem run_stop {plan : List Int} {most depth : Int} {f k : Nat} (h : ¬ depth < most) : run plan most f k depth = ([], none) := by
  cases f with
  | zero => rfl
  | succ f => unfold run; rw [if_neg h]
theorem run_zero {plan : List Int} {most depth : Int} {f k : Nat} (h : depth < most) (z : deeperAt plan k = 0) : run plan most (f + 1) k depth = ([(depth, (k : Int) + 1, (k : Int))], some ((k : Int) + 100)) := by
  unfold run; rw [if_pos h, if_pos z]
theorem run_more {plan : List Int} {most depth : Int} {f k : Nat} (h : depth < most) (z : deeperAt plan k ≠ 0) : run plan most (f + 1) k depth = ((depth, (k : Int) + 1, (k : Int)) :: (run plan most f (k + 1) (depth + max (deeperAt plan k - 1) 1)).1, (run plan most f (k + 1) (depth + max (deeperAt plan k - 1) 1)).2) := by
  conv => lhs; unfold run
  rw [if_pos h, if_neg z]
/-- the list's items stand for the entries -/
noncomputable def Rep (tups : List (Addr × Obj)) : List Value → List (Int × Int × Int) → Prop
  | [], [] => True
  | v :: vs, e :: es => (∃ a ta tb tc, v = .ref a ∧ (a, tup3 e.1 e.2.1 e.2.2 ta tb tc) ∈ tups) ∧ Rep tups vs es
  | _, _ => False
theorem Rep.mono {tups tups' : List (Addr × Obj)} (h : ∀ p ∈ tups, p ∈ tups') : ∀ {vs es}, Rep tups vs es → Rep tups' vs es
  | [], [], _ => trivial
  | _ :: _, _ :: _, ⟨⟨a, ta, tb, tc, e, m⟩, r⟩ => ⟨⟨a, ta, tb, tc, e, h _ m⟩, r.mono h⟩
theorem Rep.push {tups : List (Addr × Obj)} {e : Int × Int × Int} {a : Addr} {ta tb tc : Tok} (m : (a, tup3 e.1 e.2.1 e.2.2 ta tb tc) ∈ tups) : ∀ {vs es}, Rep tups vs es → Rep tups (vs ++ [.ref a]) (es ++ [e])
  | [], [], _ => ⟨⟨a, ta, tb, tc, rfl, m⟩, trivial⟩
  | _ :: _, _ :: _, ⟨x, r⟩ => ⟨x, r.push m⟩
theorem Rep.length {tups : List (Addr × Obj)} : ∀ {vs es}, Rep tups vs es → vs.length = es.length
  | [], [], _ => rfl
  | _ :: _, _ :: _, ⟨_, r⟩ => congrArg (· + 1) r.length
/-- a while by an invariant over the state -/
def LoopEnd (I : Nat → Shared → Prop) (n : Nat) (Q : Flow → Shared → Prop) (f : Flow) (s : Shared) : Prop := match f with
  | .next | .cont => ∃ n', n' < n ∧ I n' s
  | .brk => Q .next s
  | .ret v => Q (.ret v) s
section
variable {prog : Program} {w : World} {A : Around} {E : Value → Shared → Prop} {Q : Flow → Shared → Prop} {s : Shared} {env : Env}
theorem while_I {test : Expr} {body : List Stmt} {pos : Pos} (I : Nat → Shared → Prop) {n₀ : Nat} (h₀ : I n₀ s)
    (turn : ∀ n s', I n s' → wpAny (model prog w) A (isTrue test env (eval test env)) (fun b s₂ =>
        if b = true then wpAny (model prog w) A (execs body env) (LoopEnd I n Q) E s₂ else Q .next s₂) E s')
    (hE : PassesOwn (model prog w) A env E := by passes_own) :
    wpAny (model prog w) A (exec (.While test body [] pos) env) Q E s := by
  refine wpAny_While (codeAny_whileLoop I ?_ n₀ h₀)
  intro n s' hI
  refine wpAny_mono (turn n s' hI) (fun b s₂ h₂ => ?_) hE
  cases b with
  | false =>
    simp only [Bool.false_eq_true, if_false] at h₂ ⊢
    exact wpAny_execs_nil h₂
  | true =>
    simp only [if_true] at h₂ ⊢
    refine wpAny_mono h₂ (fun f s₃ h₃ => ?_) hE
    cases f <;> exact h₃
end
theorem deeper_bounds {plan : List Int} (h : ∀ d ∈ plan, 0 ≤ d ∧ d ≤ 10) (k : Nat) : 0 ≤ deeperAt plan k ∧ deeperAt plan k ≤ 10 := by
  unfold deeperAt
  rw [List.getD_eq_getElem?_getD]
  cases q : (plan ++ [0])[min k plan.length]? with
  | none => simp
  | some d =>
    have := List.mem_of_getElem? q
    simp only [List.mem_append, List.mem_singleton] at this
    rcases this with z | rfl
    · exact h d z
    · simp
/-- the head of the turn in handled -/
def HI (w : World) (g : Heap) (L' : Addr) (s : Shared) (m₀ : Str → Option Value) (x hx q th : Addr) (tup : Obj) (hD : Value → Value → Obj) (tail₀ : List (Addr × Obj)) (plan : List Int) (most cc₀ : Int) (n : Nat) (s' : Shared) : Prop :=
  ∃ (h : Heap) (tk : Nat) (m₁ : Str → Option Value) (k : Nat) (depth : Int) (items : List Value) (c : Nat) (cc : Int) (tcc thn : Tok) (tail : List (Addr × Obj)) (done : List (Int × Int × Int)) (t1 t2 : Tok),
    s' = { s with heap := h, toks := tk } ∧ n = 11 - k ∧ Fr g L' h m₁ ∧ m₁ "tries" = some (.int depth t1) ∧ m₁ "value" = some (.int (k : Int) t2) ∧ (∀ z : Str, z ≠ "tries" → z ≠ "value" → z ≠ "other" → m₁ z = m₀ z) ∧
    News g L' h ((x, instObj 38 hx) :: (hx, hD (.int cc tcc) (.int (k : Int) thn)) :: (q, listOf items.toArray c) :: (th, tup) :: tail) ∧ (∀ p ∈ tail₀, p ∈ tail) ∧ (∀ p ∈ tail, p ∈ tail₀ ∨ s.heap.get? p.1 = none) ∧ Rep tail items done ∧
    (∀ p ∈ tail, @Ne Nat p.1 x) ∧ (∀ p ∈ tail, @Ne Nat p.1 hx) ∧ (∀ p ∈ tail, @Ne Nat p.1 q) ∧ (∀ p ∈ tail, @Ne Nat p.1 th) ∧ done.length = k ∧ 0 ≤ depth ∧ (k : Int) ≤ depth ∧ depth ≤ 20 ∧ 0 ≤ cc ∧ cc ≤ 40 ∧
    (run plan most 11 0 cc₀).1 = done ++ (run plan most (11 - k) k depth).1 ∧ (run plan most 11 0 cc₀).2 = (run plan most (11 - k) k depth).2
theorem AnsC.use {w : World} {fa q : Addr} {objs : List (Addr × Obj)} {plan : List Int} (hans : AnsC w fa q objs plan) {pt : Program} {lo : List Str} {mean : ExcName → Option Value} {mg mb : Str → Option Value} {dp un : Nat} {gd : Option (List Code)} {cn : Str} {cs : Scope} {L a : Addr} {ccd : Value} {cl : List (Str × Addr)} {env₂ : Env} {rest : List Env} {A₀ : Around} {base h₀ : Heap} {m : Str → Option Value} {s : Shared} {Q E : Value → Shared → Prop}
    {x hx eh L₂ : Addr} {items : Array Value} {c : Nat} {cc hn v : Int} {tcc thn tv t0 t1 t2 t3 t4 t5 t6 t7 : Tok} {vst vup van vov vfr vtop : Value}
    (B : Below A₀ base (env₂ :: rest) h₀) (F : Fr h₀ L s.heap m) (X : (hd.heap_39 w.params).In h₀) (T : Top pt lo mean mg mb h₀) (hk : cs.kind = .function)
    (hf2 : env₂.frame = some L₂) (hrd : Ready h₀ L₂) (hobj : ∀ o ∈ objs, s.heap.get? o.1 = some o.2 ∧ o.1 ≠ L ∧ h₀.get? o.1 = none ∧ o.1 ≠ x ∧ o.1 ≠ hx ∧ o.1 ≠ q)
    (N : News h₀ L s.heap [(x, instObj 38 hx), (hx, holderD w t0 t1 t2 t3 t4 t5 t6 t7 vst vup van vov vfr (.int cc tcc) (.int hn thn) vtop), (q, listOf items c)]) (n1 : x ≠ hx) (n2 : x ≠ q) (n3 : hx ≠ q)
    (hH : Hd s.heap eh) (b1 : 0 ≤ cc) (b2 : cc ≤ 1000) (b3 : 0 ≤ hn) (b4 : hn ≤ 1000) (b5 : 0 ≤ v) (b6 : v ≤ 1000) (b7 : items.size ≤ 1000) (hd' : dp + 20 < recursionLimit) (hu : un + 40 < cLine)
    (ok : deeperAt plan items.size = 0 → ∀ t ta tb tc c' tr h' tk', s.heap.get? t = none → Fr h₀ L h' m → (∀ b o, b ≠ q → s.heap.get? b = some o → h'.get? b = some o) → h'.get? q = some (listOf (items.push (.ref t)) c') → h'.get? t = some (tup3 cc hn v ta tb tc) →
      Q (.int (v + 100) tr) { s with heap := h', toks := tk' })
    (err : deeperAt plan items.size ≠ 0 → ∀ t ta tb tc c' e dx T r x1 x2 x3 s1 s2 s3 tv' tcc' h' tk', s.heap.get? t = none → s.heap.get? e = none → s.heap.get? dx = none → s.heap.get? T = none → e ≠ dx → T ≠ e → T ≠ dx → t ≠ e → t ≠ dx → T ≠ t →
      Fr h₀ L h' m → Kp [hx, q] [L] s.heap h' → h'.get? q = some (listOf (items.push (.ref t)) c') → h'.get? t = some (tup3 cc hn v ta tb tc) →
      h'.get? hx = some (holderD w t0 t1 t2 t3 t4 t5 t6 t7 vst vup van vov vfr (.int (cc + deeperAt plan items.size - 1) tcc') (.int hn thn) vtop) →
      Xc h' e dx T (.ref eh) .none → h'.get? dx = some (excD x1 x2 x3 s1 s2 s3 (.int (v + 1) tv') r false) → E (.ref e) { s with heap := h', toks := tk' }) :
    wpAny (model PySem.Challenge.rw_rh0158_01.row.prog w) (aTop (some (.ref eh)) dp un gd cn cs L a ccd cl (env₂ :: rest)) (call (.ref fa) [.ref x, .int v tv]) Q E s := by
  obtain ⟨oh, fh, y1, y2, y3⟩ := hH
  exact hans B F X T hk hf2 hrd hobj N n1 n2 n3 y1 y2 y3 b1 b2 b3 b4 b5 b6 b7 hd' hu ok err
def OutOk (o : Option Int) (v : Value) (b : Bool) : Prop := match o with
  | some i => (∃ t, v = .int i t) ∧ b = false
  | none => (∃ t, v = .bytes eieB t) ∧ b = true
theorem hdOf {h₀ h : Heap} {L e dx eh : Addr} {news : List (Addr × Obj)} {fs : Array Value} {sl : Array (Option Value)} {m : Str → Option Value} (N : News h₀ L h news) (F : Fr h₀ L h m) (hm : (e, (⟨.ref 66, some dx, .fields fs, sl⟩ : Obj)) ∈ news) (f2 : fs[2]? = some (.ref eh)) (H : Hd h₀ eh) : HdL h [e, eh] := by
  refine ⟨fun z => ?_, ⟨_, _, (N _ hm).1, rfl, f2⟩, H.fr F⟩
  obtain ⟨o, f, y, _⟩ := H
  have := (N _ hm).2.2
  dsimp only at this
  rw [z, y] at this; cases this
/-- the ledger behind a call that turned two objects and the slots of a frame below -/
theorem newsTwo {h₀ h h' : Heap} {L a b : Addr} {news news1 news2 : List (Addr × Obj)} {oa oa' ob ob' : Obj} (N : News h₀ L h news) (k : Kp [a, b] [L] h h') (ga : h'.get? a = some oa') (gb : h'.get? b = some ob') (U1 : Upd a oa oa' news news1) (U2 : Upd b ob ob' news1 news2) : News h₀ L h' news2 := by
  have nb : ∀ p ∈ news, p.1 ≠ L := fun p hp => (N p hp).2.1
  have main : ∀ p ∈ news2, ∃ o, (p.1, o) ∈ news ∧ (p.1 = a → p.2 = oa' ∨ p.1 = b) ∧ (p.1 = b → p.2 = ob') ∧ (p.1 ≠ a → p.1 ≠ b → p.2 = o) := by
    obtain ⟨pre, post, e1, e2, x1, x2⟩ := U1.split
    obtain ⟨pre', post', e3, e4, y1, y2⟩ := U2.split
    intro p hp
    rw [e4] at hp
    have mid : ∀ p, p ∈ news1 → ∃ o, (p.1, o) ∈ news ∧ (p.1 = a → p.2 = oa') ∧ (p.1 ≠ a → p.2 = o) := by
      intro p hp
      rw [e2] at hp
      rw [e1]
      rcases List.mem_append.mp hp with q | q
      · exact ⟨p.2, List.mem_append_left _ q, fun z => absurd z (x1 p q), fun _ => rfl⟩
      · rcases List.mem_cons.mp q with rfl | q
        · exact ⟨oa, List.mem_append_right _ (.head _), fun _ => rfl, fun z => absurd rfl z⟩
        · exact ⟨p.2, List.mem_append_right _ (.tail _ q), fun z => absurd z (x2 p q), fun _ => rfl⟩
    rcases List.mem_append.mp hp with q | q
    · obtain ⟨o, m1, m2, m3⟩ := mid p (by rw [e3]; exact List.mem_append_left _ q)
      exact ⟨o, m1, fun z => .inl (m2 z), fun z => absurd z (y1 p q), fun z _ => m3 z⟩
    · rcases List.mem_cons.mp q with rfl | q
      · obtain ⟨o, m1, m2, m3⟩ := mid (b, ob) (by rw [e3]; exact List.mem_append_right _ (.head _))
        exact ⟨o, m1, fun _ => .inr rfl, fun _ => rfl, fun _ z => absurd rfl z⟩
      · obtain ⟨o, m1, m2, m3⟩ := mid p (by rw [e3]; exact List.mem_append_right _ (.tail _ q))
        exact ⟨o, m1, fun z => .inl (m2 z), fun z => absurd z (y2 p q), fun z _ => m3 z⟩
  intro p hp
  obtain ⟨o, m1, m2, m3, m4⟩ := main p hp
  refine ⟨?_, (N _ m1).2⟩
  by_cases zb : p.1 = b
  · rw [zb, gb, m3 zb]
  · by_cases za : p.1 = a
    · rcases m2 za with z | z
      · rw [za, ga, z]
      · exact absurd z zb
    · rw [m4 za zb]
      exact k.get (by simp [za, zb]) (by simpa using nb _ m1) (N _ m1).1
theorem az11 {k : Nat} {d t : Int} (a : (k : Int) ≤ d) (b : d < t) (c : t ≤ 10) : (11 : Nat) - k = (10 - k) + 1 := Nat.succ_sub (Int.ofNat_le.mp (Int.le_of_lt (Int.lt_of_le_of_lt a (Int.lt_of_lt_of_le b c))))
theorem az12 (k : Nat) : (11 : Nat) - (k + 1) = 10 - k := Nat.succ_sub_succ 10 k
theorem azlt {k : Nat} (e : (11 : Nat) - k = (10 - k) + 1) : 11 - (k + 1) < 11 - k := by rw [e, az12]; exact Nat.lt_succ_self _
theorem azD (d x : Int) : (if d + x - 1 > d + 1 then d + x - 1 else d + 1) = d + max (x - 1) 1 := by omega
theorem azE (d x : Int) : (d + if 1 > x - 1 then 1 else x - 1) = d + max (x - 1) 1 := by omega
theorem az0 {d : Int} (x : Int) (a : 0 ≤ d) : 0 ≤ d + max (x - 1) 1 := Int.add_nonneg a (Int.le_trans (by decide) (Int.le_max_right _ _))
theorem azk {k : Nat} {d : Int} (x : Int) (a : (k : Int) ≤ d) : ((k + 1 : Nat) : Int) ≤ d + max (x - 1) 1 := Int.add_le_add a (Int.le_max_right _ _)
theorem az20 {d t x : Int} (a : d < t) (b : t ≤ 10) (c : x ≤ 10) : d + max (x - 1) 1 ≤ 20 := by omega
theorem azp {d x : Int} (a : 0 ≤ d) (b : 0 ≤ x) (c : x ≠ 0) : 0 ≤ d + x - 1 := by omega
theorem az40 {d t x : Int} (a : d < t) (b : t ≤ 10) (c : x ≤ 10) : d + x - 1 ≤ 40 := by omega
theorem azm {a n p : Nat} (h : a = p) : (if (a : Int) < (n : Int) then (a : Int) else (n : Int)).toNat = min n p := by
  subst h
  by_cases q : (a : Int) < (n : Int)
  · rw [if_pos q, Nat.min_eq_right (Nat.le_of_lt (Int.ofNat_lt.mp q))]; rfl
  · rw [if_neg q, Nat.min_eq_left (Int.ofNat_le.mp (Int.not_lt.mp q))]; rfl
end
local macro_rules | `(tactic| walk_at "mine1") => `(tactic| (k_here; (with_reducible show wpAny _ _ (call (Value.builtin "len") [Value.ref _]) _ _ _); k_dflt (refine' len_list (by exact News.isList (by k_asm) (by k_mem)) (by (simp only [Array.size_push, List.size_toArray]; omega)) ?_; k_whole); (try simp only [Array.size_push, List.size_toArray])))
section
open PySem PySem.W PyProof.Rows PySem.Calls PySem.Spec
set_option maxRecDepth 100000
local macro_rules | `(tactic| walk_at "call ref") => `(tactic| (k_here; (with_reducible show wpAny _ _ (call (Value.ref 66) _) _ _ _); refine stop ?_))

local macro_rules | `(tactic| walk_at "call builtin:len") => `(tactic| walk_at "mine1")
local macro_rules | `(tactic| walk_at "call builtin:min") => `(tactic| (k_here; refine stop ?_))
local macro_rules | `(tactic| walk_at "exec Raise some none") => `(tactic| (k_here; refine stop ?_))
def CodeOk (oc : Obj) : Prop := ∃ vs t, oc.data = .fields vs ∧ vs[1]? = some (.str "_law_answers.<locals>.answer" t)
def FnObj (fo : Obj) : Prop := ∃ oc od fd sl, fo = (⟨oc, od, .func fd, sl⟩ : Obj)

set_option maxHeartbeats 8000000 in
theorem answers_spec0 {w : World} {pt : Program} {lo : List Str} {mean : ExcName → Option Value} {mg mb : Str → Option Value} {hdl : Option Value} {dp un : Nat} {gd : Option (List Code)} {cn : Str} {cs : Scope} {L a : Addr} {ccd : Value} {cl : List (Str × Addr)} {outer : List Env} {A₀ : Around} {base h₀ : Heap} {m : Str → Option Value} {s : Shared} {Q E : Value → Shared → Prop} {p q : Addr} {vs : List Value} {plan : List Int} {cp : Nat}
   (B : Below A₀ base outer h₀) (F : Fr h₀ L s.heap m) (X : (hd.heap_39 w.params).In h₀) (T : Top pt lo mean mg mb h₀) (hk : cs.kind = .function)
   (C : CodeHd h₀ 138 134) (htab : s.heap.get? 134 = some (tabObj #[])) (h134 : h₀.get? 134 = none) (hL134 : 134 ≠ L)
   (hi : IntsAre vs plan) (hpl : plan.length ≤ 10) (hpd : ∀ d ∈ plan, 0 ≤ d ∧ d ≤ 10)
   (hd : dp + 10 < recursionLimit) (hu : un + 20 < cLine)
   (ret : ∀ fa fo c' oc c1 o1 c2 o2 h' tk', AnsC w fa q [(fa, fo), (c', oc), (c1, o1), (c2, o2), (p, listOf vs.toArray cp)] plan → FnObj fo → CodeOk oc → h'.get? fa = some fo → h'.get? c' = some oc → h'.get? c1 = some o1 → h'.get? c2 = some o2 →
     s.heap.get? fa = none → s.heap.get? c' = none → s.heap.get? c1 = none → s.heap.get? c2 = none → c2 < c1 → c1 < c' → c' < fa →
     Fr h₀ L h' m → (∀ b o, b ≠ 134 → s.heap.get? b = some o → h'.get? b = some o) → h'.get? 134 = some (tabObj #[rawInt 95, rawInt 4, .ref c']) → Q (.ref fa) { s with heap := h', toks := tk' }) :
   wpAny (model PySem.Challenge.rw_rh0158_01.row.prog w) (aTop hdl dp un gd cn cs L a ccd cl outer) (call (.ref 139) [.ref p, .ref q]) Q E s := by
  w_top off; revert X; k_fill; intro X
  have N : News h₀ L s.heap [(134, tabObj #[])] := by
    intro p hp; rw [List.mem_singleton.mp hp]; exact ⟨htab, hL134, h134⟩
  refine wpAny_call ?_
  k_dflt (refine' callFC B F X N T rfl rfl hk (getK X F.keep (by k_is)) rfl (codeK X F.keep (by k_is)) ?k8 ?k9 ?kB ?kD ?_; (case k8 => ktr_room); (case k9 => exact BindsTo.of_eq rfl); (case kB => exact rfl); (case kD => decide +kernel); intro g' L' h' tk' cells' FG' F' N' Y' B' X' T' hkeep hback l1; (try k_lt l1); k_cells Y'; (try simp only [List.cons_append, List.nil_append] at N'); (try dsimp only); (try k_fold))
  have C' : CodeHd g' 138 134 := C.keeps FG'.keep
  k_steps
  dsimp only
  rename News g' _ _ _ => NE
  rename Fr g' _ _ _ => FE
  rename _ ∧ _ ∧ _ => hlts
  rename _ < _ => hlt2
  rename _[1]? = _ => hv1
  rename Obj.data _ = Data.fields _ => hoc
  have fr : ∀ {b o}, (b, o) ∈ _ → b ≠ 134 → s.heap.get? b = none := fun {b o} hm n => freshOf hkeep (NE (b, o) hm).2.2 (by simpa using n)
  refine ret _ _ _ _ _ _ _ _ _ _ ?hA ⟨_, _, _, _, rfl⟩ ⟨_, _, hoc, hv1⟩ (NE _ (.head _)).1 (NE _ (.tail _ (.head _))).1 (NE _ (.tail _ (.tail _ (.head _)))).1 (NE _ (.tail _ (.tail _ (.tail _ (.head _))))).1
    (fr (.head _) (by k_ne)) (fr (.tail _ (.head _)) (by k_ne)) (fr (.tail _ (.tail _ (.head _))) (by k_ne)) (fr (.tail _ (.tail _ (.tail _ (.head _)))) (by k_ne)) (ltN (by omega)) (ltN (by omega)) hlt2 (frBack FG' FE) (fun b o n e => FE.keep b o (hkeep b o e (by simpa using n))) (NE _ (.tail _ (.tail _ (.tail _ (.tail _ (.head _)))))).1
  case hA =>
    rename Obj.data _ = Data.cell _ => hc2
    have e2 : Obj.data _ = Data.cell (some (.ref p)) := hc2
    clear hc2
    rename Obj.data _ = Data.cell (bindC _ _ _ _) => hc1
    have e1 : Obj.data _ = Data.cell (some (.ref q)) := hc1
    clear hc1 ret FE NE fr hlt2 hlts hkeep hback F B hL134 h134 htab N FG' B' T' T X X' hk hd hu C l1
    unfold AnsC
    intro pt lo mean mg mb dp un gd cn cs L a ccd cl env₂ rest A₀ base h₀ m s Q E x hx eh L₂ oh fh items c cc hn v tcc thn tv t0 t1 t2 t3 t4 t5 t6 t7 vst vup van vov vfr vtop B F X T hk hf2 hrd hobj N n1 n2 n3 heh hehd heh2 hcc hcc' hhn hhn' hv hv' hit hd hu ok err
    simp only [List.forall_mem_cons] at hobj
    obtain ⟨⟨of1, of2, of3, of4, of5, of6⟩, ⟨oc1, oc2, oc3, oc4, oc5, oc6⟩, ⟨oa1, oa2, oa3, oa4, oa5, oa6⟩, ⟨ob1, ob2, ob3, ob4, ob5, ob6⟩, ⟨op1, op2, op3, op4, op5, op6⟩, -⟩ := hobj
    have N2 : News h₀ L s.heap [(x, instObj 38 hx), (hx, holderD w t0 t1 t2 t3 t4 t5 t6 t7 vst vup van vov vfr (.int cc tcc) (.int hn thn) vtop), (q, listOf items c), (_, _), (_, _), (_, _)] :=
      fun z hz => (List.mem_append (s := [_, _, _]) (t := [_, _, _])).mp hz |>.elim (N z) fun hz => by
        rcases List.mem_cons.mp hz with rfl | hz
        · exact ⟨oa1, oa2, oa3⟩
        rcases List.mem_cons.mp hz with rfl | hz
        · exact ⟨ob1, ob2, ob3⟩
        rw [List.mem_singleton.mp hz]
        exact ⟨op1, op2, op3⟩
    replace n1 := neN n1
    replace n2 := neN n2
    replace n3 := neN n3
    replace oa5 := neN oa5
    replace oa6 := neN oa6
    replace ob5 := neN ob5
    replace ob6 := neN ob6
    replace op5 := neN op5
    replace op6 := neN op6
    clear N
    refine wpAny_call ?_
    k_dflt (refine' callF B F X N2 T rfl rfl hk of1 rfl ⟨_, _, _, _, rfl, oc1, hoc, hv1⟩ ?k8 ?k9 ?kB ?_ ?c5; (case k8 => ktr_room); (case k9 => exact BindsTo.of_eq rfl); (case c5 => decide); (case kB => exact locs rfl); intro g' L' h' FG' F' N' B' X' T' hkeep hback hlt; (try dsimp only); (try k_fold))
    have hvl := hi.length
    have hnl : eh ∉ [(x, instObj 38 hx), (hx, holderD w t0 t1 t2 t3 t4 t5 t6 t7 vst vup van vov vfr (.int cc tcc) (.int hn thn) vtop), (q, listOf items c), (_, _), (_, _), (p, listOf vs.toArray cp)].map (·.1) := fun hm => by
      obtain ⟨⟨b, o⟩, hb, rfl⟩ := List.mem_map.mp hm
      have z := (N2 _ hb).1
      dsimp only at z
      rw [heh] at z
      obtain rfl := Option.some.inj z
      simp only [List.mem_cons, List.not_mem_nil, or_false, Prod.mk.injEq] at hb
      rcases hb with ⟨-, rfl⟩ | ⟨-, rfl⟩ | ⟨-, rfl⟩ | ⟨-, rfl⟩ | ⟨-, rfl⟩ | ⟨-, rfl⟩
      · cases hehd
      · cases hehd
      · cases hehd
      · rw [e1] at hehd; cases hehd
      · rw [e2] at hehd; cases hehd
      · cases hehd
    have hHd : Hd g' eh := hd1 (hkeep eh oh heh hnl) hehd heh2
    k_steps
    unfold Stop
    k_dflt (refine' min_HN ?h ?X ?F ?N ?_; (case h => rfl); (case X => with_reducible assumption); (case F => k_asm); (case N => k_asm); k_whole)
    intro h₉ tk₉ F₉ N₉
    k_steps
    · dsimp only
      rename List.getD (plan ++ [0]) _ 0 = 0 => hz
      rename News g' L' _ _ => NE
      rename Fr g' L' _ _ => FE
      rw [deep_eq hvl] at hz
      refine ok hz _ _ _ _ _ _ _ _ (freshOf hkeep (NE _ (.tail _ (.tail _ (.head _)))).2.2 ?_) (frBack FG' FE) ?_ (NE _ (.tail _ (.tail _ (.tail _ (.tail _ (.tail _ (.head _))))))).1 (NE _ (.tail _ (.tail _ (.head _)))).1
      · intro hm
        simp only [List.map_cons, List.map_nil, List.mem_cons, List.not_mem_nil, or_false] at hm
        rcases hm with q1 | q1 | q1 | q1 | q1 | q1
        · exact newsApart (b := x) NE (.tail _ (.tail _ (.head _))) (by k_dflt k_mem) (.inl (by intro z; cases z)) q1
        · exact newsApart (b := hx) NE (.tail _ (.tail _ (.head _))) (by k_dflt k_mem) (.inl (by intro z; cases z)) q1
        · exact newsApart (b := q) NE (.tail _ (.tail _ (.head _))) (by k_dflt k_mem) (.inr (by intro z; injection z with z; exact absurd z (by decide))) q1
        · exact newsApart NE (.tail _ (.tail _ (.head _))) (.tail _ (.tail _ (.tail _ (.tail _ (.tail _ (.tail _ (.head _))))))) (.inl (by rw [e1]; intro z; cases z)) q1
        · exact newsApart NE (.tail _ (.tail _ (.head _))) (.tail _ (.tail _ (.tail _ (.tail _ (.tail _ (.tail _ (.tail _ (.head _)))))))) (.inl (by rw [e2]; intro z; cases z)) q1
        · exact newsApart (b := p) NE (.tail _ (.tail _ (.head _))) (by k_dflt k_mem) (.inr (by intro z; injection z with z; exact absurd z (by decide))) q1
      · have k := keepOf (S := [q]) N2 NE hkeep FE.keep (by
          intro z hz hn
          simp only [List.mem_cons, List.not_mem_nil, or_false] at hz hn
          rcases hz with rfl | rfl | rfl | rfl | rfl | rfl <;> first | exact absurd rfl hn | k_dflt k_mem)
        exact fun b o n e => k b o (by simpa using n) e
    · unfold Stop
      k_dflt (refine' raise_some ?h ?_; (case h => rfl); k_whole)
      try k_fold
      k_steps
      unfold Stop
      k_dflt (refine' luaerr_spec ?B ?F ?X ?T ?k ?d ?u ?_; (case B => k_asm); (case F => k_asm); (case X => k_asm); (case T => k_asm); (case k => first | rfl | assumption); (case d => ktr_room); (case u => ktr_units); (rename News _ _ _ _ => lN₉); (rename Fr _ _ _ _ => lF₉); intro e₉ d₉ t₉ q₉ x1₉ x2₉ x3₉ s1₉ s2₉ s3₉ h₉ tk₉ n1₉ n2₉ n3₉ F₉ K₉ y1₉ y2₉; (have l1₉ := allNe_of (newsNe lN₉ n1₉)); (have l2₉ := allNe_of (newsNe lN₉ n2₉)); (replace n3₉ := neN n3₉); (have N₉ := newsAdd (newsAdd (newsKeep lN₉ K₉) lF₉ n2₉ y2₉) lF₉ n1₉ y1₉); (simp only [AllNe, and_true] at l1₉ l2₉); clear lN₉ lF₉; (try dsimp only at N₉))
      k_steps
      change RaiseS _ _ _ _ _
      rename List.getD (plan ++ [0]) _ 0 ≠ 0 => hz
      rename News g' L' _ _ => NE
      rename Fr g' L' _ _ => FE
      simp only [deep_eq hvl] at hz NE
      refine ans_end (E := E) (R := fun r s' => match r with | .ok (.ret v) => Q v s' | .ok _ => False | .error e => E e s') (q := q) (hx := hx) (env := envX cn cs L a ccd cl) (env₂ := env₂) (rest := rest) FG' FE NE X' hkeep N2 ?sub ?hno hlt (.tail _ (.tail _ (.head _))) (.tail _ (.tail _ (.tail _ (.tail _ (.head _))))) (.tail _ (.tail _ (.tail _ (.tail _ (.tail _ (.head _)))))) ?hfl (hkeep eh oh heh hnl) hehd heh2 ?hA ?f1 ?f ?f2 ?k1 ?k hrd ?hR ?fin
      case hA => rfl
      case f1 => rfl
      case f => rfl
      case f2 => exact hf2
      case k1 => rfl
      case k => exact hk
      case hR => exact fun _ _ z => z
      case fin => exact fun T h' a1 a2 a3 a4 b1 b2 b3 b4 b5 b6 F' K' c1 c2 c3 x' c4 => err hz _ _ _ _ _ _ _ _ _ _ _ _ _ _ _ _ _ h' _ a1 a2 a3 a4 b1 b2 b3 b4 b5 b6 F' K' c1 c2 c3 x' c4
      case sub =>
        intro z hz hn
        simp only [List.mem_cons, List.not_mem_nil, or_false] at hz hn
        rcases hz with rfl | rfl | rfl | rfl | rfl | rfl <;> first | exact absurd (.inl rfl) hn | exact absurd (.inr rfl) hn | k_dflt k_mem
      case hno =>
        intro b hb hm
        simp only [List.map_cons, List.map_nil, List.mem_cons, List.not_mem_nil, or_false] at hb hm
        rcases hb with rfl | rfl | rfl
        · rcases hm with q1 | q1 | q1 | q1 | q1 | q1 <;> exact absurd q1 ((by k_ne))
        · rcases hm with q1 | q1 | q1 | q1 | q1 | q1 <;> exact absurd q1 ((by k_ne))
        · rcases hm with q1 | q1 | q1 | q1 | q1 | q1
          · exact newsApart (b := x) NE (.tail _ (.tail _ (.tail _ (.tail _ (.head _))))) (by k_dflt k_mem) (.inl (by intro z; cases z)) q1
          · exact newsApart (b := hx) NE (.tail _ (.tail _ (.tail _ (.tail _ (.head _))))) (by k_dflt k_mem) (.inl (by intro z; cases z)) q1
          · exact newsApart (b := q) NE (.tail _ (.tail _ (.tail _ (.tail _ (.head _))))) (by k_dflt k_mem) (.inr (by intro z; injection z with z; exact absurd z (by decide))) q1
          · exact newsApart NE (.tail _ (.tail _ (.tail _ (.tail _ (.head _))))) (.tail _ (.tail _ (.tail _ (.tail _ (.tail _ (.tail _ (.tail _ (.tail _ (.head _))))))))) (.inl (by rw [e1]; intro z; cases z)) q1
          · exact newsApart NE (.tail _ (.tail _ (.tail _ (.tail _ (.head _))))) (.tail _ (.tail _ (.tail _ (.tail _ (.tail _ (.tail _ (.tail _ (.tail _ (.tail _ (.head _)))))))))) (.inl (by rw [e2]; intro z; cases z)) q1
          · exact newsApart (b := p) NE (.tail _ (.tail _ (.tail _ (.tail _ (.head _))))) (by k_dflt k_mem) (.inr (by intro z; injection z with z; exact absurd z (by decide))) q1
      case hfl => exact ⟨(by k_ne), (by k_ne), (by k_ne), (by k_ne), (by k_ne)⟩
end
section
local macro_rules | `(tactic| walk_at "pad") => `(tactic| skip)
open PySem PySem.W PyProof.Rows PySem.Calls PySem.Spec
set_option maxRecDepth 100000
local macro_rules | `(tactic| walk_at "call ref") => `(tactic| (k_here; (with_reducible show wpAny _ _ (call (Value.ref 66) _) _ _ _); refine stop ?_))

local macro_rules | `(tactic| walk_at "call builtin:len") => `(tactic| walk_at "mine1")
local macro_rules | `(tactic| walk_at "call builtin:min") => `(tactic| (k_here; refine stop ?_))
local macro_rules | `(tactic| walk_at "exec Raise some none") => `(tactic| (k_here; refine stop ?_))
set_option maxHeartbeats 8000000 in
theorem answers_spec1 {w : World} {pt : Program} {lo : List Str} {mean : ExcName → Option Value} {mg mb : Str → Option Value} {hdl : Option Value} {dp un : Nat} {gd : Option (List Code)} {cn : Str} {cs : Scope} {L a : Addr} {ccd : Value} {cl : List (Str × Addr)} {outer : List Env} {A₀ : Around} {base h₀ : Heap} {m : Str → Option Value} {s : Shared} {Q E : Value → Shared → Prop} {p q : Addr} {vs : List Value} {plan : List Int} {cp : Nat} {c' : Addr} {oc : Obj}
   (B : Below A₀ base outer h₀) (F : Fr h₀ L s.heap m) (X : (hd.heap_39 w.params).In h₀) (T : Top pt lo mean mg mb h₀) (hk : cs.kind = .function)
   (C : CodeHd h₀ 138 134) (htab : s.heap.get? 134 = some (tabObj #[rawInt 95, rawInt 4, .ref c'])) (hcode : s.heap.get? c' = some oc) (hcok : CodeOk oc) (h134 : h₀.get? 134 = none) (hL134 : 134 ≠ L)
   (hi : IntsAre vs plan) (hpl : plan.length ≤ 10) (hpd : ∀ d ∈ plan, 0 ≤ d ∧ d ≤ 10)
   (hd : dp + 10 < recursionLimit) (hu : un + 20 < cLine)
   (ret : ∀ fa fo c1 o1 c2 o2 h' tk', AnsC w fa q [(fa, fo), (c', oc), (c1, o1), (c2, o2), (p, listOf vs.toArray cp)] plan → FnObj fo → h'.get? fa = some fo → h'.get? c1 = some o1 → h'.get? c2 = some o2 →
     s.heap.get? fa = none → s.heap.get? c1 = none → s.heap.get? c2 = none → c2 < c1 → c1 < fa →
     Fr h₀ L h' m → (∀ b o, s.heap.get? b = some o → h'.get? b = some o) → Q (.ref fa) { s with heap := h', toks := tk' }) :
   wpAny (model PySem.Challenge.rw_rh0158_01.row.prog w) (aTop hdl dp un gd cn cs L a ccd cl outer) (call (.ref 139) [.ref p, .ref q]) Q E s := by
  w_top off; revert X; k_fill; intro X
  have N : News h₀ L s.heap [(134, tabObj #[rawInt 95, rawInt 4, .ref c'])] := by
    intro p hp; rw [List.mem_singleton.mp hp]; exact ⟨htab, hL134, h134⟩
  refine wpAny_call ?_
  k_dflt (refine' callFC B F X N T rfl rfl hk (getK X F.keep (by k_is)) rfl (codeK X F.keep (by k_is)) ?k8 ?k9 ?kB ?kD ?_; (case k8 => ktr_room); (case k9 => exact BindsTo.of_eq rfl); (case kB => exact rfl); (case kD => decide +kernel); intro g' L' h' tk' cells' FG' F' N' Y' B' X' T' hkeep hback l1; (try k_lt l1); k_cells Y'; (try simp only [List.cons_append, List.nil_append] at N'); (try dsimp only); (try k_fold))
  have C' : CodeHd g' 138 134 := C.keeps FG'.keep
  k_steps
  dsimp only
  rename News g' _ _ _ => NE
  rename Fr g' _ _ _ => FE
  rename _ ∧ _ ∧ _ => hlts
  have fr : ∀ {b o}, (b, o) ∈ _ → b ≠ 134 → s.heap.get? b = none := fun {b o} hm n => freshOf hkeep (NE (b, o) hm).2.2 (by simpa using n)
  obtain ⟨vs', t', hoc, hv1⟩ := id hcok
  refine ret _ _ _ _ _ _ _ _ ?hA ⟨_, _, _, _, rfl⟩ (NE _ (.head _)).1 (NE _ (.tail _ (.head _))).1 (NE _ (.tail _ (.tail _ (.head _)))).1
    (fr (.head _) (by k_ne)) (fr (.tail _ (.head _)) (by k_ne)) (fr (.tail _ (.tail _ (.head _))) (by k_ne)) (ltN (by omega)) (ltN (by omega)) (frBack FG' FE) ?hk
  case hk =>
    intro b o e
    by_cases q : b = 134
    · subst q
      rw [htab] at e
      obtain rfl := Option.some.inj e
      exact (NE _ (.tail _ (.tail _ (.tail _ (.head _))))).1
    · exact FE.keep b o (hkeep b o e (by simpa using q))
  case hA =>
    rename Obj.data _ = Data.cell _ => hc2
    have e2 : Obj.data _ = Data.cell (some (.ref p)) := hc2
    clear hc2
    rename Obj.data _ = Data.cell (bindC _ _ _ _) => hc1
    have e1 : Obj.data _ = Data.cell (some (.ref q)) := hc1
    clear hc1 ret FE NE fr hlts hcode hkeep hback F B hL134 h134 htab N FG' B' T' T X X' hk hd hu C l1
    unfold AnsC
    intro pt lo mean mg mb dp un gd cn cs L a ccd cl env₂ rest A₀ base h₀ m s Q E x hx eh L₂ oh fh items c cc hn v tcc thn tv t0 t1 t2 t3 t4 t5 t6 t7 vst vup van vov vfr vtop B F X T hk hf2 hrd hobj N n1 n2 n3 heh hehd heh2 hcc hcc' hhn hhn' hv hv' hit hd hu ok err
    simp only [List.forall_mem_cons] at hobj
    obtain ⟨⟨of1, of2, of3, of4, of5, of6⟩, ⟨oc1, oc2, oc3, oc4, oc5, oc6⟩, ⟨oa1, oa2, oa3, oa4, oa5, oa6⟩, ⟨ob1, ob2, ob3, ob4, ob5, ob6⟩, ⟨op1, op2, op3, op4, op5, op6⟩, -⟩ := hobj
    have N2 : News h₀ L s.heap [(x, instObj 38 hx), (hx, holderD w t0 t1 t2 t3 t4 t5 t6 t7 vst vup van vov vfr (.int cc tcc) (.int hn thn) vtop), (q, listOf items c), (_, _), (_, _), (_, _)] :=
      fun z hz => (List.mem_append (s := [_, _, _]) (t := [_, _, _])).mp hz |>.elim (N z) fun hz => by
        rcases List.mem_cons.mp hz with rfl | hz
        · exact ⟨oa1, oa2, oa3⟩
        rcases List.mem_cons.mp hz with rfl | hz
        · exact ⟨ob1, ob2, ob3⟩
        rw [List.mem_singleton.mp hz]
        exact ⟨op1, op2, op3⟩
    replace n1 := neN n1
    replace n2 := neN n2
    replace n3 := neN n3
    replace oa5 := neN oa5
    replace oa6 := neN oa6
    replace ob5 := neN ob5
    replace ob6 := neN ob6
    replace op5 := neN op5
    replace op6 := neN op6
    clear N
    refine wpAny_call ?_
    k_dflt (refine' callF B F X N2 T rfl rfl hk of1 rfl ⟨_, _, _, _, rfl, oc1, hoc, hv1⟩ ?k8 ?k9 ?kB ?_ ?c5; (case k8 => ktr_room); (case k9 => exact BindsTo.of_eq rfl); (case c5 => decide); (case kB => exact locs rfl); intro g' L' h' FG' F' N' B' X' T' hkeep hback hlt; (try dsimp only); (try k_fold))
    have hvl := hi.length
    have hnl : eh ∉ [(x, instObj 38 hx), (hx, holderD w t0 t1 t2 t3 t4 t5 t6 t7 vst vup van vov vfr (.int cc tcc) (.int hn thn) vtop), (q, listOf items c), (_, _), (_, _), (p, listOf vs.toArray cp)].map (·.1) := fun hm => by
      obtain ⟨⟨b, o⟩, hb, rfl⟩ := List.mem_map.mp hm
      have z := (N2 _ hb).1
      dsimp only at z
      rw [heh] at z
      obtain rfl := Option.some.inj z
      simp only [List.mem_cons, List.not_mem_nil, or_false, Prod.mk.injEq] at hb
      rcases hb with ⟨-, rfl⟩ | ⟨-, rfl⟩ | ⟨-, rfl⟩ | ⟨-, rfl⟩ | ⟨-, rfl⟩ | ⟨-, rfl⟩
      · cases hehd
      · cases hehd
      · cases hehd
      · rw [e1] at hehd; cases hehd
      · rw [e2] at hehd; cases hehd
      · cases hehd
    have hHd : Hd g' eh := hd1 (hkeep eh oh heh hnl) hehd heh2
    k_steps
    unfold Stop
    k_dflt (refine' min_HN ?h ?X ?F ?N ?_; (case h => rfl); (case X => with_reducible assumption); (case F => k_asm); (case N => k_asm); k_whole)
    intro h₉ tk₉ F₉ N₉
    k_steps
    · dsimp only
      rename List.getD (plan ++ [0]) _ 0 = 0 => hz
      rename News g' L' _ _ => NE
      rename Fr g' L' _ _ => FE
      rw [deep_eq hvl] at hz
      refine ok hz _ _ _ _ _ _ _ _ (freshOf hkeep (NE _ (.tail _ (.tail _ (.head _)))).2.2 ?_) (frBack FG' FE) ?_ (NE _ (.tail _ (.tail _ (.tail _ (.tail _ (.tail _ (.head _))))))).1 (NE _ (.tail _ (.tail _ (.head _)))).1
      · intro hm
        simp only [List.map_cons, List.map_nil, List.mem_cons, List.not_mem_nil, or_false] at hm
        rcases hm with q1 | q1 | q1 | q1 | q1 | q1
        · exact newsApart (b := x) NE (.tail _ (.tail _ (.head _))) (by k_dflt k_mem) (.inl (by intro z; cases z)) q1
        · exact newsApart (b := hx) NE (.tail _ (.tail _ (.head _))) (by k_dflt k_mem) (.inl (by intro z; cases z)) q1
        · exact newsApart (b := q) NE (.tail _ (.tail _ (.head _))) (by k_dflt k_mem) (.inr (by intro z; injection z with z; exact absurd z (by decide))) q1
        · exact newsApart NE (.tail _ (.tail _ (.head _))) (.tail _ (.tail _ (.tail _ (.tail _ (.tail _ (.tail _ (.head _))))))) (.inl (by rw [e1]; intro z; cases z)) q1
        · exact newsApart NE (.tail _ (.tail _ (.head _))) (.tail _ (.tail _ (.tail _ (.tail _ (.tail _ (.tail _ (.tail _ (.head _)))))))) (.inl (by rw [e2]; intro z; cases z)) q1
        · exact newsApart (b := p) NE (.tail _ (.tail _ (.head _))) (by k_dflt k_mem) (.inr (by intro z; injection z with z; exact absurd z (by decide))) q1
      · have k := keepOf (S := [q]) N2 NE hkeep FE.keep (by
          intro z hz hn
          simp only [List.mem_cons, List.not_mem_nil, or_false] at hz hn
          rcases hz with rfl | rfl | rfl | rfl | rfl | rfl <;> first | exact absurd rfl hn | k_dflt k_mem)
        exact fun b o n e => k b o (by simpa using n) e
    · unfold Stop
      k_dflt (refine' raise_some ?h ?_; (case h => rfl); k_whole)
      try k_fold
      k_steps
      unfold Stop
      k_dflt (refine' luaerr_spec ?B ?F ?X ?T ?k ?d ?u ?_; (case B => k_asm); (case F => k_asm); (case X => k_asm); (case T => k_asm); (case k => first | rfl | assumption); (case d => ktr_room); (case u => ktr_units); (rename News _ _ _ _ => lN₉); (rename Fr _ _ _ _ => lF₉); intro e₉ d₉ t₉ q₉ x1₉ x2₉ x3₉ s1₉ s2₉ s3₉ h₉ tk₉ n1₉ n2₉ n3₉ F₉ K₉ y1₉ y2₉; (have l1₉ := allNe_of (newsNe lN₉ n1₉)); (have l2₉ := allNe_of (newsNe lN₉ n2₉)); (replace n3₉ := neN n3₉); (have N₉ := newsAdd (newsAdd (newsKeep lN₉ K₉) lF₉ n2₉ y2₉) lF₉ n1₉ y1₉); (simp only [AllNe, and_true] at l1₉ l2₉); clear lN₉ lF₉; (try dsimp only at N₉))
      k_steps
      change RaiseS _ _ _ _ _
      rename List.getD (plan ++ [0]) _ 0 ≠ 0 => hz
      rename News g' L' _ _ => NE
      rename Fr g' L' _ _ => FE
      simp only [deep_eq hvl] at hz NE
      refine ans_end (E := E) (R := fun r s' => match r with | .ok (.ret v) => Q v s' | .ok _ => False | .error e => E e s') (q := q) (hx := hx) (env := envX cn cs L a ccd cl) (env₂ := env₂) (rest := rest) FG' FE NE X' hkeep N2 ?sub ?hno hlt (.tail _ (.tail _ (.head _))) (.tail _ (.tail _ (.tail _ (.tail _ (.head _))))) (.tail _ (.tail _ (.tail _ (.tail _ (.tail _ (.head _)))))) ?hfl (hkeep eh oh heh hnl) hehd heh2 ?hA ?f1 ?f ?f2 ?k1 ?k hrd ?hR ?fin
      case hA => rfl
      case f1 => rfl
      case f => rfl
      case f2 => exact hf2
      case k1 => rfl
      case k => exact hk
      case hR => exact fun _ _ z => z
      case fin => exact fun T h' a1 a2 a3 a4 b1 b2 b3 b4 b5 b6 F' K' c1 c2 c3 x' c4 => err hz _ _ _ _ _ _ _ _ _ _ _ _ _ _ _ _ _ h' _ a1 a2 a3 a4 b1 b2 b3 b4 b5 b6 F' K' c1 c2 c3 x' c4
      case sub =>
        intro z hz hn
        simp only [List.mem_cons, List.not_mem_nil, or_false] at hz hn
        rcases hz with rfl | rfl | rfl | rfl | rfl | rfl <;> first | exact absurd (.inl rfl) hn | exact absurd (.inr rfl) hn | k_dflt k_mem
      case hno =>
        intro b hb hm
        simp only [List.map_cons, List.map_nil, List.mem_cons, List.not_mem_nil, or_false] at hb hm
        rcases hb with rfl | rfl | rfl
        · rcases hm with q1 | q1 | q1 | q1 | q1 | q1 <;> exact absurd q1 ((by k_ne))
        · rcases hm with q1 | q1 | q1 | q1 | q1 | q1 <;> exact absurd q1 ((by k_ne))
        · rcases hm with q1 | q1 | q1 | q1 | q1 | q1
          · exact newsApart (b := x) NE (.tail _ (.tail _ (.tail _ (.tail _ (.head _))))) (by k_dflt k_mem) (.inl (by intro z; cases z)) q1
          · exact newsApart (b := hx) NE (.tail _ (.tail _ (.tail _ (.tail _ (.head _))))) (by k_dflt k_mem) (.inl (by intro z; cases z)) q1
          · exact newsApart (b := q) NE (.tail _ (.tail _ (.tail _ (.tail _ (.head _))))) (by k_dflt k_mem) (.inr (by intro z; injection z with z; exact absurd z (by decide))) q1
          · exact newsApart NE (.tail _ (.tail _ (.tail _ (.tail _ (.head _))))) (.tail _ (.tail _ (.tail _ (.tail _ (.tail _ (.tail _ (.tail _ (.tail _ (.head _))))))))) (.inl (by rw [e1]; intro z; cases z)) q1
          · exact newsApart NE (.tail _ (.tail _ (.tail _ (.tail _ (.head _))))) (.tail _ (.tail _ (.tail _ (.tail _ (.tail _ (.tail _ (.tail _ (.tail _ (.tail _ (.head _)))))))))) (.inl (by rw [e2]; intro z; cases z)) q1
          · exact newsApart (b := p) NE (.tail _ (.tail _ (.tail _ (.tail _ (.head _))))) (by k_dflt k_mem) (.inr (by intro z; injection z with z; exact absurd z (by decide))) q1
      case hfl => exact ⟨(by k_ne), (by k_ne), (by k_ne), (by k_ne), (by k_ne)⟩
end
local macro_rules | `(tactic| walk_at "mine2") => `(tactic| (k_here; k_dflt (refine' get_excN (by k_asm) (by k_asm) (by k_asm) (by k_mem) (by k_mem) (by k_is) (by k_is) (by k_is) (by k_is) (by k_is) (by k_is) (by k_get) (by first | assumption | k_handed) ?_; k_whole)))
section
open PySem PySem.W PyProof.Rows PySem.Calls PySem.Spec
set_option maxRecDepth 100000
theorem memOf {α : Type} {a : α} {l : List α} (h : a ∈ l) : List.Mem a l := h
theorem withMap {P : Prop} {g h : Heap} {L : Addr} {m : Str → Option Value} (F : Fr g L h m) (k : ∀ m₀, m₀ = m → Fr g L h m₀ → P) : P := k m rfl F
local macro_rules | `(tactic| walk_at "exec While Compare cons nil") => `(tactic| (refine stop ?_))
local macro_rules | `(tactic| walk_at "assign Tuple") => `(tactic| (k_here; refine stop ?_))
local macro_rules | `(tactic| walk_at "unpackItems ref") => `(tactic| (k_here; refine stop ?_))
local macro_rules | `(tactic| walk_at "exec Try cons cons nil nil") => `(tactic| (k_here; k_dflt (refine wpAny_Try_except ?_); (try k_fold)))
local macro_rules | `(tactic| walk_at "callWith ref") => `(tactic| (k_here; k_dflt (refine' callWith_F (by refine' FnAt.of ?fa ?fb; (case fa => k_asm); (case fb => k_mem)) ?_; k_whole)))
local macro_rules | `(tactic| walk_at "FnAt") => `(tactic| (k_dflt (refine' FnAt.of (by k_asm) (by k_mem))))
local macro_rules | `(tactic| walk_at "call ref") => `(tactic| (k_here; (with_reducible show wpAny _ _ (call (Value.ref 83) _) _ _ _); refine stop ?_))
local macro_rules | `(tactic| k_mem) => `(tactic| (refine' memOf ?_; assumption))
local macro_rules | `(tactic| k_all) => `(tactic| assumption)
local macro_rules | `(tactic| walk_at "call ref") => `(tactic| (k_here; (with_reducible show wpAny _ _ (call (Value.ref 66) _) _ _ _); refine stop ?_))
local macro_rules | `(tactic| walk_at "getAttr ref") => `(tactic| walk_at "mine2")
local macro_rules | `(tactic| walk_at "call builtin:max") => `(tactic| (k_here; refine stop ?_))
theorem oldFresh {h g h₁ : Heap} {O O' : List (Addr × Obj)} {e : Addr} (hkeep : ∀ b o, h.get? b = some o → b ∉ O.map (·.1) → g.get? b = some o) (hex : ∀ p ∈ O', h₁.get? p.1 = some p.2) (sub : ∀ p ∈ O, ∃ p' ∈ O', p'.1 = p.1) (n : h₁.get? e = none) (n' : g.get? e = none) : h.get? e = none :=
  freshOf hkeep n' fun hm => by
    obtain ⟨p, hp, rfl⟩ := List.mem_map.mp hm
    obtain ⟨p', hp', z⟩ := sub p hp
    have := hex p' hp'
    rw [z, n] at this; cases this
theorem hexNe {h₁ : Heap} {O' : List (Addr × Obj)} {e : Addr} (hex : ∀ p ∈ O', h₁.get? p.1 = some p.2) (n : h₁.get? e = none) : ∀ p ∈ O', @Ne Nat p.1 e := fun p hp z => by
  have := hex p hp
  rw [show p.1 = e from z, n] at this; cases this
theorem sub4 {a b c d : Addr} {o1 o2 o3 o4 o1' o2' o3' o4' : Obj} {t t' : List (Addr × Obj)} (h : ∀ p ∈ t, p ∈ t') : ∀ p ∈ (a, o1) :: (b, o2) :: (c, o3) :: (d, o4) :: t, ∃ p' ∈ (a, o1') :: (b, o2') :: (c, o3') :: (d, o4') :: t', p'.1 = p.1 := by
  intro p hp
  rcases List.mem_cons.mp hp with rfl | hp
  · exact ⟨_, .head _, rfl⟩
  rcases List.mem_cons.mp hp with rfl | hp
  · exact ⟨_, .tail _ (.head _), rfl⟩
  rcases List.mem_cons.mp hp with rfl | hp
  · exact ⟨_, .tail _ (.tail _ (.head _)), rfl⟩
  rcases List.mem_cons.mp hp with rfl | hp
  · exact ⟨_, .tail _ (.tail _ (.tail _ (.head _))), rfl⟩
  exact ⟨p, .tail _ (.tail _ (.tail _ (.tail _ (h p hp)))), rfl⟩
theorem subX {a b c d : Addr} {o1 o2 o3 o4 : Obj} {t t' new : List (Addr × Obj)} (hx : (a, o1) ∈ new) (h4 : (d, o4) ∈ new) (h : ∀ p ∈ t, p ∈ t') (h' : ∀ p ∈ t', p ∈ new) : ∀ p ∈ (a, o1) :: (b, o2) :: (c, o3) :: (d, o4) :: t, p.1 ∉ [b, c] → p ∈ new := by
  intro p hp hn
  simp only [List.mem_cons, List.not_mem_nil, or_false, not_or] at hn
  rcases List.mem_cons.mp hp with rfl | hp
  · exact hx
  rcases List.mem_cons.mp hp with rfl | hp
  · exact absurd rfl hn.1
  rcases List.mem_cons.mp hp with rfl | hp
  · exact absurd rfl hn.2
  rcases List.mem_cons.mp hp with rfl | hp
  · exact h4
  exact h' p (h p hp)
theorem newsH {g h h' : Heap} {L : Addr} {d e x hx q th t dx : Addr × Obj} {tail : List (Addr × Obj)} (N : News g L h (d :: e :: dx :: t :: x :: hx :: q :: th :: tail)) (sb : Heap.SameBut L h h') : News g L h' (x :: hx :: q :: th :: t :: tail) := by
  have up := fun p m => (⟨(sb.2 p.1 (N p m).2.1).trans (N p m).1, (N p m).2⟩ : h'.get? p.1 = some p.2 ∧ p.1 ≠ L ∧ g.get? p.1 = none)
  intro p hp
  rcases List.mem_cons.mp hp with rfl | hp
  · exact up _ (.tail _ (.tail _ (.tail _ (.tail _ (.head _)))))
  rcases List.mem_cons.mp hp with rfl | hp
  · exact up _ (.tail _ (.tail _ (.tail _ (.tail _ (.tail _ (.head _))))))
  rcases List.mem_cons.mp hp with rfl | hp
  · exact up _ (.tail _ (.tail _ (.tail _ (.tail _ (.tail _ (.tail _ (.head _)))))))
  rcases List.mem_cons.mp hp with rfl | hp
  · exact up _ (.tail _ (.tail _ (.tail _ (.tail _ (.tail _ (.tail _ (.tail _ (.head _))))))))
  rcases List.mem_cons.mp hp with rfl | hp
  · exact up _ (.tail _ (.tail _ (.tail _ (.head _))))
  exact up _ (.tail _ (.tail _ (.tail _ (.tail _ (.tail _ (.tail _ (.tail _ (.tail _ hp))))))))
theorem intTok {o : Option Value} {a b : Int} {t : Tok} (h : o = some (.int a t)) (e : a = b) : o = some (.int b t) := e ▸ h
theorem offE {g h h₁ : Heap} {L z : Addr} {news O' : List (Addr × Obj)} (_ : News g L h news) (hex : ∀ p ∈ O', h₁.get? p.1 = some p.2) (sub : ∀ p ∈ news, ∃ p' ∈ O', p'.1 = p.1) (n : h₁.get? z = none) : ∀ p ∈ news, p.1 ≠ z := fun p hp q => by
  obtain ⟨p', hp', y⟩ := sub p hp
  have := hex p' hp'
  rw [y, q, n] at this; cases this
set_option maxHeartbeats 8000000 in
theorem handled_spec {w : World} {pt : Program} {lo : List Str} {mean : ExcName → Option Value} {mg mb : Str → Option Value} {dp un : Nat} {gd : Option (List Code)} {cn : Str} {cs : Scope} {L a : Addr} {ccd : Value} {cl : List (Str × Addr)} {outer : List Env} {A₀ : Around} {base h₀ : Heap} {m : Str → Option Value} {s : Shared} {Q E : Value → Shared → Prop}
   {x hx q th fa eh : Addr} {objs tail : List (Addr × Obj)} {plan : List Int} {c cap : Nat} {cc most : Int} {tcc thn tm tv t0 t1 t2 t3 t4 t5 t6 t7 : Tok} {vst vup van vov vfr vtop : Value}
   (B : Below A₀ base outer h₀) (F : Fr h₀ L s.heap m) (X : (hd.heap_39 w.params).In h₀) (T : Top pt lo mean mg mb h₀) (hk : cs.kind = .function)
   (N : News h₀ L s.heap ((x, instObj 38 hx) :: (hx, holderD w t0 t1 t2 t3 t4 t5 t6 t7 vst vup van vov vfr (.int cc tcc) (.int 0 thn) vtop) :: (q, listOf #[] c) :: (th, (⟨.type "tuple", none, .seq #[.ref fa, .int most tm] cap, #[]⟩ : Obj)) :: tail))
   (hans : AnsC w fa q objs plan) {fo : Obj} (hfa : (fa, fo) ∈ objs) (hfo : ∃ oc od fd sl, fo = (⟨oc, od, .func fd, sl⟩ : Obj)) (hsub : ∀ p ∈ objs, p ∈ tail) (hrd : Ready s.heap L)
   (ne1 : ∀ p ∈ tail, @Ne Nat p.1 x) (ne2 : ∀ p ∈ tail, @Ne Nat p.1 hx) (ne3 : ∀ p ∈ tail, @Ne Nat p.1 q) (ne4 : ∀ p ∈ tail, @Ne Nat p.1 th) (n1 : @Ne Nat x hx) (n2 : @Ne Nat x q) (n3 : @Ne Nat hx q) (n4 : @Ne Nat x th) (n5 : @Ne Nat hx th) (n6 : @Ne Nat q th)
   (hpd : ∀ d ∈ plan, 0 ≤ d ∧ d ≤ 10) (hcc0 : 0 ≤ cc) (hcc3 : cc ≤ 3) (hm : most ≤ 10)
   (hd : dp + 40 < recursionLimit) (hu : un + 80 < cLine) (hH : Hd s.heap eh) (hHn : eh ∉ ((x, instObj 38 hx) :: (hx, holderD w t0 t1 t2 t3 t4 t5 t6 t7 vst vup van vov vfr (.int cc tcc) (.int 0 thn) vtop) :: (q, listOf #[] c) :: (th, (⟨.type "tuple", none, .seq #[.ref fa, .int most tm] cap, #[]⟩ : Obj)) :: tail).map (·.1))
   (ret : ∀ e dx sl fs items c' cc' tcc' thn' tail' v b x1 x2 x3 s1 s2 s3 r h' tk', s.heap.get? e = none → s.heap.get? dx = none → @Ne Nat e dx → (∀ p ∈ tail', @Ne Nat p.1 e) → (∀ p ∈ tail', @Ne Nat p.1 dx) → Fr h₀ L h' m →
     (∀ b o, b ∉ [hx, q] → s.heap.get? b = some o → h'.get? b = some o) → (∀ p ∈ tail', h'.get? p.1 = some p.2) → (∀ p ∈ tail, p ∈ tail') → (∀ p ∈ tail', p ∈ tail ∨ s.heap.get? p.1 = none) → Rep tail' items (run plan most 11 0 cc).1 →
     h'.get? q = some (listOf items.toArray c') → h'.get? hx = some (holderD w t0 t1 t2 t3 t4 t5 t6 t7 vst vup van vov vfr (.int cc' tcc') (.int ((run plan most 11 0 cc).1.length : Int) thn') vtop) →
     h'.get? e = some (⟨.ref 66, some dx, .fields fs, sl⟩ : Obj) → h'.get? dx = some (excD x1 x2 x3 s1 s2 s3 v r b) → OutOk (run plan most 11 0 cc).2 v b → Q (.ref e) { s with heap := h', toks := tk' }) :
   wpAny (model PySem.Challenge.rw_rh0158_01.row.prog w) (aTop (some (.ref eh)) dp un gd cn cs L a ccd cl outer) (call (.ref 97) [.ref x, .ref th, .int 0 tv]) Q E s := by
  w_top off; revert X; k_fill; intro X
  refine wpAny_call ?_
  k_dflt (refine' callF B F X N T rfl rfl hk (getK X F.keep (by k_is)) rfl (codeK X F.keep (by k_is)) ?k8 ?k9 ?kB ?_ ?c5; (case k8 => ktr_room); (case k9 => exact BindsTo.of_eq rfl); (case c5 => decide); (case kB => exact locs rfl); intro g' L' h' FG' F' N' B' X' T' hkeep hback hlt; (try dsimp only); (try k_fold))
  have hHg : Hd g' eh := hH.keeps fun a ha o e => by rw [List.mem_singleton.mp ha] at e ⊢; exact hkeep eh o e hHn
  k_steps
  unfold Stop
  k_dflt (refine' unpack_HN ?h ?X ?F ?N ?t ?n ?s ?_; (case h => rfl); (case X => first | with_reducible assumption | (refine' HdL.fr ?xa ?xb; (case xb => k_asm); (case xa => with_reducible assumption)) | (refine' hdOf ?xn ?xf ?xm ?x2 ?xh; (case xn => k_asm); (case xf => k_asm); (case xm => k_mem); (case x2 => with_reducible assumption); (case xh => with_reducible assumption))); (case F => k_asm); (case N => k_asm); (case t => exact News.isTup (by k_asm) (by k_mem)); (case n => rfl); (case s => rfl); k_whole)
  intro h₉ F₉ N₉
  k_steps
  unfold Stop
  rename Fr g' _ _ _ => FE
  rename News g' _ _ _ => NE
  refine withMap FE fun m₀ em FE' => ?_
  have r1 : m₀ "holder" = some (.ref x) := by rw [em]; rfl
  have r2 : m₀ "reply" = some (.ref fa) := by rw [em]; rfl
  have r3 : m₀ "most" = some (.int most tm) := by rw [em]; rfl
  have r4 : m₀ "tries" = some (.int cc tcc) := by rw [em]; rfl
  have r5 : m₀ "value" = some (.int 0 tv) := by rw [em]; rfl
  clear em FE
  refine while_I (HI w g' L' s m₀ x hx q th (⟨.type "tuple", none, .seq #[.ref fa, .int most tm] cap, #[]⟩ : Obj) (fun a b => holderD w t0 t1 t2 t3 t4 t5 t6 t7 vst vup van vov vfr a b vtop) tail plan most cc) (n₀ := 11) ?init ?turn
  case init =>
    exact ⟨_, _, m₀, 0, cc, [], c, cc, tcc, thn, tail, [], tcc, tv, rfl, rfl, FE', r4, r5, fun _ _ _ _ => rfl, NE, fun _ h => h, fun _ h => .inl h, trivial, ne1, ne2, ne3, ne4, rfl, hcc0, hcc0, by omega, hcc0, by omega, rfl, rfl⟩
  rintro n s' ⟨h, tk, m₁, k, depth, items, c₁, cc₁, tcc₁, thn₁, tail₁, done, ta, tb, rfl, rfl, F₁, q1, q2, q3, N₁, sub, fresh, rep, ne1', ne2', ne3', ne4', hdk, hd0, hkd, hd20, hcc0', hcc40, hr1, hr2⟩
  have hlen : items.length = k := rep.length.trans hdk
  have em1 : m₁ = fun (z : Str) => if z = "tries" then some (.int depth ta) else if z = "value" then some (.int (k : Int) tb) else if z = "holder" then some (.ref x) else if z = "reply" then some (.ref fa) else if z = "most" then some (.int most tm) else m₁ z := by
    funext z
    by_cases z1 : z = "tries"
    · rw [if_pos z1, z1, q1]
    rw [if_neg z1]
    by_cases z2 : z = "value"
    · rw [if_pos z2, z2, q2]
    rw [if_neg z2]
    by_cases z3 : z = "holder"
    · rw [if_pos z3, z3, ← r1]; exact q3 _ (by decide) (by decide) (by decide)
    rw [if_neg z3]
    by_cases z4 : z = "reply"
    · rw [if_pos z4, z4, ← r2]; exact q3 _ (by decide) (by decide) (by decide)
    rw [if_neg z4]
    by_cases z5 : z = "most"
    · rw [if_pos z5, z5, ← r3]; exact q3 _ (by decide) (by decide) (by decide)
    rw [if_neg z5]
  rw [em1] at F₁
  obtain ⟨oc, od, fd, sl, rfl⟩ := hfo
  have hfm := sub _ (hsub _ hfa)
  have hex := fun p hp => (N₁ p hp).1
  clear em1 NE FE'
  try k_fold
  have hrdg : Ready g' L := by
    obtain ⟨o, e, r⟩ := hrd
    refine ⟨o, hkeep _ _ e fun hm => ?_, r⟩
    obtain ⟨p, hp, z⟩ := List.mem_map.mp hm
    exact (N _ hp).2.1 z
  k_steps
  · rename News g' _ _ _ => NE
    rename Fr g' _ _ _ => FE
    dsimp only at NE FE
    have hex0 := fun p hp => (NE p hp).1
    k_dflt (refine' AnsC.use hans (L₂ := L) B' FE X' T' rfl rfl hrdg ?o ?N (neN n1) (neN n2) (neN n3) (hHg.fr FE) hd0 ?b2 ?b3 ?b4 ?b5 ?b6 ?b7 ?d ?u ?ok ?err)
    case o =>
      intro o ho
      have mm := sub _ (hsub _ ho)
      have z := NE _ (.tail _ (.tail _ (.tail _ (.tail _ mm))))
      exact ⟨z.1, z.2.1, z.2.2, ne1' _ mm, ne2' _ mm, ne3' _ mm⟩
    case N =>
      intro p hp
      rcases List.mem_cons.mp hp with rfl | hp
      · exact NE _ (.head _)
      rcases List.mem_cons.mp hp with rfl | hp
      · exact NE _ (.tail _ (.head _))
      rw [List.mem_singleton.mp hp]
      exact NE _ (.tail _ (.tail _ (.head _)))
    case b2 => omega
    case b3 => omega
    case b4 => omega
    case b5 => omega
    case b6 => omega
    case b7 => simp only [List.size_toArray]; omega
    case d => ktr_room
    case u => ktr_units
    case ok =>
      intro hz t ta' tb' tc' c' tr h' tk' ft F' K' e1 e2
      have l1 := allNe_of (newsNe NE ft)
      simp only [AllNe, and_true] at l1
      have N' := newsAdd (newsTurn NE K' e1 (by k_upd)) FE ft e2
      have hex1 := fun p hp => (N' p hp).1
      clear NE FE
      k_steps
      unfold Stop
      k_dflt (refine' luaerr_spec ?B ?F ?X ?T ?k ?d ?u ?_; (case B => k_asm); (case F => k_asm); (case X => k_asm); (case T => k_asm); (case k => first | rfl | assumption); (case d => ktr_room); (case u => ktr_units); (rename News _ _ _ _ => lN₉); (rename Fr _ _ _ _ => lF₉); intro e₉ d₉ t₉ q₉ x1₉ x2₉ x3₉ s1₉ s2₉ s3₉ h₉ tk₉ n1₉ n2₉ n3₉ F₉ K₉ y1₉ y2₉; (have l1₉ := allNe_of (newsNe lN₉ n1₉)); (have l2₉ := allNe_of (newsNe lN₉ n2₉)); (replace n3₉ := neN n3₉); (have N₉ := newsAdd (newsAdd (newsKeep lN₉ K₉) lF₉ n2₉ y2₉) lF₉ n1₉ y1₉); (simp only [AllNe, and_true] at l1₉ l2₉); clear lN₉ lF₉; (try dsimp only at N₉))
      k_steps
      dsimp only [qk]; repeat (k_unfold; try dsimp only)
      rename Fr g' _ _ _ => FE
      rename News g' _ _ _ => NE
      unfold LoopEnd
      dsimp only
      change Q _ _
      dsimp only
      rename (Heap.get? _ _ = none) => zfd
      revert zfd
      rename (Heap.get? _ _ = none) => fe'
      intro fd'
      rw [show items.toArray.size = items.length from rfl, hlen] at hz
      have e11 := az11 hkd (by assumption) hm
      rw [e11, run_zero (by assumption) hz] at hr1 hr2
      have ze := (NE _ (.head _)).2.2
      have zd := (NE _ (.tail _ (.head _))).2.2
      have zt := (NE _ (.tail _ (.tail _ (.head _)))).2.2
      have qe := hexNe hex1 fe'
      have qd := hexNe hex1 fd'
      refine' ret _ _ _ _ (items ++ [.ref t]) c' _ _ _ ((t, tup3 depth ((k : Int) + 1) (k : Int) ta' tb' tc') :: tail₁) _ _ _ _ _ _ _ _ _ _ _ (oldFresh hkeep hex1 (fun p hp => let ⟨p', a, b⟩ := sub4 sub p hp; ⟨p', .tail _ a, b⟩) fe' ze) (oldFresh hkeep hex1 (fun p hp => let ⟨p', a, b⟩ := sub4 sub p hp; ⟨p', .tail _ a, b⟩) fd' zd) ?p1 ?p2 ?p3 (frBack FG' FE) ?p4 ?p5 ?p6 ?p7 ?p8 ?p9 ?p10 (NE _ (.head _)).1 (NE _ (.tail _ (.head _))).1 ?p11
      case p1 => exact neN (newsApart NE (.head _) (.tail _ (.head _)) (.inl (by intro z; cases z)))
      case p2 => exact fun p hp => qe p (by rcases List.mem_cons.mp hp with rfl | hp; exact .head _; exact .tail _ (.tail _ (.tail _ (.tail _ (.tail _ hp)))))
      case p3 => exact fun p hp => qd p (by rcases List.mem_cons.mp hp with rfl | hp; exact .head _; exact .tail _ (.tail _ (.tail _ (.tail _ (.tail _ hp)))))
      case p4 => exact keepOf N NE hkeep FE.keep (subX (t' := tail₁) (by k_dflt k_mem) (by k_dflt k_mem) sub fun p hp => .tail _ (.tail _ (.tail _ (.tail _ (.tail _ (.tail _ (.tail _ hp)))))))
      case p5 => exact fun p hp => (NE p (.tail _ (.tail _ (by rcases List.mem_cons.mp hp with rfl | hp; exact .head _; exact .tail _ (.tail _ (.tail _ (.tail _ (.tail _ hp)))))))).1
      case p6 => exact fun p hp => .tail _ (sub p hp)
      case p7 =>
        intro p hp
        rcases List.mem_cons.mp hp with rfl | hp
        · exact .inr (oldFresh hkeep hex0 (sub4 sub) ft zt)
        · exact fresh p hp
      case p8 =>
        rw [hr1]
        exact (rep.mono fun p hp => .tail _ hp).push (e := (depth, (k : Int) + 1, (k : Int))) (.head _)
      case p9 =>
        rw [← List.push_toArray]
        exact (NE _ (.tail _ (.tail _ (.tail _ (.tail _ (.tail _ (.head _))))))).1
      case p10 =>
        rw [hr1, List.length_append, hdk]
        exact (NE _ (.tail _ (.tail _ (.tail _ (.tail _ (.head _)))))).1
      case p11 =>
        rw [hr2]
        exact ⟨⟨_, rfl⟩, rfl⟩
    case err =>
      intro hz t ta' tb' tc' c' e dx T r x1 x2 x3 s1 s2 s3 tv' tcc' h' tk' ft fe fdx fT b1 b2 b3 b4 b5 b6 F' K' c1 c2 c3 xc c4
      rw [show items.toArray.size = items.length from rfl, hlen] at hz
      have N1 := newsTwo NE K' c3 c1 (by k_upd) (by k_upd)
      have N2 := newsAdd (newsAdd N1 FE ft c2) FE fdx c4
      have zt := freshSub FE.keep ft
      have ze := freshSub FE.keep fe
      have zT := freshSub FE.keep fT
      obtain ⟨oL, y1, y2⟩ := id hrdg
      obtain ⟨oL', _, _, yl, _⟩ := id F'.ns
      obtain ⟨oG, _, _, yG, _⟩ := id T'.g
      have yC := X' _ _ (clsLuaError w.params)
      have w1 : ∀ {b o}, g'.get? b = some o → b ≠ T := fun {b o} q z => by rw [z, zT] at q; cases q
      have w2 : ∀ {b o}, g'.get? b = some o → b ≠ e := fun {b o} q z => by rw [z, ze] at q; cases q
      have w3 : ∀ {b o}, g'.get? b = some o → b ≠ L' := fun {b o} q z => by rw [z, frNone FE] at q; cases q
      change wpAny _ _ (noteFrame _ _) _ _ _
      obtain ⟨oF, _, _, yF, _⟩ := id FE.ns
      have v1 : e ≠ L' := fun z => by rw [z, yF] at fe; cases fe
      have v2 : T ≠ L' := fun z => by rw [z, yF] at fT; cases fT
      have qe := offE N1 hex0 (sub4 fun _ h => h) fe
      have qT := offE N1 hex0 (sub4 fun _ h => h) fT
      have qd := offE N1 hex0 (sub4 fun _ h => h) fdx
      have qt := offE N1 hex0 (sub4 fun _ h => h) ft
      refine caught_x (S := [L']) rfl rfl rfl rfl ?R ?heS v1 v2 xc F'.ns (T'.g.keeps F'.keep) (mg_of X' T'.g (by k_is)) ?hC (w2 yG).symm (w1 yG).symm (w2 yC).symm (w1 yC).symm ?g5 ?k
      case heS => simpa using v1
      case g5 => simpa using w3 yC
      case hC => exact fun P => (clsLuaError P).trans (F'.keep _ _ yC).symm
      case R => exact fun h₂ k => rdy_head (o := oL') rfl (k.get (by simpa using Ne.symm v2) (by simp) yl) (fun z => by cases z) (by simp) fun h₃ so => rdy_stop rfl ⟨oL, (Kp.of_slotsOnly so).get (by simp) (by simpa using w3 y1) (k.get (by simpa using w1 y1) (by simp) (F'.keep _ _ y1)), y2⟩
      case k =>
        intro h₂ tk₂ T₂ fT₂ x₂ K₂ n₂ r₂
        have F₂ : Fr g' L' h₂ _ := ⟨n₂, fun b o q => K₂.get (by simp only [List.mem_cons, List.not_mem_nil, or_false, not_or]; exact ⟨w2 q, w1 q, w3 q⟩) (by simpa using w3 q) (F'.keep b o q), F'.above⟩
        have N3 := newsKp N2 K₂ (by
          refine List.forall_mem_cons.mpr ⟨?_, List.forall_mem_cons.mpr ⟨?_, fun p hp => ?_⟩⟩ <;> simp only [List.mem_cons, List.not_mem_nil, or_false, not_or]
          · exact ⟨b1.symm, b3.symm, fun z => by rw [z, yF] at fdx; cases fdx⟩
          · exact ⟨b4, b6.symm, fun z => by rw [z, yF] at ft; cases ft⟩
          · exact ⟨qe p hp, qT p hp, (N1 p hp).2.1⟩) (fun p hp => by simpa using (N2 p hp).2.1)
        obtain ⟨fs, sl, oT, ts, he, hsz, -, hfs2, -⟩ := id x₂
        have N4 := newsAdd N3 FE fe he
        clear N3 N2 N1 FE NE F' n₂ x₂ xc
        k_steps
        unfold Stop
        k_dflt (refine' max_HN ?h ?X ?F ?N ?_; (case h => rfl); (case X => first | with_reducible assumption | (refine' hdOf ?xn ?xf ?xm ?x2 ?xh; (case xn => k_asm); (case xf => k_asm); (case xm => k_mem); (case x2 => with_reducible assumption); (case xh => with_reducible assumption))); (case F => k_asm); (case N => k_asm); k_whole)
        intro h₉ tk₉ F₉ N₉
        k_steps
        unfold Stop
        k_dflt (refine' items_HN ?h ?X ?F ?N ?t ?n ?_; (case h => rfl); (case X => first | with_reducible assumption | (refine' HdL.fr ?xa ?xb; (case xb => k_asm); (case xa => with_reducible assumption)) | (refine' hdOf ?xn ?xf ?xm ?x2 ?xh; (case xn => k_asm); (case xf => k_asm); (case xm => k_mem); (case x2 => with_reducible assumption); (case xh => with_reducible assumption))); (case F => k_asm); (case N => k_asm); (case t => exact News.isTup (by k_asm) (by k_mem)); (case n => rfl); k_whole)
        intro h₉ F₉ N₉
        k_steps
        rename Fr g' _ _ _ => F5
        rename News g' _ _ _ => N5
        refine wpAny_nameGoes_keeps rfl F5.ns rfl fun h₃ v n₃ sb₃ => ?_
        have F6 := F5.set n₃ sb₃
        dsimp only
        refine wpAny_execs_nil ?_
        unfold LoopEnd
        dsimp only
        have hsz' : items.toArray.size = k := hlen
        have eD : (if depth + deeperAt plan items.toArray.size - 1 > depth + 1 then depth + deeperAt plan items.toArray.size - 1 else depth + 1) = depth + max (deeperAt plan k - 1) 1 := by
          rw [hsz']; exact azD _ _
        have dB := deeper_bounds hpd k
        rename depth < most => hlt'
        have e11 := az11 hkd hlt' hm
        have e12 := az12 k
        rw [e11, run_more hlt' hz] at hr1 hr2
        have N6 := newsH N5 sb₃
        rw [List.push_toArray] at N6
        refine ⟨11 - (k + 1), azlt e11, h₃, _, _, k + 1, depth + max (deeperAt plan k - 1) 1, items ++ [.ref t], c', depth + deeperAt plan items.toArray.size - 1, _, _, (t, tup3 depth ((k : Int) + 1) (k : Int) ta' tb' tc') :: tail₁, done ++ [(depth, (k : Int) + 1, (k : Int))], _, _, rfl, rfl, F6, intTok rfl eD, rfl, ?v3, N6, fun p hp => .tail _ (sub p hp), ?v5, ?v6, ?v7, ?v8, ?v9, ?v10, ?v11, ?v12, ?v13, ?v14, ?v15, ?v16, ?v17, ?v18⟩
        case v3 =>
          intro z z1 z2 z3
          simp only [if_neg z3, if_neg z2, if_neg z1]
          by_cases z4 : z = "holder"
          · rw [if_pos z4, z4, r1]
          rw [if_neg z4]
          by_cases z4 : z = "reply"
          · rw [if_pos z4, z4, r2]
          rw [if_neg z4]
          by_cases z4 : z = "most"
          · rw [if_pos z4, z4, r3]
          rw [if_neg z4]
          exact q3 z z1 z2 z3
        case v5 =>
          intro p hp
          rcases List.mem_cons.mp hp with rfl | hp
          · exact .inr (oldFresh hkeep hex0 (sub4 sub) ft zt)
          · exact fresh p hp
        case v6 => exact (rep.mono fun p hp => .tail _ hp).push (e := (depth, (k : Int) + 1, (k : Int))) (.head _)
        case v7 => exact List.forall_mem_cons.mpr ⟨(qt _ (.head _)).symm, ne1'⟩
        case v8 => exact List.forall_mem_cons.mpr ⟨(qt _ (.tail _ (.head _))).symm, ne2'⟩
        case v9 => exact List.forall_mem_cons.mpr ⟨(qt _ (.tail _ (.tail _ (.head _)))).symm, ne3'⟩
        case v10 => exact List.forall_mem_cons.mpr ⟨(qt _ (.tail _ (.tail _ (.tail _ (.head _))))).symm, ne4'⟩
        case v11 => rw [List.length_append, hdk]; rfl
        case v12 => exact az0 _ hd0
        case v13 => exact azk _ hkd
        case v14 => exact az20 hlt' hm dB.2
        case v15 => rw [hsz']; exact azp hd0 dB.1 hz
        case v16 => rw [hsz']; exact az40 hlt' hm dB.2
        case v17 => rw [hr1, e12, List.append_assoc]; rfl
        case v18 => rw [hr2, e12]
  · unfold Stop
    k_dflt (refine' eie_spec ?B ?F ?X ?T ?k ?d ?u ?_; (case B => k_asm); (case F => k_asm); (case X => k_asm); (case T => k_asm); (case k => first | rfl | assumption); (case d => ktr_room); (case u => ktr_units); (rename News _ _ _ _ => lN₉); (rename Fr _ _ _ _ => lF₉); intro e₉ d₉ t₉ q₉ x1₉ x2₉ x3₉ s1₉ s2₉ s3₉ tb₉ h₉ tk₉ n1₉ n2₉ n3₉ F₉ K₉ y1₉ y2₉; (have l1₉ := allNe_of (newsNe lN₉ n1₉)); (have l2₉ := allNe_of (newsNe lN₉ n2₉)); (replace n3₉ := neN n3₉); (have N₉ := newsAdd (newsAdd (newsKeep lN₉ K₉) lF₉ n2₉ y2₉) lF₉ n1₉ y1₉); (simp only [AllNe, and_true] at l1₉ l2₉); clear lN₉ lF₉; (try dsimp only at N₉))
    k_steps
    dsimp only [qk]; repeat (k_unfold; try dsimp only)
    rename Fr g' _ _ _ => FE
    rename News g' _ _ _ => NE
    change Q _ _
    try dsimp only
    rename (Heap.get? _ _ = none) => zfd
    revert zfd
    rename (Heap.get? _ _ = none) => fe'
    intro fd'
    rw [run_stop (depth := depth) (most := most) (by assumption)] at hr1 hr2
    have ze := (NE _ (.head _)).2.2
    have zd := (NE _ (.tail _ (.head _))).2.2
    have qe := hexNe hex fe'
    have qd := hexNe hex fd'
    refine' ret _ _ _ _ items c₁ _ _ _ tail₁ _ _ _ _ _ _ _ _ _ _ _ (oldFresh hkeep hex (sub4 sub) fe' ze) (oldFresh hkeep hex (sub4 sub) fd' zd) ?u1 ?u2 ?u3 (frBack FG' FE) ?u4 ?u5 sub fresh ?u8 ?u9 ?u10 (NE _ (.head _)).1 (NE _ (.tail _ (.head _))).1 ?u11
    case u1 => exact neN (newsApart NE (.head _) (.tail _ (.head _)) (.inl (by intro z; cases z)))
    case u2 => exact fun p hp => qe p (.tail _ (.tail _ (.tail _ (.tail _ hp))))
    case u3 => exact fun p hp => qd p (.tail _ (.tail _ (.tail _ (.tail _ hp))))
    case u4 => exact keepOf N NE hkeep FE.keep (subX (t' := tail₁) (by k_dflt k_mem) (by k_dflt k_mem) sub fun p hp => .tail _ (.tail _ (.tail _ (.tail _ (.tail _ (.tail _ hp))))))
    case u5 => exact fun p hp => (NE p (.tail _ (.tail _ (.tail _ (.tail _ (.tail _ (.tail _ hp))))))).1
    case u8 =>
      rw [hr1, List.append_nil]
      exact rep
    case u9 => exact (NE _ (.tail _ (.tail _ (.tail _ (.tail _ (.head _)))))).1
    case u10 =>
      rw [hr1, List.append_nil, hdk]
      exact (NE _ (.tail _ (.tail _ (.tail _ (.head _))))).1
    case u11 =>
      rw [hr2]
      exact ⟨⟨_, rfl⟩, rfl⟩
end
section
open PySem PySem.W PyProof.Rows PySem.Calls PySem.Spec
set_option maxRecDepth 100000
local macro_rules | `(tactic| walk_at "call ref") => `(tactic| (k_here; (with_reducible show wpAny _ _ (call (Value.ref 66) _) _ _ _); refine stop ?_))
local macro_rules | `(tactic| walk_at "exec Raise some none") => `(tactic| (k_here; refine stop ?_))
set_option maxHeartbeats 8000000 in
theorem lraise_spec {w : World} {pt : Program} {lo : List Str} {mean : ExcName → Option Value} {mg mb : Str → Option Value} {dp un : Nat} {gd : Option (List Code)} {cn : Str} {cs : Scope} {L a : Addr} {ccd : Value} {cl : List (Str × Addr)} {outer : List Env} {A₀ : Around} {base h₀ : Heap} {m : Str → Option Value} {s : Shared} {Q E : Value → Shared → Prop}
   (B : Below A₀ base outer h₀) (F : Fr h₀ L s.heap m) (X : (hd.heap_39 w.params).In h₀) (T : Top pt lo mean mg mb h₀) (hk : cs.kind = .function)
   (hd : dp + 20 < recursionLimit) (hu : un + 40 < cLine)
   (err : ∀ e dx T x1 x2 x3 s1 s2 s3 tv r h' tk', s.heap.get? e = none → s.heap.get? dx = none → s.heap.get? T = none → @Ne Nat e dx → T ≠ e → T ≠ dx → Kp [] ((envX cn cs L a ccd cl :: outer).filterMap (·.frame)) s.heap h' → Xc h' e dx T .none .none →
     h'.get? dx = some (excD x1 x2 x3 s1 s2 s3 (.int 0 tv) r false) → E (.ref e) { s with heap := h', toks := tk' }) :
   wpAny (model PySem.Challenge.rw_rh0158_01.row.prog w) (aTop none dp un gd cn cs L a ccd cl outer) (call (.ref 146) []) Q E s := by
  w_top off; revert X; k_fill; intro X
  have N : News h₀ L s.heap [] := News.nil
  refine wpAny_call ?_
  k_dflt (refine' callF B F X N T rfl rfl hk (getK X F.keep (by k_is)) rfl (codeK X F.keep (by k_is)) ?k8 ?k9 ?kB ?_ ?c5; (case k8 => ktr_room); (case k9 => exact BindsTo.of_eq rfl); (case c5 => decide); (case kB => exact locs rfl); intro g' L' h' FG' F' N' B' X' T' hkeep hback hlt; (try dsimp only); (try k_fold))
  have fL' : s.heap.get? L' = none := freshOf hkeep (frNone F') (by simp)
  k_steps
  unfold Stop
  k_dflt (refine' raise_none ?h ?_; (case h => rfl); k_whole)
  try k_fold
  k_steps
  unfold Stop
  k_dflt (refine' luaerr_spec ?B ?F ?X ?T ?k ?d ?u ?_; (case B => k_asm); (case F => k_asm); (case X => k_asm); (case T => k_asm); (case k => first | rfl | assumption); (case d => ktr_room); (case u => ktr_units); (rename News _ _ _ _ => lN₉); (rename Fr _ _ _ _ => lF₉); intro e₉ d₉ t₉ q₉ x1₉ x2₉ x3₉ s1₉ s2₉ s3₉ h₉ tk₉ n1₉ n2₉ n3₉ F₉ K₉ y1₉ y2₉; (have l1₉ := allNe_of (newsNe lN₉ n1₉)); (have l2₉ := allNe_of (newsNe lN₉ n2₉)); (replace n3₉ := neN n3₉); (have N₉ := newsAdd (newsAdd (newsKeep lN₉ K₉) lF₉ n2₉ y2₉) lF₉ n1₉ y1₉); (simp only [AllNe, and_true] at l1₉ l2₉); clear lN₉ lF₉; (try dsimp only at N₉))
  k_steps
  change RaiseN _ _ _ _
  rename Fr g' _ _ _ => FE
  rename News g' _ _ _ => NE
  rename @Ne Nat _ _ => hne
  obtain ⟨he, heL, hge⟩ := NE _ (.head _)
  obtain ⟨hd1, hdL, hgd⟩ := NE _ (.tail _ (.head _))
  dsimp only at he heL hge hd1 hdL hgd
  refine ⟨_, _, _, _, rfl, X'.keeps FE.keep, he, rfl, ?_⟩
  obtain ⟨oL', _, _, yl, _⟩ := id FE.ns
  have ff := B'.frames
  have nf : ∀ {b}, g'.get? b = none → b ∉ (envX cn cs L a ccd cl :: outer).filterMap (·.frame) := fun {b} z hm => by
    obtain ⟨_, o, y, _⟩ := ff.mem hm
    rw [z] at y; cases y
  have ff1 := ff.of_keeps (fun b o e _ => ⟨o, FE.keep b o e, rfl⟩)
  change wpAny _ _ (leaving _ _) _ _ _
  refine leave_x0 (L := L') (S := L' :: (envX cn cs L a ccd cl :: outer).filterMap (·.frame)) rfl rfl (rdy_head rfl yl (fun z => by cases z) (nf (frNone FE)) fun h₂ so => rdy_all (ff1.of_slotsOnly so)) (fun hm => (List.mem_cons.mp hm).elim heL (nf hge)) heL he (by simp) rfl rfl fun h₂ T₂ hT hx' hk' => ?_
  have fe := freshOf hkeep hge (by simp)
  have fd := freshOf hkeep hgd (by simp)
  have k0 : ∀ b o, s.heap.get? b = some o → _ := fun b o e => FE.keep b o (hkeep b o e (by simp))
  have fT : s.heap.get? T₂ = none := freshSub k0 hT
  have k1 : Kp [] [] s.heap _ := Kp.of_keep fun b o _ e => k0 b o e
  have k2 := (k1.mono (fun _ z => nomatch z) fun _ z => nomatch z).trans hk'
  have k3 := (k2.drop (X' := []) fun b hb => .inr (by rw [List.mem_singleton.mp hb]; exact fe)).dropS (S' := (envX cn cs L a ccd cl :: outer).filterMap (·.frame)) fun b hb => (List.mem_cons.mp hb).elim (fun z => .inr (z ▸ fL')) .inl
  exact err _ _ T₂ _ _ _ _ _ _ _ _ _ _ fe fd fT hne (by obtain ⟨_, _, _, _, _, _, _, _, z, _⟩ := hx'; exact z) (fun z => by rw [z, hd1] at hT; cases hT) k3 hx' (hk'.get (by simpa using Ne.symm hne) (fun hm => (List.mem_cons.mp hm).elim hdL (nf hgd)) hd1)
end
section
open PySem PySem.W PyProof.Rows PySem.Calls PySem.Spec
set_option maxRecDepth 100000
/-- the base of a callee's frame, the caller's frame's slots being turned -/
theorem rebase {h₀ g h h' : Heap} {L Lg : Addr} {m m' m'' : Str → Option Value} {X : List Addr} (FG : Fr h₀ L g m) (FE : Fr g Lg h m') (k : Kp X [Lg, L] h h') (hX : ∀ b, b ∈ X → g.get? b = none) (n : h'.Ns Lg m'') :
    ∃ g₂, Fr h₀ L g₂ m ∧ Fr g₂ Lg h' m'' ∧ (∀ b, b ≠ L → g₂.get? b = g.get? b) ∧ ∃ o o', g.get? L = some o ∧ g₂.get? L = some o' ∧ o'.data = o.data := by
  obtain ⟨oL, es, ep, hL, hd, r⟩ := id FG.ns
  have hLX : L ∉ X := fun z => by rw [hX L z] at hL; cases hL
  obtain ⟨sl, e1, -⟩ := k L oL hLX (FE.keep _ _ hL)
  have hf : ({ oL with slots := sl } : Obj).isFreed = false := by
    have := (Heap.get?_some_iff.mp hL).2
    obtain ⟨c, d, dt, s0⟩ := oL
    cases dt <;> first | rfl | (simp [Obj.isFreed] at this)
  have gL := Heap.get?_update_self (fun _ => ({ oL with slots := sl } : Obj)) hL hf
  have gO : ∀ b, b ≠ L → (g.update L fun _ => ({ oL with slots := sl } : Obj)).get? b = g.get? b := fun b nb => Heap.get?_update_other _ _ (Ne.symm nb)
  have nL : ∀ b o, h₀.get? b = some o → b ≠ L := fun b o e z => by have := frNone FG; rw [← z, e] at this; cases this
  refine ⟨_, ⟨⟨_, es, ep, gL, hd, r⟩, fun b o e => (gO b (nL b o e)).trans (FG.keep b o e), FG.above⟩, ⟨n, fun b o e => ?_, ?_⟩, gO, oL, _, hL, gL, rfl⟩
  · by_cases z : b = L
    · rw [z, gL] at e
      obtain rfl := Option.some.inj e
      rw [z]; exact e1
    · rw [gO b z] at e
      have nLg : b ≠ Lg := fun y => by have := frNone FE; rw [← y, e] at this; cases this
      exact k.get (fun y => by rw [hX b y] at e; cases e) (by simp [z, nLg]) (FE.keep b o e)
  · have : (g.update L fun _ => ({ oL with slots := sl } : Obj)).objs.size = g.objs.size := by simp [Heap.update]
    rw [this]; exact FE.above
theorem keepOf2 {h₀ g g₂ h h' : Heap} {L L' : Addr} {S : List Addr} {old new : List (Addr × Obj)} (N : News h₀ L h old) (NE : News g₂ L' h' new) (hkeep : ∀ b o, h.get? b = some o → b ∉ old.map (·.1) → g.get? b = some o) (FE : ∀ b o, b ∉ S → g.get? b = some o → h'.get? b = some o)
    (sub : ∀ p ∈ old, p.1 ∉ S → p ∈ new) : ∀ b o, b ∉ S → h.get? b = some o → h'.get? b = some o := fun b o n e => by
  by_cases hm : b ∈ old.map (·.1)
  · obtain ⟨p, hp, rfl⟩ := List.mem_map.mp hm
    have e1 := (N p hp).1
    rw [e] at e1
    obtain rfl := Option.some.inj e1
    exact (NE _ (sub p hp n)).1
  · exact FE b o n (hkeep b o e hm)
theorem nameGoes_N {M : Model} {A : Around} {E : Value → Shared → Prop} {s : Shared} {env : Env} {n : Str} {pos : Pos} {h₀ : Heap} {L : Addr} {m : Str → Option Value} {news : List (Addr × Obj)} {Q : Unit → Shared → Prop}
    (hl : env.kindOf n = some .local) (hL : env.locals = L) (hk : env.scope.kind = .function) (F : Fr h₀ L s.heap m) (N : News h₀ L s.heap news)
    (h : ∀ h' v, Fr h₀ L h' (fun x => if x = n then v else m x) → News h₀ L h' news → Q () { s with heap := h', toks := s.toks + 1 }) : wpAny M A (do bindName env n .none; unbindBehindTheSuite env n pos) Q E s := by
  subst hL
  exact wpAny_nameGoes_keeps hl F.ns (by rw [hk]; rfl) fun h' v hn sb => h h' v (F.set hn sb) fun p hp => ⟨(sb.2 p.1 (N p hp).2.1).trans (N p hp).1, (N p hp).2⟩
local macro_rules | `(tactic| walk_at "bind") => `(tactic| (k_here; refine stop ?_))
local macro_rules | `(tactic| walk_at "exec Try cons cons nil cons") => `(tactic| (k_here; refine stop ?_))
local macro_rules | `(tactic| walk_at "call ref") => `(tactic| (k_here; (with_reducible show wpAny _ _ (call (Value.ref 146) _) _ _ _); refine stop ?_))
local macro_rules | `(tactic| walk_at "call ref") => `(tactic| (k_here; (with_reducible show wpAny _ _ (call (Value.ref 97) _) _ _ _); refine stop ?_))
local macro_rules | `(tactic| walk_at "getAttr ref") => `(tactic| walk_at "mine2")
local macro_rules | `(tactic| k_mem) => `(tactic| (refine' memOf ?_; assumption))
local macro_rules | `(tactic| k_all) => `(tactic| assumption)
set_option maxHeartbeats 8000000 in
theorem gw_spec {w : World} {pt : Program} {lo : List Str} {mean : ExcName → Option Value} {mg mb : Str → Option Value} {dp un : Nat} {gd : Option (List Code)} {cn : Str} {cs : Scope} {L a : Addr} {ccd : Value} {cl : List (Str × Addr)} {A₀ : Around} {base h₀ : Heap} {m : Str → Option Value} {s : Shared} {Q E : Value → Shared → Prop}
   {x hx q th fa : Addr} {objs tail : List (Addr × Obj)} {plan : List Int} {c cap : Nat} {cc most : Int} {tcc thn tm t0 t1 t2 t3 t4 t5 t6 t7 : Tok} {vst vup vfr vtop : Value}
   (B : Below A₀ base [] h₀) (F : Fr h₀ L s.heap m) (X : (hd.heap_39 w.params).In h₀) (T : Top pt lo mean mg mb h₀) (hk : cs.kind = .function)
   (N : News h₀ L s.heap ((x, instObj 38 hx) :: (hx, holderD w t0 t1 t2 t3 t4 t5 t6 t7 vst vup .none (.bool false) vfr (.int cc tcc) (.int 0 thn) vtop) :: (q, listOf #[] c) :: (th, (⟨.type "tuple", none, .seq #[.ref fa, .int most tm] cap, #[]⟩ : Obj)) :: tail))
   (hans : AnsC w fa q objs plan) {fo : Obj} (hfa : (fa, fo) ∈ objs) (hfo : ∃ oc od fd sl, fo = (⟨oc, od, .func fd, sl⟩ : Obj)) (hsub : ∀ p ∈ objs, p ∈ tail)
   (ne1 : ∀ p ∈ tail, @Ne Nat p.1 x) (ne2 : ∀ p ∈ tail, @Ne Nat p.1 hx) (ne3 : ∀ p ∈ tail, @Ne Nat p.1 q) (ne4 : ∀ p ∈ tail, @Ne Nat p.1 th) (n1 : @Ne Nat x hx) (n2 : @Ne Nat x q) (n3 : @Ne Nat hx q) (n4 : @Ne Nat x th) (n5 : @Ne Nat hx th) (n6 : @Ne Nat q th)
   (hpd : ∀ d ∈ plan, 0 ≤ d ∧ d ≤ 10) (hcc0 : 0 ≤ cc) (hcc3 : cc ≤ 3) (hm : most ≤ 10)
   (hd : dp + 60 < recursionLimit) (hu : un + 120 < cLine)
   (ret : ∀ e dx sl fs items c' cc' tcc' thn' tail' v b x1 x2 x3 s1 s2 s3 r h' tk', s.heap.get? e = none → s.heap.get? dx = none → @Ne Nat e dx → (∀ p ∈ tail', @Ne Nat p.1 e) → (∀ p ∈ tail', @Ne Nat p.1 dx) → Fr h₀ L h' m →
     (∀ b o, b ∉ [hx, q, L] → s.heap.get? b = some o → h'.get? b = some o) → (∀ p ∈ tail', h'.get? p.1 = some p.2) → (∀ p ∈ tail, p ∈ tail') → (∀ p ∈ tail', p ∈ tail ∨ s.heap.get? p.1 = none) → Rep tail' items (run plan most 11 0 cc).1 →
     h'.get? q = some (listOf items.toArray c') → h'.get? hx = some (holderD w t0 t1 t2 t3 t4 t5 t6 t7 vst vup .none (.bool false) vfr (.int cc' tcc') (.int ((run plan most 11 0 cc).1.length : Int) thn') vtop) →
     h'.get? e = some (⟨.ref 66, some dx, .fields fs, sl⟩ : Obj) → h'.get? dx = some (excD x1 x2 x3 s1 s2 s3 v r b) → OutOk (run plan most 11 0 cc).2 v b → Q (.ref e) { s with heap := h', toks := tk' }) :
   wpAny (model PySem.Challenge.rw_rh0158_01.row.prog w) (aTop none dp un gd cn cs L a ccd cl []) (call (.ref 104) [.ref x, .ref 146, .ref th]) Q E s := by
  w_top off; revert X; k_fill; intro X
  refine wpAny_call ?_
  k_dflt (refine' callF B F X N T rfl rfl hk (getK X F.keep (by k_is)) rfl (codeK X F.keep (by k_is)) ?k8 ?k9 ?kB ?_ ?c5; (case k8 => ktr_room); (case k9 => exact BindsTo.of_eq rfl); (case c5 => decide); (case kB => exact locs rfl); intro g' L' h' FG' F' N' B' X' T' hkeep hback hlt; (try dsimp only); (try k_fold))
  k_steps
  unfold Stop
  k_dflt (refine wpAny_Try_except_finally ?_)
  try k_fold
  k_steps
  unfold Stop
  rename Fr g' _ _ _ => FE
  rename News g' _ _ _ => NE
  have hex0 := fun p hp => (NE p hp).1
  dsimp only at NE FE hex0
  change wpAny _ _ (call (.ref 146) []) _ _ _
  refine lraise_spec B' FE X' T' rfl (by ktr_room) (by ktr_units) fun e dx T₁ x1 x2 x3 s1 s2 s3 tv r h₂ tk₂ fe fdx fT b1 b2 b3 K₂ xc c4 => ?_
  replace K₂ : Kp [] [L', L] _ h₂ := K₂
  have ze := freshSub FE.keep fe
  have zd := freshSub FE.keep fdx
  have zT := freshSub FE.keep fT
  obtain ⟨oL, _, _, yL, _⟩ := id FG'.ns
  obtain ⟨oL', _, _, yl, _⟩ := id FE.ns
  obtain ⟨oG, _, _, yG, _⟩ := id T'.g
  have yC := X' _ _ (clsLuaError w.params)
  have w1 : ∀ {b o}, g'.get? b = some o → b ≠ T₁ := fun {b o} q z => by rw [z, zT] at q; cases q
  have w2 : ∀ {b o}, g'.get? b = some o → b ≠ e := fun {b o} q z => by rw [z, ze] at q; cases q
  have w3 : ∀ {b o}, g'.get? b = some o → b ≠ L' := fun {b o} q z => by rw [z, frNone FE] at q; cases q
  have w4 : ∀ {b o}, h₀.get? b = some o → b ≠ L := fun {b o} q z => by rw [z, frNone F] at q; cases q
  have w5 : ∀ {b o}, g'.get? b = some o → b ≠ dx := fun {b o} q z => by rw [z, zd] at q; cases q
  have v1 : e ≠ L' := fun z => by rw [z, yl] at fe; cases fe
  have v2 : T₁ ≠ L' := fun z => by rw [z, yl] at fT; cases fT
  have v3 : dx ≠ L' := fun z => by rw [z, yl] at fdx; cases fdx
  obtain ⟨sl', yl2, -⟩ := K₂ _ _ (by simp) yl
  have yC0 := X _ _ (clsLuaError w.params)
  change wpAny _ _ (noteFrame _ _) _ _ _
  refine caught_x (S := [L', L]) (L := L') rfl rfl rfl rfl ?R ?heS v1 v2 xc (K₂.ns (by simp) FE.ns) (K₂.ns (by simp) (T'.g.keeps FE.keep)) (mg_of X' T'.g (by k_is)) ?hC (w2 yG).symm (w1 yG).symm (w2 yC).symm (w1 yC).symm ?g5 ?k
  case heS => simp [v1, (w2 yL).symm]
  case g5 => simp [w3 yC, w4 yC0]
  case hC => exact fun P => (clsLuaError P).trans (K₂.get (by simp) (by simp [w3 yC, w4 yC0]) (FE.keep _ _ yC)).symm
  case R => exact fun h₃ k => rdy_head rfl (k.get (by simpa using Ne.symm v2) (by simp) yl2) (fun z => by cases z) (by simpa using (w3 yL).symm) fun h₄ so => rdy_all ((B'.frames.of_keeps (fun b o z _ => by
      obtain ⟨sl, a, -⟩ := K₂ b o (by simp) (FE.keep _ _ z)
      obtain ⟨sl2, a2, -⟩ := k b _ (by simpa using w1 z) a
      exact ⟨_, a2, rfl⟩)).of_slotsOnly so)
  case k =>
    intro h₃ tk₃ T₃ fT₃ x₃ K₃ n₃ r₃
    have Kt := (K₂.mono (X' := [e, T₁, L']) (fun _ z => nomatch z) fun _ z => z).trans K₃
    obtain ⟨g₂, FG₂, FE₂, gO, oLa, oLb, yLa, yLb, yd⟩ := rebase FG' FE Kt (fun b hb => by
      simp only [List.mem_cons, List.not_mem_nil, or_false] at hb
      rcases hb with rfl | rfl | rfl
      · exact ze
      · exact zT
      · exact frNone FE) n₃
    have nL : ∀ {b}, g'.get? b = none → b ≠ L := fun {b} z q => by rw [q, yL] at z; cases z
    have B₂ : Below (aTop none dp un gd cn cs L a ccd cl []) base [envX cn cs L a ccd cl] g₂ := ⟨B'.stack, fun b o z => (gO b (fun q => by
        have := (B'.frames.mem (b := L) (.head _)).1
        rw [← q, z] at this; cases this)).trans (B'.stays b o z), B'.frames.of_keeps (fun b o z _ => by
        by_cases q : b = L
        · rw [q, yLa] at z
          obtain rfl := Option.some.inj z
          exact ⟨oLb, q ▸ yLb, yd⟩
        · exact ⟨o, (gO b q).trans z, rfl⟩)⟩
    have X₂ := X.keeps FG₂.keep
    have T₂ := T.keeps FG₂.keep
    obtain ⟨fs, sl, oT, ts, he, hsz, -, hfs2, -⟩ := id x₃
    have N₂ : News g₂ L' h₃ ((e, _) :: (dx, _) :: _) := List.forall_mem_cons.mpr ⟨⟨he, v1, (gO _ (nL ze)).trans ze⟩, List.forall_mem_cons.mpr ⟨⟨K₃.get (by simp [Ne.symm b1, Ne.symm b3, v3]) (by simp [v3, nL zd]) c4, v3, (gO _ (nL zd)).trans zd⟩, fun p hp => ⟨Kt.get (by
        simp only [List.mem_cons, List.not_mem_nil, or_false, not_or]
        exact ⟨hexNe hex0 fe p hp, hexNe hex0 fT p hp, (NE p hp).2.1⟩) (by simp [(NE p hp).2.1, nL (NE p hp).2.2]) (NE p hp).1, (NE p hp).2.1, (gO _ (nL (NE p hp).2.2)).trans (NE p hp).2.2⟩⟩⟩
    have hH : Hd h₃ e := hd1 he rfl hfs2
    clear FE NE n₃ B'
    k_steps
    unfold Stop
    have N₃ := fun p hp => N₂ p (.tail _ (.tail _ (.tail _ hp)))
    have yx := fun p hp => (N₃ p hp).1
    refine handled_spec (eh := e) B₂ FE₂ X₂ T₂ rfl N₃ hans hfa hfo hsub r₃ ne1 ne2 ne3 ne4 n1 n2 n3 n4 n5 n6 hpd hcc0 hcc3 hm (by ktr_room) (by ktr_units) hH ?hHn ?ret
    case hHn =>
      intro hm
      obtain ⟨p, hp, z⟩ := List.mem_map.mp hm
      exact hexNe hex0 fe p (.tail _ hp) z
    case ret =>
      intro e₂ dx₂ sl₂ fs₂ items c₂ cc₂ tcc₂ thn₂ tail₂ v b' y1 y2 y3 u1 u2 u3 r₂ h₄ tk₄ fe₂ fd₂ b4 m1 m2 F₄ K₄ t1' t2' t3' rep eq1 ehx ee ed ok
      dsimp only at fe₂ fd₂ K₄ t3'
      obtain ⟨oL3, _, _, yL3, _⟩ := id FE₂.ns
      have nn : ∀ {b}, h₃.get? b = none → b ≠ L' ∧ g₂.get? b = none := fun {b} z => ⟨fun q => (by rw [q, yL3] at z; cases z), freshSub FE₂.keep z⟩
      have qe := hexNe yx fe₂
      have qd := hexNe yx fd₂
      have z1 : @Ne Nat hx e₂ := qe _ (.tail _ (.head _))
      have z2 : @Ne Nat hx dx₂ := qd _ (.tail _ (.head _))
      have ht : ∀ p ∈ tail₂, p.1 ≠ L' ∧ g₂.get? p.1 = none := fun p hp => (t3' p hp).elim (fun z => (N₃ p (.tail _ (.tail _ (.tail _ (.tail _ z))))).2) nn
      have z3 : ∀ p ∈ tail₂, @Ne Nat p.1 hx := fun p hp => (t3' p hp).elim (ne2 p) fun z q => by
        have := yx _ (.tail _ (.head _))
        dsimp only at this
        rw [← (show p.1 = hx from q), z] at this; cases this
      have N₄ : News g₂ L' h₄ ((e₂, _) :: (dx₂, _) :: (x, _) :: (hx, _) :: (q, _) :: (th, _) :: tail₂) :=
        List.forall_mem_cons.mpr ⟨⟨ee, nn fe₂⟩, List.forall_mem_cons.mpr ⟨⟨ed, nn fd₂⟩, List.forall_mem_cons.mpr ⟨⟨K₄ x _ (by simp [n1, n2]) (yx _ (.head _)), (N₃ _ (.head _)).2⟩,
          List.forall_mem_cons.mpr ⟨⟨ehx, (N₃ _ (.tail _ (.head _))).2⟩, List.forall_mem_cons.mpr ⟨⟨eq1, (N₃ _ (.tail _ (.tail _ (.head _)))).2⟩, List.forall_mem_cons.mpr ⟨⟨K₄ th _ (by simp [Ne.symm n5, Ne.symm n6]) (yx _ (.tail _ (.tail _ (.tail _ (.head _))))), (N₃ _ (.tail _ (.tail _ (.tail _ (.head _))))).2⟩, fun p hp => ⟨t1' p hp, ht p hp⟩⟩⟩⟩⟩⟩⟩
      have old : ∀ {b}, h₃.get? b = none → s.heap.get? b = none := fun {b} z => oldFresh hkeep yx (sub4 fun _ h => h) z (by
        cases q : g'.get? b with
        | none => rfl
        | some o =>
          by_cases hb : b = L
          · rw [hb, FE₂.keep _ _ yLb] at z; cases z
          · rw [FE₂.keep _ _ ((gO b hb).trans q)] at z; cases z)
      clear N₃ N₂ FE₂
      k_steps
      unfold Stop
      k_dflt (refine' nameGoes_N ?l ?L ?k ?F ?N ?_; (case l => rfl); (case L => rfl); (case k => rfl); (case F => k_asm); (case N => k_asm))
      intro h₉ v₉ F₉ N₉
      k_steps
      rename Fr g₂ _ _ _ => FE
      rename News g₂ _ _ _ => NE
      change Q _ _
      refine ret e₂ dx₂ sl₂ fs₂ items c₂ cc₂ tcc₂ thn₂ tail₂ v b' y1 y2 y3 u1 u2 u3 r₂ _ _ (old fe₂) (old fd₂) b4 m1 m2 (frBack FG₂ FE) ?p4 ?p5 t2' ?p7 rep ?p9 ?p10 (NE _ (.head _)).1 (NE _ (.tail _ (.head _))).1 ok
      case p4 =>
        refine keepOf2 N NE hkeep (fun b o n e => ?_) (fun p hp n => subX (b := hx) (c := q) (.tail _ (.tail _ (.head _))) (.tail _ (.tail _ (.tail _ (.tail _ (.tail _ (.head _)))))) t2' (fun p hp => .tail _ (.tail _ (.tail _ (.tail _ (.tail _ (.tail _ hp)))))) p hp ?_)
        · simp only [List.mem_cons, List.not_mem_nil, or_false, not_or] at n
          exact FE.keep b o ((gO b n.2.2).trans e)
        · simp only [List.mem_cons, List.not_mem_nil, or_false, not_or] at n ⊢
          exact ⟨n.1, n.2.1⟩
      case p5 => exact fun p hp => (NE p (.tail _ (.tail _ (.tail _ (.tail _ (.tail _ (.tail _ hp))))))).1
      case p7 => exact fun p hp => (t3' p hp).imp id old
      case p9 => exact (NE _ (.tail _ (.tail _ (.tail _ (.tail _ (.head _)))))).1
      case p10 => exact (NE _ (.tail _ (.tail _ (.tail _ (.head _))))).1
end
section
open PySem PySem.W PyProof.Rows PySem.Calls PySem.Spec
set_option maxRecDepth 100000
def DueOk (o : Option Int) (v : Value) (k : Int) : Prop := match o with
  | some i => (∃ t, v = .int i t) ∧ k = 2
  | none => (∃ t, v = .bytes eieB t) ∧ k = 5
def DI (g : Heap) (L' : Addr) (s : Shared) (m₀ : Str → Option Value) (p q : Addr) (op : Obj) (plan : List Int) (most cc₀ : Int) (n : Nat) (s' : Shared) : Prop :=
  ∃ (h : Heap) (tk : Nat) (m₁ : Str → Option Value) (k : Nat) (depth : Int) (items : List Value) (c : Nat) (tail : List (Addr × Obj)) (done : List (Int × Int × Int)) (t1 t2 : Tok),
    s' = { s with heap := h, toks := tk } ∧ n = 11 - k ∧ Fr g L' h m₁ ∧ m₁ "depth" = some (.int depth t1) ∧ m₁ "value" = some (.int (k : Int) t2) ∧ (∀ z : Str, z ≠ "depth" → z ≠ "value" → z ≠ "deeper" → m₁ z = m₀ z) ∧
    News g L' h ((q, listOf items.toArray c) :: (p, op) :: tail) ∧ Rep tail items done ∧ (∀ z ∈ tail, @Ne Nat z.1 q) ∧
    done.length = k ∧ 0 ≤ depth ∧ (k : Int) ≤ depth ∧ depth ≤ 20 ∧
    (run plan most 11 0 cc₀).1 = done ++ (run plan most (11 - k) k depth).1 ∧ (run plan most 11 0 cc₀).2 = (run plan most (11 - k) k depth).2
theorem dueT {g h : Heap} {L : Addr} {d0 d1 d2 l q p : Addr × Obj} {tail : List (Addr × Obj)} (N : News g L h (d0 :: d1 :: d2 :: l :: q :: p :: tail)) : ∀ z ∈ d1 :: tail, h.get? z.1 = some z.2 := fun z hz => by
  rcases List.mem_cons.mp hz with rfl | hz
  · exact (N _ (.tail _ (.head _))).1
  · exact (N _ (.tail _ (.tail _ (.tail _ (.tail _ (.tail _ (.tail _ hz))))))).1
theorem dueN {g h : Heap} {L : Addr} {d0 d1 d2 l q p : Addr × Obj} {tail : List (Addr × Obj)} (N : News g L h (d0 :: d1 :: d2 :: l :: q :: p :: tail)) : News g L h (q :: p :: d1 :: tail) := fun z hz => by
  rcases List.mem_cons.mp hz with rfl | hz
  · exact N _ (.tail _ (.tail _ (.tail _ (.tail _ (.head _)))))
  rcases List.mem_cons.mp hz with rfl | hz
  · exact N _ (.tail _ (.tail _ (.tail _ (.tail _ (.tail _ (.head _))))))
  rcases List.mem_cons.mp hz with rfl | hz
  · exact N _ (.tail _ (.head _))
  · exact N _ (.tail _ (.tail _ (.tail _ (.tail _ (.tail _ (.tail _ hz))))))
theorem peelD {g h : Heap} {L d l p : Addr} {o1 o2 o3 : Obj} {P : Prop} (N : News g L h [(d, o1), (l, o2), (p, o3)]) (k : ∀ q, q = l → News g L h [(q, o2), (p, o3)] → P) : P := k l rfl fun z hz => N z (.tail _ hz)
local macro_rules | `(tactic| walk_at "exec While Compare cons nil") => `(tactic| (refine stop ?_))
local macro_rules | `(tactic| k_mem) => `(tactic| (refine' memOf ?_; assumption))
local macro_rules | `(tactic| k_all) => `(tactic| assumption)
local macro_rules | `(tactic| walk_at "call builtin:len") => `(tactic| walk_at "mine1")
set_option maxHeartbeats 8000000 in
theorem due_spec {w : World} {pt : Program} {lo : List Str} {mean : ExcName → Option Value} {mg mb : Str → Option Value} {dp un : Nat} {gd : Option (List Code)} {cn : Str} {cs : Scope} {L a : Addr} {ccd : Value} {cl : List (Str × Addr)} {outer : List Env} {A₀ : Around} {base h₀ : Heap} {m : Str → Option Value} {s : Shared} {Q E : Value → Shared → Prop}
   {p : Addr} {vs : List Value} {plan : List Int} {cp : Nat} {cc most : Int} {tcc tm : Tok}
   (B : Below A₀ base outer h₀) (F : Fr h₀ L s.heap m) (X : (hd.heap_39 w.params).In h₀) (T : Top pt lo mean mg mb h₀) (hk : cs.kind = .function)
   (N : News h₀ L s.heap [(p, listOf vs.toArray cp)]) (hi : IntsAre vs plan) (hpl : plan.length ≤ 10)
   (hpd : ∀ d ∈ plan, 0 ≤ d ∧ d ≤ 10) (hcc0 : 0 ≤ cc) (hcc3 : cc ≤ 3) (hm : most ≤ 10)
   (hd : dp + 20 < recursionLimit) (hu : un + 40 < cLine)
   (ret : ∀ t q c items tups v k tk₂ h' tk', Fr h₀ L h' m → (∀ b o, s.heap.get? b = some o → h'.get? b = some o) → (∀ z ∈ tups, h'.get? z.1 = some z.2) → Rep tups items (run plan most 11 0 cc).1 →
     h'.get? q = some (listOf items.toArray c) → IsTup h' t #[.ref q, v, .int k tk₂] → DueOk (run plan most 11 0 cc).2 v k → Q (.ref t) { s with heap := h', toks := tk' }) :
   wpAny (model PySem.Challenge.rw_rh0158_01.row.prog w) (aTop none dp un gd cn cs L a ccd cl outer) (call (.ref 153) [.ref p, .int cc tcc, .int most tm]) Q E s := by
  w_top off; revert X; k_fill; intro X
  refine wpAny_call ?_
  k_dflt (refine' callF B F X N T rfl rfl hk (getK X F.keep (by k_is)) rfl (codeK X F.keep (by k_is)) ?k8 ?k9 ?kB ?_ ?c5; (case k8 => ktr_room); (case k9 => exact BindsTo.of_eq rfl); (case c5 => decide); (case kB => exact locs rfl); intro g' L' h' FG' F' N' B' X' T' hkeep hback hlt; (try dsimp only); (try k_fold))
  k_steps
  unfold Stop
  rename Fr g' _ _ _ => FE
  rename News g' _ _ _ => NE
  refine peelD NE fun q eq NE' => ?_
  subst eq
  refine withMap FE fun m₀ em FE' => ?_
  have r1 : m₀ "plan" = some (.ref p) := by rw [em]; rfl
  have r2 : m₀ "most" = some (.int most tm) := by rw [em]; rfl
  have r3 : m₀ "asked" = some (.ref q) := by rw [em]; rfl
  have r4 : m₀ "depth" = some (.int cc tcc) := by rw [em]; rfl
  have r5 : ∃ tv, m₀ "value" = some (.int 0 tv) := ⟨_, by rw [em]; rfl⟩
  obtain ⟨tv, r5⟩ := r5
  have hqp : @Ne Nat p q := by k_ne
  clear em FE NE
  refine while_I (DI g' L' s m₀ p q (listOf vs.toArray cp) plan most cc) (n₀ := 11) ?init ?turn
  case init =>
    exact ⟨_, _, m₀, 0, cc, [], 0, [], [], tcc, tv, rfl, rfl, FE', r4, r5, fun _ _ _ _ => rfl, NE', trivial, (fun _ h => nomatch h), rfl, hcc0, hcc0, by omega, rfl, rfl⟩
  rintro n s' ⟨h, tk, m₁, k, depth, items, c₁, tail₁, done, ta, tb, rfl, rfl, F₁, q1, q2, q3, N₁, rep, ne1, hdk, hd0, hkd, hd20, hr1, hr2⟩
  have hlen : items.length = k := rep.length.trans hdk
  have em1 : m₁ = fun (z : Str) => if z = "depth" then some (.int depth ta) else if z = "value" then some (.int (k : Int) tb) else if z = "plan" then some (.ref p) else if z = "most" then some (.int most tm) else if z = "asked" then some (.ref q) else m₁ z := by
    funext z
    by_cases z1 : z = "depth"
    · rw [if_pos z1, z1, q1]
    rw [if_neg z1]
    by_cases z2 : z = "value"
    · rw [if_pos z2, z2, q2]
    rw [if_neg z2]
    by_cases z3 : z = "plan"
    · rw [if_pos z3, z3, ← r1]; exact q3 _ (by decide) (by decide) (by decide)
    rw [if_neg z3]
    by_cases z4 : z = "most"
    · rw [if_pos z4, z4, ← r2]; exact q3 _ (by decide) (by decide) (by decide)
    rw [if_neg z4]
    by_cases z5 : z = "asked"
    · rw [if_pos z5, z5, ← r3]; exact q3 _ (by decide) (by decide) (by decide)
    rw [if_neg z5]
  rw [em1] at F₁
  clear em1 NE' FE'
  have hvl := hi.length
  have eDeep : (plan ++ [0]).getD (if (vs.length : Int) < (items.length : Int) then (vs.length : Int) else (items.length : Int)).toNat 0 = deeperAt plan k := by
    unfold deeperAt
    congr 1
    rw [hlen]
    exact azm hvl
  try k_fold
  k_steps
  · have hz : deeperAt plan k = 0 := by rw [← eDeep]; assumption
    rename Fr g' _ _ _ => FE
    rename News g' _ _ _ => NE
    unfold LoopEnd
    dsimp only
    change Q _ _
    rename depth < most => hlt'
    have e11 := az11 hkd hlt' hm
    rw [e11, run_zero hlt' hz] at hr1 hr2
    simp only [hr1, hr2] at ret
    simp only [hlen, List.push_toArray] at NE
    exact ret _ q _ _ _ _ _ _ _ _ (frBack FG' FE) (fun b o e => keepOf (S := []) N NE hkeep FE.keep (fun z hz _ => by rw [List.mem_singleton.mp hz]; exact .tail _ (.tail _ (.tail _ (.tail _ (.tail _ (.head _)))))) b o (by simp) e) (dueT NE)
      ((rep.mono fun z hz => .tail _ hz).push (e := (depth, (k : Int) + 1, (k : Int))) (.head _)) (NE _ (.tail _ (.tail _ (.tail _ (.tail _ (.head _)))))).1 (News.isTup NE (.head _)) ⟨⟨_, rfl⟩, rfl⟩
  · have hz : deeperAt plan k ≠ 0 := by rw [← eDeep]; assumption
    rename Fr g' _ _ _ => FE
    rename News g' _ _ _ => NE
    unfold LoopEnd
    dsimp only
    rename depth < most => hlt'
    have e11 := az11 hkd hlt' hm
    rw [e11, run_more hlt' hz] at hr1 hr2
    simp only [hlen, List.push_toArray] at NE
    simp only [eDeep] at FE
    have eD : (depth + if 1 > deeperAt plan k - 1 then 1 else deeperAt plan k - 1) = depth + max (deeperAt plan k - 1) 1 := azE _ _
    have dB := deeper_bounds hpd k
    have e12 := az12 k
    refine ⟨11 - (k + 1), azlt e11, _, _, _, k + 1, depth + max (deeperAt plan k - 1) 1, _, _, _, done ++ [(depth, (k : Int) + 1, (k : Int))], _, _, rfl, rfl, FE, intTok rfl eD, rfl, ?v3, dueN NE, (rep.mono fun z hz => .tail _ hz).push (e := (depth, (k : Int) + 1, (k : Int))) (.head _), List.forall_mem_cons.mpr ⟨neN (newsApart NE (.tail _ (.head _)) (.tail _ (.tail _ (.tail _ (.tail _ (.head _))))) (.inr (by intro z; injection z with z; exact absurd z (by decide)))), ne1⟩, ?v11, ?v12, ?v13, ?v14, ?v17, ?v18⟩
    case v3 =>
      intro z z1 z2 z3
      simp only [if_neg z1, if_neg z2, if_neg z3]
      by_cases z4 : z = "plan"
      · rw [if_pos z4, z4, r1]
      rw [if_neg z4]
      by_cases z4 : z = "most"
      · rw [if_pos z4, z4, r2]
      rw [if_neg z4]
      by_cases z4 : z = "asked"
      · rw [if_pos z4, z4, r3]
      rw [if_neg z4]
      exact q3 z z1 z2 z3
    case v11 => rw [List.length_append, hdk]; rfl
    case v12 => exact az0 _ hd0
    case v13 => exact azk _ hkd
    case v14 => exact az20 hlt' hm dB.2
    case v17 => rw [hr1, e12, List.append_assoc]; rfl
    case v18 => rw [hr2, e12]
  · rename Fr g' _ _ _ => FE
    rename News g' _ _ _ => NE
    change Q _ _
    rename ¬ depth < most => hlt'
    rw [run_stop hlt'] at hr1 hr2
    simp only [hr1, hr2, List.append_nil] at ret
    exact ret _ q _ _ _ _ _ _ _ _ (frBack FG' FE) (fun b o e => keepOf (S := []) N NE hkeep FE.keep (fun z hz _ => by rw [List.mem_singleton.mp hz]; exact .tail _ (.tail _ (.head _))) b o (by simp) e) (fun z hz => (NE z (.tail _ (.tail _ (.tail _ hz)))).1)
      rep (NE _ (.tail _ (.head _))).1 (News.isTup NE (.head _)) ⟨⟨_, rfl⟩, rfl⟩
end
section
open PySem PySem.W PyProof.Rows PySem.Calls PySem.Spec
set_option maxRecDepth 100000
section
variable {prog : Program} {w : World} {A : Around} {h₀ : Heap} {L : Addr} {m : Str → Option Value} {env : Env} {elt : Expr} {x : Str} {scope : Scope} {cl : List (Str × Addr)} {s : Shared} {S : List (Addr × Obj) → Prop} {Fin : List Value → List (Addr × Obj) → Prop} {news : List (Addr × Obj)}
/-- a comprehension over a range, each turn of which may turn the ledger: by an invariant -/
theorem kcs_range {n : Nat} {a : Int} (I₀ : List Value → List (Addr × Obj) → Prop) (i0 : I₀ [] news)
    (turn : ∀ k t I oI C oC D m₂ ys nw h tk (E' : Value → Shared → Prop), ys.length < n → I₀ ys nw → LCg.NsObj oC m₂ → m₂ x = some (.int k t) → Fr h₀ L h m → News h₀ L h ((I, oI) :: (C, oC) :: (D, LCg.lst ys) :: nw) → LCg.Off3 I C D nw → ((@Ne Nat I C) ∧ (@Ne Nat I D) ∧ (@Ne Nat C D)) →
      wpAny (model prog w) A (eval elt (compEnvC scope cl C env)) (LCg.CompEnd h₀ L m { s with heap := h, toks := tk } I oI C oC D (LCg.lst ys) S (fun y news' => I₀ (ys ++ [y]) news')) E' { s with heap := h, toks := tk })
    (fin : ∀ ys nw, ys.length = n → I₀ ys nw → Fin ys nw) : LCg.CompRest prog w A h₀ L m env elt x scope cl s S (fun i v => ∃ t, v = .int (a + (i : Int)) t) Fin n 0 [] news := by
  have key : ∀ (j i : Nat) (ys : List Value) (nw : List (Addr × Obj)), i + j = n → ys.length = i → I₀ ys nw → LCg.CompRest prog w A h₀ L m env elt x scope cl s S (fun i v => ∃ t, v = .int (a + (i : Int)) t) Fin j i ys nw := by
    intro j
    induction j with
    | zero => exact fun i ys nw hi hy h => LCg.CompRest.zero (fin ys nw (by omega) h)
    | succ j ih =>
      intro i ys nw hi hy hI
      refine LCg.CompRest.succ ?_
      intro v I oI C oC D m₂ h tk E' hv hC hx F N off ne
      obtain ⟨t, hv'⟩ := hv
      rw [hv'] at hx
      refine wpAny_mono (turn (a + (i : Int)) t I oI C oC D m₂ ys nw h tk E' (by omega) hI hC hx F N off ne) (fun y s₂ hq => ?_) fun _ _ e => e
      obtain ⟨h', tk', nw', e, F', N', off', hS, r⟩ := hq
      exact ⟨h', tk', nw', e, F', N', off', hS, ih (i + 1) _ _ (by omega) (by simp [hy]) r⟩
  exact key n 0 [] news (by omega) rfl i0
end
def TurnP (P : Int → Prop) (h₀ : Heap) (L : Addr) (m : Str → Option Value) (s₁ : Shared) (I C D d1 d2 : Addr × Obj) (r l : Addr) (n : Int) (c : Nat) (rest : List (Addr × Obj)) (y : Value) (s₂ : Shared) : Prop :=
  ∃ i ty tn'' h' tk', y = .int i ty ∧ P i ∧ s₂ = { s₁ with heap := h', toks := tk' } ∧ Fr h₀ L h' m ∧ News h₀ L h' (I :: C :: D :: d1 :: d2 :: (r, listOf #[.ref l, .int n tn''] c) :: rest)
theorem seven {d : Int} (a : 0 ≤ d) (b : d < 7) : d = 0 ∨ d = 1 ∨ d = 2 ∨ d = 3 ∨ d = 4 ∨ d = 5 ∨ d = 6 := by omega
theorem small7 {d : Int} (a : 0 ≤ d) (b : d < 7) : Builtin.Range.small 0 d 1 = true := by rcases seven a b with rfl | rfl | rfl | rfl | rfl | rfl | rfl <;> rfl
theorem size7 {d : Int} (a : 0 ≤ d) (b : d < 7) : Builtin.Range.rangeSize 0 d 1 = ((d.toNat : Nat) : Int) := by rcases seven a b with rfl | rfl | rfl | rfl | rfl | rfl | rfl <;> rfl
section
variable {prog : Program} {w : World} {A : Around} {h₀ : Heap} {L : Addr} {m : Str → Option Value} {env : Env} {elt : Expr} {x : Str} {scope : Scope} {cl : List (Str × Addr)} {s₁ : Shared} {Fin : Shared → List Value → List (Addr × Obj) → Prop} {d1 d2 : Addr × Obj} {r l : Addr} {n d : Int} {tn t u v : Tok} {c : Nat} {rest : List (Addr × Obj)} {ra : Addr} {all : List (Addr × Obj)}
/-- the law's comprehension: each turn turns the rope's count alone -/
theorem compIter (P : Int → Prop) (hh : A.handled = none) (F : Fr h₀ L s₁.heap m) (N : News h₀ L s₁.heap (d1 :: d2 :: (r, listOf #[.ref l, .int n tn] c) :: rest)) (hr : IsRange s₁.heap ra 0 d 1 t u v) (c1 : 0 ≤ d) (c2 : d < 7)
    (turn : ∀ g k t' I oI C oC D m₂ ys n' tn' h tk (E' : Value → Shared → Prop), n ≤ n' → n' < n + 6 → LCg.NsObj oC m₂ → m₂ x = some (.int k t') → Fr h₀ L h m → News h₀ L h ((I, oI) :: (C, oC) :: (D, LCg.lst ys) :: d1 :: d2 :: (r, listOf #[.ref l, .int n' tn'] c) :: rest) →
      LCg.Off3 I C D (d1 :: d2 :: (r, listOf #[.ref l, .int n' tn'] c) :: rest) → ((@Ne Nat I C) ∧ (@Ne Nat I D) ∧ (@Ne Nat C D)) →
      wpAny (model prog w) A (eval elt (compEnvC scope cl C env)) (TurnP P h₀ L m s₁ (I, oI) (C, oC) (D, LCg.lst ys) d1 d2 r l (n' + 1) c rest) E' { ({ s₁ with heap := g } : Shared) with heap := h, toks := tk })
    (fin : ∀ g ys ns n' tn', IntsAre ys ns → ns.length ≤ 6 → (∀ i ∈ ns, P i) → n ≤ n' → n' ≤ n + 6 → Fin { s₁ with heap := g } ys (d1 :: d2 :: (r, listOf #[.ref l, .int n' tn'] c) :: rest)) :
    LCg.CompSrc prog w A h₀ L m env elt x scope cl Fin (.ref ra) s₁ := by
  refine LCg.CompSrc.range hh F N hr (small7 c1 c2) (size7 c1 c2) (Nat.le_trans (m := 7) (by omega) (by decide)) fun g => ?_
  refine kcs_range (fun ys nw => ∃ ns tn', IntsAre ys ns ∧ (∀ i ∈ ns, P i) ∧ nw = d1 :: d2 :: (r, listOf #[.ref l, .int (n + ys.length) tn'] c) :: rest) ⟨[], tn, .nil, (fun _ h => nomatch h), by simp⟩ ?_ ?_
  · rintro k t' I oI C oC D m₂ ys nw h tk E' hlt ⟨ns, tn', h1, h2, rfl⟩ hC hx F' N' off ne
    refine wpAny_mono (turn g k t' I oI C oC D m₂ ys _ tn' h tk E' (by omega) (by omega) hC hx F' N' off ne) (fun y s₂ hq => ?_) fun _ _ e => e
    obtain ⟨i, ty, tn'', h', tk', rfl, i1, rfl, F'', N''⟩ := hq
    refine ⟨h', tk', d1 :: d2 :: (r, listOf #[.ref l, .int (n + ys.length + 1) tn''] c) :: rest, rfl, F'', N'', ?_, trivial, ns ++ [i], tn'', h1.append (.cons i ty .nil), ?_, ?_⟩
    · exact off
    · intro j hj
      rcases List.mem_append.mp hj with q | q
      · exact h2 j q
      · rw [List.mem_singleton.mp q]; exact i1
    · rw [List.length_append]
      simp only [List.length_cons, List.length_nil, Nat.zero_add, Int.natCast_add, Int.natCast_one, Int.add_assoc]
  · rintro ys nw hl ⟨ns, tn', h1, h2, rfl⟩
    have := h1.length
    exact fin g ys ns _ tn' h1 (by omega) h2 (by omega) (by omega)
end
end
section
open PySem PySem.W PyProof.Rows PySem.Calls PySem.Spec PySem.SeqAt
set_option maxRecDepth 100000
section
variable {prog : Program} {w : World} {A : Around} {E : Value → Shared → Prop} {s : Shared} {env : Env} {h₀ : Heap} {x : Str} {body : List Stmt} {Q : Flow → Shared → Prop} {I : Addr} {a : Int} {n : Nat}
/-- a for over a range by an invariant over the frame's map and the ledger -/
theorem rangeRest_I (J : Nat → (Str → Option Value) → List (Addr × Obj) → Prop)
    (turn : ∀ i m news t h tk, i < n → J i m news → Fr h₀ env.locals h (fun y => if y = x then some (.int (a + (i : Int)) t) else m y) → News h₀ env.locals h ((I, itR (a + ((i + 1 : Nat) : Int)) ((n : Int) - ((i + 1 : Nat) : Int))) :: news) →
      wpAny (model prog w) A (execs body env) (UnrPost h₀ env.locals { s with heap := h, toks := tk } I (itR (a + ((i + 1 : Nat) : Int)) ((n : Int) - ((i + 1 : Nat) : Int))) (J (i + 1)) Q) E { s with heap := h, toks := tk })
    (fin : ∀ m news h tk, J n m news → Fr h₀ env.locals h m → News h₀ env.locals h news → Q .next { s with heap := h, toks := tk }) :
    ∀ k i m news, i + k = n → J i m news → RangeRest prog w A E h₀ env x body Q s I a n k i m news := by
  intro k
  induction k with
  | zero =>
    intro i m news hi hJ
    refine RangeRest.zero fun h tk F N => fin m news h tk ?_ F N
    have : i = n := by omega
    exact this ▸ hJ
  | succ k ih =>
    intro i m news hi hJ
    refine RangeRest.succ fun t h tk F N => ?_
    refine wpAny_mono (turn i m news t h tk (by omega) hJ F N) (fun f s₂ q => ?_) fun _ _ e => e
    have up : ∀ s₂, UnrEnd h₀ env.locals { s with heap := h, toks := tk } I (itR (a + ((i + 1 : Nat) : Int)) ((n : Int) - ((i + 1 : Nat) : Int))) (J (i + 1)) s₂ →
        UnrEnd h₀ env.locals { s with heap := h, toks := tk } I (itR (a + ((i + 1 : Nat) : Int)) ((n : Int) - ((i + 1 : Nat) : Int))) (RangeRest prog w A E h₀ env x body Q s I a n k (i + 1)) s₂ := by
      rintro s₂ ⟨h', tk', m', news', e, F', N', off, r⟩
      exact ⟨h', tk', m', news', e, F', N', off, ih (i + 1) m' news' (by omega) r⟩
    cases f with
    | ret v => exact q
    | brk => exact q
    | next => exact up _ q
    | cont => exact up _ q
end
/-- the code table of _law_answers: fresh, or filled by an earlier call -/
def TabSt (tab : Obj) (e : Addr) (oe : Obj) : Prop := tab = tabObj #[] ∨ (tab = tabObj #[rawInt 95, rawInt 4, .ref e] ∧ CodeOk oe)
theorem answers_spec {w : World} {pt : Program} {lo : List Str} {mean : ExcName → Option Value} {mg mb : Str → Option Value} {hdl : Option Value} {dp un : Nat} {gd : Option (List Code)} {cn : Str} {cs : Scope} {L a : Addr} {ccd : Value} {cl : List (Str × Addr)} {outer : List Env} {A₀ : Around} {base h₀ : Heap} {m : Str → Option Value} {s : Shared} {Q E : Value → Shared → Prop} {p q : Addr} {vs : List Value} {plan : List Int} {cp : Nat} {tab : Obj} {e : Addr} {oe : Obj}
   (B : Below A₀ base outer h₀) (F : Fr h₀ L s.heap m) (X : (hd.heap_39 w.params).In h₀) (T : Top pt lo mean mg mb h₀) (hk : cs.kind = .function)
   (C : CodeHd h₀ 138 134) (htab : s.heap.get? 134 = some tab) (hst : TabSt tab e oe) (hcode : s.heap.get? e = some oe) (h134 : h₀.get? 134 = none) (hL134 : 134 ≠ L)
   (hi : IntsAre vs plan) (hpl : plan.length ≤ 10) (hpd : ∀ d ∈ plan, 0 ≤ d ∧ d ≤ 10)
   (hd : dp + 10 < recursionLimit) (hu : un + 20 < cLine)
   (ret : ∀ fa fo c' oc c1 o1 c2 o2 h' tk', AnsC w fa q [(fa, fo), (c', oc), (c1, o1), (c2, o2), (p, listOf vs.toArray cp)] plan → FnObj fo → CodeOk oc → h'.get? fa = some fo → h'.get? c' = some oc → h'.get? c1 = some o1 → h'.get? c2 = some o2 →
     s.heap.get? fa = none → (s.heap.get? c' = none ∨ (c' = e ∧ oc = oe)) → s.heap.get? c1 = none → s.heap.get? c2 = none →
     Fr h₀ L h' m → (∀ b o, b ≠ 134 → s.heap.get? b = some o → h'.get? b = some o) → h'.get? 134 = some (tabObj #[rawInt 95, rawInt 4, .ref c']) → Q (.ref fa) { s with heap := h', toks := tk' }) :
   wpAny (model PySem.Challenge.rw_rh0158_01.row.prog w) (aTop hdl dp un gd cn cs L a ccd cl outer) (call (.ref 139) [.ref p, .ref q]) Q E s := by
  rcases hst with rfl | ⟨rfl, hok⟩
  · exact answers_spec0 B F X T hk C htab h134 hL134 hi hpl hpd hd hu fun fa fo c' oc c1 o1 c2 o2 h' tk' a1 a2 a3 a4 a5 a6 a7 a8 a9 a10 a11 _ _ _ a15 a16 a17 =>
      ret fa fo c' oc c1 o1 c2 o2 h' tk' a1 a2 a3 a4 a5 a6 a7 a8 (.inl a9) a10 a11 a15 a16 a17
  · exact answers_spec1 B F X T hk C htab hcode hok h134 hL134 hi hpl hpd hd hu fun fa fo c1 o1 c2 o2 h' tk' a1 a2 a4 a6 a7 a8 a10 a11 _ _ a15 a16 =>
      ret fa fo e oe c1 o1 c2 o2 h' tk' a1 a2 hok a4 (a16 _ _ hcode) a6 a7 a8 (.inr ⟨rfl, rfl⟩) a10 a11 a15 (fun b o _ z => a16 b o z) (a16 _ _ htab)
def entD (e : Int × Int × Int) : PyData := .tuple [.int e.1, .int e.2.1, .int e.2.2]
theorem rep_reads {h : Heap} {tups : List (Addr × Obj)} (H : ∀ p ∈ tups, h.get? p.1 = some p.2) : ∀ {vs es}, Rep tups vs es → ∃ as, ReadsAll h vs (es.map entD) as
  | [], [], _ => ⟨_, ReadsAll.nil⟩
  | _ :: _, _ :: _, ⟨⟨a, ta, tb, tc, e, m⟩, r⟩ => by
    obtain ⟨as, q⟩ := rep_reads H r
    subst e
    exact ⟨_, ReadsAll.cons (reads_tuple_at (H _ m) rfl rfl (ReadsAll.cons (Reads.int _ _) (ReadsAll.cons (Reads.int _ _) (ReadsAll.cons (Reads.int _ _) ReadsAll.nil)))) q⟩
theorem ent_lay : ∀ es : List (Int × Int × Int), PyData.canLayAll0 (es.map entD) = true ∧ PyData.depthAll (es.map entD) ≤ 1
  | [] => by simp [PyData.canLayAll0, PyData.depthAll]
  | e :: es => by
    have := ent_lay es
    simp only [List.map_cons, entD, PyData.canLayAll0, PyData.canLay0, PyData.depthAll, PyData.depth, Bool.and_true, Bool.true_and]
    refine ⟨this.1, ?_⟩
    have := this.2
    omega
theorem ent_eqv : ∀ es : List (Int × Int × Int), PyData.eqvAll (es.map entD) (es.map entD) = true
  | [] => by simp [PyData.eqvAll]
  | e :: es => by simp only [List.map_cons, entD, PyData.eqvAll, PyData.eqv, ent_eqv es, beq_self_eq_true, decide_true, Bool.and_true]
theorem eqAt_bytesSame {A : Around} {s : Shared} (b : Array UInt8) (t u : Tok) : EqAt A s (.bytes b t) (.bytes b u) true := fun prog w E Q h => eqBool_bytes (by simpa using h)
theorem out_due {A : Around} {s : Shared} {o : Option Int} {v v' : Value} {b : Bool} {k : Int} (h : OutOk o v b) (h' : DueOk o v' k) : EqAt A s v v' true ∧ k = if b = true then 5 else 2 := by
  cases o with
  | some i =>
    obtain ⟨⟨t, rfl⟩, rfl⟩ := h
    obtain ⟨⟨t', rfl⟩, rfl⟩ := h'
    exact ⟨by simpa using EqAt.int_int (A := A) (s := s) i t i t', rfl⟩
  | none =>
    obtain ⟨⟨t, rfl⟩, rfl⟩ := h
    obtain ⟨⟨t', rfl⟩, rfl⟩ := h'
    exact ⟨eqAt_bytesSame _ _ _, rfl⟩
theorem asked_ne {prog : Program} {w : World} {A : Around} {E Q : Value → Shared → Prop} {s : Shared} {a b q q' : Addr} {v v' : Value} {k k' : Int} {t t' : Tok} {items items' : List Value} {es : List (Int × Int × Int)} {tups tups' : List (Addr × Obj)} {c c' : Nat}
    (ha : s.heap.IsTuple a #[.ref q, v, .int k t]) (hb : s.heap.IsTuple b #[.ref q', v', .int k' t']) (hq : s.heap.get? q = some (listOf items.toArray c)) (hq' : s.heap.get? q' = some (listOf items'.toArray c'))
    (R : Rep tups items es) (R' : Rep tups' items' es) (H : ∀ p ∈ tups, s.heap.get? p.1 = some p.2) (H' : ∀ p ∈ tups', s.heap.get? p.1 = some p.2) (hv : EqAt A.in1 s v v' true) (hk : k = k') (hu : A.units + 64 < cLine) (h : Q (.bool false) s) :
    wpAny (model prog w) A (compareOp .NotEq (.ref a) (.ref b)) Q E s := by
  subst hk
  obtain ⟨as, ra⟩ := rep_reads H R
  obtain ⟨bs, rb⟩ := rep_reads H' R'
  have la := ent_lay es
  have el : EqAt A.in1 s (.ref q) (.ref q') true := by
    have := eqAt_reads (.list (es.map entD)) (.list (es.map entD)) A.in1 s (.ref q) (.ref q') _ _ (reads_list_at hq rfl rfl (by simpa [W.listOf] using ra)) (reads_list_at hq' rfl rfl (by simpa [W.listOf] using rb)) (by simp only [PyData.canLay0]; exact la.1) (by simp only [PyData.canLay0]; exact la.1)
      (by simp only [PyData.depth]; show A.units + 1 + _ < _; have := la.2; omega)
    simpa only [PyData.eqv, ent_eqv] using this
  have := RcNeAt.tuples (A := A) (s := s) (e := fun _ => true) ha hb (by omega) (fun j h1 h2 => by
    match j, h1, h2 with
    | 0, _, _ => exact el
    | 1, _, _ => exact hv
    | 2, _, _ => simpa using EqAt.int_int (A := A.in1) (s := s) k t k t'
    | j + 3, h1, _ => exact absurd h1 (by simp))
  refine this prog w E Q ?_
  exact h
end
section
open PySem PySem.W PyProof.Rows PySem.Calls PySem.Spec
set_option maxRecDepth 100000
local macro_rules | `(tactic| walk_at "getAttr ref") => `(tactic| walk_at "mine2")
set_option maxHeartbeats 8000000 in
theorem status_spec {w : World} {pt : Program} {lo : List Str} {mean : ExcName → Option Value} {mg mb : Str → Option Value} {dp un : Nat} {gd : Option (List Code)} {cn : Str} {cs : Scope} {L a : Addr} {ccd : Value} {cl : List (Str × Addr)} {outer : List Env} {A₀ : Around} {base h₀ : Heap} {m : Str → Option Value} {s : Shared} {Q E : Value → Shared → Prop}
   {e dx : Addr} {fs : Array Value} {sl : Array (Option Value)} {x1 x2 x3 : Int} {s1 s2 s3 : Tok} {v : Value} {r : Addr} {b : Bool}
   (B : Below A₀ base outer h₀) (F : Fr h₀ L s.heap m) (X : (hd.heap_39 w.params).In h₀) (T : Top pt lo mean mg mb h₀) (hk : cs.kind = .function)
   (N : News h₀ L s.heap [(e, (⟨.ref 66, some dx, .fields fs, sl⟩ : Obj)), (dx, excD x1 x2 x3 s1 s2 s3 v r b)])
   (hd : dp + 20 < recursionLimit) (hu : un + 40 < cLine)
   (ret : ∀ k t h' tk', k = (if b = true then 5 else 2) → Fr h₀ L h' m → (∀ b o, s.heap.get? b = some o → h'.get? b = some o) → Q (.int k t) { s with heap := h', toks := tk' }) :
   wpAny (model PySem.Challenge.rw_rh0158_01.row.prog w) (aTop none dp un gd cn cs L a ccd cl outer) (call (.ref 90) [.ref e]) Q E s := by
  w_top off; revert X; k_fill; intro X
  refine wpAny_call ?_
  k_dflt (refine' callF B F X N T rfl rfl hk (getK X F.keep (by k_is)) rfl (codeK X F.keep (by k_is)) ?k8 ?k9 ?kB ?_ ?c5; (case k8 => ktr_room); (case k9 => exact BindsTo.of_eq rfl); (case c5 => decide); (case kB => exact locs rfl); intro g' L' h' FG' F' N' B' X' T' hkeep hback hlt; (try dsimp only); (try k_fold))
  cases b
  all_goals (
    k_steps
    rename Fr g' _ _ _ => FE
    rename News g' _ _ _ => NE
    change Q _ _
    exact ret _ _ _ _ rfl (frBack FG' FE) (fun b o e => keepOf (S := []) N NE hkeep FE.keep (fun z hz _ => hz) b o (by simp) e))
set_option maxHeartbeats 8000000 in
theorem closed_spec {w : World} {pt : Program} {lo : List Str} {mean : ExcName → Option Value} {mg mb : Str → Option Value} {dp un : Nat} {gd : Option (List Code)} {cn : Str} {cs : Scope} {L a : Addr} {ccd : Value} {cl : List (Str × Addr)} {outer : List Env} {A₀ : Around} {base h₀ : Heap} {m : Str → Option Value} {s : Shared} {Q E : Value → Shared → Prop}
   {x hx up : Addr} {cu : Nat} {t0 t1 t2 t3 t4 t5 t6 t7 u2 : Tok} {lv : Int} {vst van vov vfr vcc vhn vtop : Value}
   (B : Below A₀ base outer h₀) (F : Fr h₀ L s.heap m) (X : (hd.heap_39 w.params).In h₀) (T : Top pt lo mean mg mb h₀) (hk : cs.kind = .function)
   (N : News h₀ L s.heap [(x, instObj 38 hx), (hx, holderD w t0 t1 t2 t3 t4 t5 t6 t7 vst (.ref up) van vov vfr vcc vhn vtop), (up, listOf #[] cu)])
   (hd : dp + 20 < recursionLimit) (hu : un + 40 < cLine)
   (ret : ∀ q h' tk', s.heap.get? q = none → Fr h₀ L h' m → (∀ b o, s.heap.get? b = some o → h'.get? b = some o) → h'.get? q = some (listOf #[] 0) → Q (.ref q) { s with heap := h', toks := tk' }) :
   wpAny (model PySem.Challenge.rw_rh0158_01.row.prog w) (aTop none dp un gd cn cs L a ccd cl outer) (call (.ref 49) [.ref x, .int lv u2]) Q E s := by
  w_top off; revert X; k_fill; intro X
  refine wpAny_call ?_
  k_dflt (refine' callF B F X N T rfl rfl hk (getK X F.keep (by k_is)) rfl (codeK X F.keep (by k_is)) ?k8 ?k9 ?kB ?_ ?c5; (case k8 => ktr_room); (case k9 => exact BindsTo.of_eq rfl); (case c5 => decide); (case kB => exact locs rfl); intro g' L' h' FG' F' N' B' X' T' hkeep hback hlt; (try dsimp only); (try k_fold))
  k_steps
  rename Fr g' _ _ _ => FE
  rename News g' _ _ _ => NE
  change Q _ _
  have fq := (NE _ (.head _)).2.2
  exact ret _ _ _ (freshOf hkeep fq (by simp only [List.map_cons, List.map_nil, List.mem_cons, List.not_mem_nil, or_false]; intro z; rcases z with z | z | z <;> exact absurd z ((by k_ne)))) (frBack FG' FE) (fun b o e => keepOf (S := []) N NE hkeep FE.keep (fun z hz _ => .tail _ hz) b o (by simp) e) (NE _ (.head _)).1
theorem lk {g h : Heap} {L : Addr} {news : List (Addr × Obj)} {b : Addr} {o : Obj} (N : News g L h news) (m : (b, o) ∈ news) : h.get? b = some o ∧ b ≠ L ∧ g.get? b = none := N _ m
local macro_rules | `(tactic| walk_at "call ref") => `(tactic| (k_here; (with_reducible show wpAny _ _ (call (Value.ref 49) _) _ _ _); refine stop ?_))
set_option maxHeartbeats 8000000 in
theorem unwound_spec {w : World} {pt : Program} {lo : List Str} {mean : ExcName → Option Value} {mg mb : Str → Option Value} {dp un : Nat} {gd : Option (List Code)} {cn : Str} {cs : Scope} {L a : Addr} {ccd : Value} {cl : List (Str × Addr)} {outer : List Env} {A₀ : Around} {base h₀ : Heap} {m : Str → Option Value} {s : Shared} {Q E : Value → Shared → Prop}
   {fr : Addr} {cf : Nat} {tf u1 : Tok}
   (B : Below A₀ base outer h₀) (F : Fr h₀ L s.heap m) (X : (hd.heap_39 w.params).In h₀) (T : Top pt lo mean mg mb h₀) (hk : cs.kind = .function)
   (N : News h₀ L s.heap [(fr, listOf #[.int 7 tf] cf)])
   (hd : dp + 20 < recursionLimit) (hu : un + 40 < cLine)
   (ret : ∀ h' tk', Fr h₀ L h' m → (∀ b o, s.heap.get? b = some o → h'.get? b = some o) → Q .none { s with heap := h', toks := tk' }) :
   wpAny (model PySem.Challenge.rw_rh0158_01.row.prog w) (aTop none dp un gd cn cs L a ccd cl outer) (call (.ref 21) [.ref fr, .int 1 u1]) Q E s := by
  w_top off; revert X; k_fill; intro X
  refine wpAny_call ?_
  k_dflt (refine' callF B F X N T rfl rfl hk (getK X F.keep (by k_is)) rfl (codeK X F.keep (by k_is)) ?k8 ?k9 ?kB ?_ ?c5; (case k8 => ktr_room); (case k9 => exact BindsTo.of_eq rfl); (case c5 => decide); (case kB => exact locs rfl); intro g' L' h' FG' F' N' B' X' T' hkeep hback hlt; (try dsimp only); (try k_fold))
  k_steps
  rename Fr g' _ _ _ => FE
  rename News g' _ _ _ => NE
  change Q _ _
  exact ret _ _ (frBack FG' FE) (fun b o e => keepOf (S := []) N NE hkeep FE.keep (fun z hz _ => hz) b o (by simp) e)
local macro_rules | `(tactic| walk_at "call ref") => `(tactic| (k_here; (with_reducible show wpAny _ _ (call (Value.ref 21) _) _ _ _); refine stop ?_))
set_option maxHeartbeats 8000000 in
theorem taken_spec {w : World} {pt : Program} {lo : List Str} {mean : ExcName → Option Value} {mg mb : Str → Option Value} {dp un : Nat} {gd : Option (List Code)} {cn : Str} {cs : Scope} {L a : Addr} {ccd : Value} {cl : List (Str × Addr)} {outer : List Env} {A₀ : Around} {base h₀ : Heap} {m : Str → Option Value} {s : Shared} {Q E : Value → Shared → Prop}
   {x hx up fr : Addr} {cu cf : Nat} {cc : Int} {tf t0 t1 t2 t3 t4 t5 t6 t7 u1 u2 u3 u4 : Tok} {vst van vov vcc vhn vtop : Value}
   (B : Below A₀ base outer h₀) (F : Fr h₀ L s.heap m) (X : (hd.heap_39 w.params).In h₀) (T : Top pt lo mean mg mb h₀) (hk : cs.kind = .function)
   (N : News h₀ L s.heap [(x, instObj 38 hx), (hx, holderD w t0 t1 t2 t3 t4 t5 t6 t7 vst (.ref up) van vov (.ref fr) vcc vhn vtop), (up, listOf #[] cu), (fr, listOf #[.int 7 tf] cf)])
   (n1 : @Ne Nat x hx) (n2 : @Ne Nat up hx) (n3 : @Ne Nat fr hx)
   (hd : dp + 40 < recursionLimit) (hu : un + 80 < cLine)
   (ret : ∀ q h' tk', s.heap.get? q = none → Fr h₀ L h' m → (∀ b o, b ≠ hx → s.heap.get? b = some o → h'.get? b = some o) → h'.get? q = some (listOf #[] 0) → h'.get? hx = some (holderD w t0 t1 t2 t3 t4 t5 t6 t7 vst (.ref up) van vov (.ref fr) (.int cc u2) (.int 0 u3) (.int 0 u4)) → Q (.ref q) { s with heap := h', toks := tk' }) :
   wpAny (model PySem.Challenge.rw_rh0158_01.row.prog w) (aTop none dp un gd cn cs L a ccd cl outer) (call (.ref 111) [.ref x, .int 1 u1, .int cc u2, .int 0 u3, .int 0 u4]) Q E s := by
  w_top off; revert X; k_fill; intro X
  refine wpAny_call ?_
  k_dflt (refine' callF B F X N T rfl rfl hk (getK X F.keep (by k_is)) rfl (codeK X F.keep (by k_is)) ?k8 ?k9 ?kB ?_ ?c5; (case k8 => ktr_room); (case k9 => exact BindsTo.of_eq rfl); (case c5 => decide); (case kB => exact locs rfl); intro g' L' h' FG' F' N' B' X' T' hkeep hback hlt; (try dsimp only); (try k_fold))
  k_steps
  unfold Stop
  k_dflt (refine' closed_spec ?B ?F ?X ?T ?kk9 ?N ?hd ?hu ?_; (case B => k_asm); (case F => k_asm); (case X => k_asm); (case T => k_asm); (case kk9 => rfl); (case N => refine' List.forall_mem_cons.mpr ⟨lk (by k_asm) (by k_mem), List.forall_mem_cons.mpr ⟨lk (by k_asm) (by k_mem), List.forall_mem_cons.mpr ⟨lk (by k_asm) (by k_mem), fun _ h => nomatch h⟩⟩⟩); (case hd => ktr_room); (case hu => ktr_units); (rename News _ _ _ _ => lN₉); (rename Fr _ _ _ _ => lF₉); intro q₉ h₉ tk₉ f1₉ F₉ K₉ e1₉; (have l1₉ := allNe_of (newsNe lN₉ f1₉)); (have N₉ := newsAdd (newsKeep lN₉ K₉) lF₉ f1₉ e1₉); (simp only [AllNe, and_true] at l1₉); clear lN₉ lF₉ K₉ e1₉; (try dsimp only at N₉))
  k_steps
  unfold Stop
  k_dflt (refine' unwound_spec ?B ?F ?X ?T ?kk9 ?N ?hd ?hu ?_; (case B => k_asm); (case F => k_asm); (case X => k_asm); (case T => k_asm); (case kk9 => rfl); (case N => refine' List.forall_mem_cons.mpr ⟨lk (by k_asm) (by k_mem), fun _ h => nomatch h⟩); (case hd => ktr_room); (case hu => ktr_units); (rename News _ _ _ _ => lN₉); (rename Fr _ _ _ _ => lF₉); intro h₉ tk₉ F₉ K₉; (have N₉ := newsKeep lN₉ K₉); clear lN₉ lF₉ K₉; (try dsimp only at N₉))
  k_steps
  rename Fr g' _ _ _ => FE
  rename News g' _ _ _ => NE
  change Q _ _
  have fq := (NE _ (.head _)).2.2
  refine ret _ _ _ (freshOf hkeep fq (by simp only [List.map_cons, List.map_nil, List.mem_cons, List.not_mem_nil, or_false]; intro z; rcases z with z | z | z | z <;> exact absurd z ((by k_ne)))) (frBack FG' FE) ?kq (NE _ (.head _)).1 (NE _ (.tail _ (.tail _ (.head _)))).1
  case kq =>
    intro b o n e
    refine keepOf (S := [hx]) N NE hkeep FE.keep ?sub b o (by simpa using n) e
    intro z hz hn
    simp only [List.mem_cons, List.not_mem_nil, or_false] at hz hn
    rcases hz with rfl | rfl | rfl | rfl <;> first | exact absurd rfl hn | k_dflt k_mem
end
section
open PySem PySem.W PyProof.Rows PySem.Calls PySem.Spec
open Builtin
set_option maxRecDepth 100000
section
open Builtin
theorem slot_bytes_find : Slot "bytes" "find" "bytes.find" :=
  .of (owner := "bytes") (n := "find") (by rw [typeLookup_type, builtinLookup_eq_fast]; kernel_rfl) (by decide +kernel) (by decide +kernel) (by decide +kernel)
    (by first | exact .inl (by decide +kernel) | exact .inr (by decide +kernel)) (by rw [isSubtype_type]; kernel_rfl)
theorem type_bytes_find : typeOf (.builtin "bytes.find") = pure (.type "method_descriptor") := by show builtinType _ = _; rw [builtinType_eq_fast]; kernel_rfl
theorem entry_bytes_find : entryFor table "bytes.find" = some Builtin.«bytes.find» := entryFor_of_tree (by kernel_rfl)
theorem args_bytes_find_2 (a b : Value) : argsOk "bytes.find" ⟨[a, b], []⟩ := by
  unfold argsOk; rw [signature?_of (id := "bytes.find") (n := ['d', 'n', 'i', 'f']) (o := ['s', 'e', 't', 'y', 'b']) (by kernel_rfl) FB.owner_bytes]; kernel_rfl
variable {b : Array UInt8} {t u : Tok}
theorem buf_int {id : String} : Bytes.buffer? id (.int 0 u) = pure none := by
  have e : specialOf (.int 0 u) "__buffer__" = typeLookup (.type "int") "__buffer__" := rfl
  have l : typeLookup (.type "int") "__buffer__" = pure none := by rw [typeLookup_type, builtinLookup_eq_fast]; kernel_rfl
  unfold Bytes.buffer?
  rw [e, l]
  rfl
theorem search_eq : Bytes.searchArgs .bytes "find" ⟨[.bytes b t, .int 0 u], []⟩ = pure (b, #[0], if ((min (b.size : Int) (b.size : Int)) - 0 < 1) then none else some (0, (min (b.size : Int) (b.size : Int)).toNat)) := by
  have e : specialOf (.int 0 u) "__index__" = typeLookup (.type "int") "__index__" := rfl
  show (Bytes.buffer? "bytes.find" (.int 0 u) >>= fun r => _) = _
  rw [buf_int]
  show (specialOf (.int 0 u) "__index__" >>= fun r => _) = _
  rw [e, F.slot_int_index.lookup]
  rfl
/-- the first place of a nought, or -1 -/
def findZ (b : Array UInt8) : Int := match (if ((min (b.size : Int) (b.size : Int)) - 0 < 1) then none else some ((0 : Nat), (min (b.size : Int) (b.size : Int)).toNat)).bind fun (lo, hi) => Bytes.find? b #[0] lo hi with
  | some i => (i : Int)
  | none => -1
theorem meets_find : Meets («bytes.find» ⟨[.bytes b t, .int 0 u], []⟩) (fun _ R s => R (.ok (.ret (.int (findZ b) s.toks))) { s with toks := s.toks + 1 }) := by
  refine .of_wp fun prog w A R s h => ?_
  show wpAny _ _ (Bytes.searchArgs .bytes "find" ⟨[.bytes b t, .int 0 u], []⟩ >>= fun r => _) _ _ s
  rw [search_eq]
  refine wpAny_bind (wpAny_pure ?_)
  dsimp only
  unfold findZ at h
  split
  · rename_i i hi
    simp only [Bool.false_eq_true, if_false] at hi
    rw [hi] at h
    exact wpAny_bind (wpAny_mkInt (wpAny_pure ⟨_, rfl, h⟩))
  · rename_i hi
    simp only [Bool.false_eq_true, if_false] at hi
    rw [hi] at h
    refine wpAny_bind (wpAny_rule ?_)
    exact wpAny_bind (wpAny_mkInt (wpAny_pure ⟨_, rfl, h⟩))
variable {prog : Program} {w : World} {A : Around} {E : Value → Shared → Prop} {s : Shared}
theorem find_call {Q : Value → Shared → Prop} (h : ∀ t' k, Q (.int (findZ b) t') { s with toks := k }) : wpAny (model prog w) A (call (.builtin "bytes.find") [.bytes b t, .int 0 u]) Q E s :=
  call_meets slot_bytes_find (typeIs_bytes _ _ _) entry_bytes_find (args_bytes_find_2 _ _) meets_find (h _ _)
theorem find_method {M : Model} {pl : Sem Bool} {Q : Value × List Value → Shared → Prop} (h : Q (.builtin "bytes.find", [.bytes b t]) s) : wpAny M A (getMethod (.bytes b t) "find" pl) Q E s := by
  with_reducible exact KBd.method_of (.bytes b t) (typeIs_bytes _ _ _) slot_bytes_find type_bytes_find KBd.noRef h
end
end
section
open PySem PySem.W PyProof.Rows PySem.Calls PySem.Spec
set_option maxRecDepth 100000
/-- how many octets stand ahead of the first nought -/
noncomputable def cz : List Int → Nat
  | [] => 0
  | k :: r => if k = 0 then 0 else cz r + 1
theorem cz_le : ∀ ks : List Int, cz ks ≤ ks.length
  | [] => Nat.le_refl _
  | k :: r => by
    have := cz_le r
    unfold cz
    split <;> simp <;> omega
theorem cz_nz : ∀ (ks : List Int) (i : Nat), i < cz ks → ks.getD i 0 ≠ 0
  | [], _, h => by simp [cz] at h
  | k :: r, i, h => by
    unfold cz at h
    split at h
    · omega
    · cases i with
      | zero => simpa using (by assumption : ¬ k = 0)
      | succ i => simpa using cz_nz r i (by omega)
theorem cz_z : ∀ (ks : List Int), cz ks < ks.length → ks.getD (cz ks) 0 = 0
  | [], h => by simp [cz] at h
  | k :: r, h => by
    unfold cz at h ⊢
    split
    · simpa using (by assumption : k = 0)
    · rw [if_neg (by assumption)] at h
      simpa using cz_z r (by simpa using h)
theorem cz_eq {ks : List Int} {n : Nat} (h1 : n ≤ ks.length) (h2 : ∀ i, i < n → ks.getD i 0 ≠ 0) (h3 : n < ks.length → ks.getD n 0 = 0) : cz ks = n := by
  have a := cz_le ks
  rcases Nat.lt_trichotomy (cz ks) n with h | h | h
  · exact absurd (cz_z ks (by omega)) (h2 _ h)
  · exact h
  · exact absurd (h3 (by omega)) (cz_nz ks n h)
def CI (g : Heap) (L' : Addr) (s : Shared) (m₀ : Str → Option Value) (ks : List Int) (n : Nat) (s' : Shared) : Prop :=
  ∃ (h : Heap) (tk : Nat) (m₁ : Str → Option Value) (k : Nat) (t1 : Tok), s' = { s with heap := h, toks := tk } ∧ n = ks.length - k ∧ Fr g L' h m₁ ∧ m₁ "at" = some (.int (k : Int) t1) ∧ m₁ "text" = m₀ "text" ∧ k ≤ ks.length ∧ (∀ i, i < k → ks.getD i 0 ≠ 0)
local macro_rules | `(tactic| walk_at "exec While BoolOp cons nil") => `(tactic| (refine stop ?_))
set_option maxHeartbeats 8000000 in
theorem ctext_spec {w : World} {pt : Program} {lo : List Str} {mean : ExcName → Option Value} {mg mb : Str → Option Value} {dp un : Nat} {gd : Option (List Code)} {cn : Str} {cs : Scope} {L a : Addr} {ccd : Value} {cl : List (Str × Addr)} {outer : List Env} {A₀ : Around} {base h₀ : Heap} {m : Str → Option Value} {s : Shared} {Q E : Value → Shared → Prop}
   {b : Array UInt8} {t : Tok} {ks : List Int}
   (B : Below A₀ base outer h₀) (F : Fr h₀ L s.heap m) (X : (hd.heap_39 w.params).In h₀) (T : Top pt lo mean mg mb h₀) (hk : cs.kind = .function)
   (hb : KBw.bInts b = ks) (hl : ks.length ≤ 10)
   (hd : dp + 20 < recursionLimit) (hu : un + 40 < cLine)
   (ret : ∀ t' h' tk', Fr h₀ L h' m → (∀ b o, s.heap.get? b = some o → h'.get? b = some o) → Q (.bytes (KBy.picked b none (some (cz ks : Int))) t') { s with heap := h', toks := tk' }) :
   wpAny (model PySem.Challenge.rw_rh0158_01.row.prog w) (aTop none dp un gd cn cs L a ccd cl outer) (call (.ref 76) [.bytes b t]) Q E s := by
  w_top off; revert X; k_fill; intro X
  have N : News h₀ L s.heap [] := News.nil
  refine wpAny_call ?_
  k_dflt (refine' callF B F X N T rfl rfl hk (getK X F.keep (by k_is)) rfl (codeK X F.keep (by k_is)) ?k8 ?k9 ?kB ?_ ?c5; (case k8 => ktr_room); (case k9 => exact BindsTo.of_eq rfl); (case c5 => decide); (case kB => exact locs rfl); intro g' L' h' FG' F' N' B' X' T' hkeep hback hlt; (try dsimp only); (try k_fold))
  k_steps
  unfold Stop
  rename Fr g' _ _ _ => FE
  rename News g' _ _ _ => NE
  refine withMap FE fun m₀ em FE' => ?_
  have r1 : m₀ "text" = some (.bytes b t) := by rw [em]; rfl
  have r5 : ∃ tv, m₀ "at" = some (.int 0 tv) := ⟨_, by rw [em]; rfl⟩
  obtain ⟨tv, r5⟩ := r5
  clear em FE NE
  refine while_I (CI g' L' s m₀ ks) (n₀ := ks.length) ?init ?turn
  case init =>
    exact ⟨_, _, m₀, 0, tv, rfl, rfl, FE', r5, rfl, Nat.zero_le _, fun i h => absurd h (Nat.not_lt_zero i)⟩
  rintro n s' ⟨h, tk, m₁, k, ta, rfl, rfl, F₁, q1, q2, hkl, hnz⟩
  have em1 : m₁ = fun (z : Str) => if z = "at" then some (.int (k : Int) ta) else if z = "text" then some (.bytes b t) else m₁ z := by
    funext z
    by_cases z1 : z = "at"
    · rw [if_pos z1, z1, q1]
    rw [if_neg z1]
    by_cases z2 : z = "text"
    · rw [if_pos z2, z2, q2, r1]
    rw [if_neg z2]
  rw [em1] at F₁
  clear em1 FE'
  have N₁ : News g' L' h [] := News.nil
  try k_fold
  k_steps
  · rename Fr g' _ _ _ => FE
    unfold LoopEnd
    dsimp only
    rename (k : Int) < _ => hlt'
    rename ¬ _ = (0 : Int) => hz
    refine ⟨ks.length - (k + 1), by omega, _, _, _, k + 1, _, rfl, rfl, FE, intTok rfl (by omega), r1.symm, by omega, ?_⟩
    intro i hi
    by_cases z : i = k
    · rw [z]; simpa using hz
    · exact hnz i (by omega)
  · rename Fr g' _ _ _ => FE
    rename News g' _ _ _ => NE
    rename (k : Int) < _ => hlt'
    rename _ = (0 : Int) => hz
    change Q _ _
    have e := cz_eq hkl hnz fun _ => by simpa using hz
    rw [e] at ret
    exact ret _ _ _ (frBack FG' FE) (fun b o e => keepOf (S := []) N NE hkeep FE.keep (fun z hz _ => nomatch hz) b o (by simp) e)
  · rename Fr g' _ _ _ => FE
    rename News g' _ _ _ => NE
    rename ¬ (k : Int) < _ => hlt'
    change Q _ _
    have e := cz_eq hkl hnz fun h => absurd h (by omega)
    rw [e] at ret
    exact ret _ _ _ (frBack FG' FE) (fun b o e => keepOf (S := []) N NE hkeep FE.keep (fun z hz _ => nomatch hz) b o (by simp) e)
end
section
open PySem PySem.W PyProof.Rows PySem.Calls PySem.Spec
set_option maxRecDepth 100000
theorem ext1 {b : Array UInt8} {i : Nat} (h : i < b.size) : b.extract i (i + 1) = #[b[i]] := by
  apply Array.ext'
  rw [Array.toList_extract, List.extract_eq_take_drop]
  simp only [Nat.add_sub_cancel_left]
  have : b.toList.drop i = b[i] :: b.toList.drop (i + 1) := by
    rw [List.drop_eq_getElem_cons (by simpa using h)]
    simp
  rw [this]
  rfl
theorem at_nought {b : Array UInt8} {ks : List Int} (hk : KBw.bInts b = ks) {i : Nat} (h : i < b.size) : (b.extract i (i + 1) == #[0]) = decide (ks.getD i 0 = 0) := by
  subst hk
  rw [ext1 h]
  have e : (KBw.bInts b).getD i 0 = ((b[i].toNat : Nat) : Int) := by
    have := KBw.ints_get (b := b) (i := i) (c := b[i]) (by simp [h])
    rw [List.getD_eq_getElem?_getD, this]; rfl
  rw [e]
  by_cases z : b[i] = 0
  · rw [z]; rfl
  · have n : ¬ (((b[i].toNat : Nat) : Int) = 0) := fun q => z (UInt8.toNat_inj.mp (by have : b[i].toNat = 0 := by omega
                                                                                      rw [this]; rfl))
    rw [decide_eq_false n]
    have : ¬ (#[b[i]] = (#[0] : Array UInt8)) := fun q => z (by simpa using q)
    exact beq_eq_false_iff_ne.mpr this
theorem findZ_eq {b : Array UInt8} {ks : List Int} (hk : KBw.bInts b = ks) : findZ b = if (0 : Int) ∈ ks then (cz ks : Int) else -1 := by
  have hl := KBw.ints_length b
  rw [hk] at hl
  have hle := cz_le ks
  unfold findZ
  by_cases h0 : b.size = 0
  · have : ks = [] := List.eq_nil_of_length_eq_zero (by omega)
    subst this
    simp [h0]
  have e : (if ((min (b.size : Int) (b.size : Int)) - 0 < 1) then none else some ((0 : Nat), (min (b.size : Int) (b.size : Int)).toNat)) = some ((0 : Nat), b.size) := by
    rw [if_neg (by omega)]
    simp
  rw [e]
  simp only [Option.bind_some]
  have ef : Builtin.Bytes.find? b #[0] 0 b.size = (List.range b.size).find? fun i => decide (ks.getD i 0 = 0) := by
    unfold Builtin.Bytes.find?
    have e1 : b.size + 1 - (0 + (#[0] : Array UInt8).size) = b.size := by simp
    have e2 : ∀ l : List Nat, l.map (· + 0) = l := fun l => by simp
    rw [e1, e2]
    have : ∀ (l : List Nat), (∀ i ∈ l, i < b.size) → l.find? (fun i => b.extract i (i + (#[0] : Array UInt8).size) == #[0]) = l.find? fun i => decide (ks.getD i 0 = 0) := by
      intro l
      induction l with
      | nil => intro _; rfl
      | cons i l ih =>
        intro h
        have hi := at_nought hk (h i (.head _))
        simp only [List.find?_cons]
        rw [show i + (#[0] : Array UInt8).size = i + 1 from rfl, hi, ih fun j hj => h j (.tail _ hj)]
    exact this _ fun i hi => List.mem_range.mp hi
  rw [ef]
  by_cases hz : (0 : Int) ∈ ks
  · rw [if_pos hz]
    have hlt : cz ks < ks.length := by
      rcases Nat.lt_or_ge (cz ks) ks.length with q | q
      · exact q
      · obtain ⟨i, hi, e⟩ := List.getElem_of_mem hz
        exact absurd (by rw [List.getD_eq_getElem?_getD, List.getElem?_eq_getElem hi]; exact e) (cz_nz ks i (by omega))
    have : (List.range b.size).find? (fun i => decide (ks.getD i 0 = 0)) = some (cz ks) := by
      rw [List.find?_range_eq_some]
      refine ⟨by simpa using cz_z ks hlt, by rw [List.mem_range]; omega, fun j hj => by simpa using cz_nz ks j hj⟩
    rw [this]
  · rw [if_neg hz]
    have : (List.range b.size).find? (fun i => decide (ks.getD i 0 = 0)) = none := by
      rw [List.find?_eq_none]
      intro i hi q
      have hi' := List.mem_range.mp hi
      apply hz
      have q' := of_decide_eq_true q
      rw [← q', List.getD_eq_getElem?_getD, List.getElem?_eq_getElem (by omega)]
      exact List.getElem_mem _
    rw [this]
theorem cz_all {ks : List Int} (h : (0 : Int) ∉ ks) : cz ks = ks.length := by
  refine cz_eq (Nat.le_refl _) (fun i hi q => h ?_) fun z => absurd z (Nat.lt_irrefl _)
  rw [← q, List.getD_eq_getElem?_getD, List.getElem?_eq_getElem hi]
  exact List.getElem_mem _
theorem picked_some {b : Array UInt8} {ks : List Int} (hk : KBw.bInts b = ks) : ∃ es, KBw.bInts (KBy.picked b none (some (cz ks : Int))) = es ∧ es.length ≤ ks.length :=
  ⟨_, KBc.ints_picked hk none (some (cz ks : Int)), by rw [List.length_take, List.length_drop]; omega⟩
theorem picked_all {b : Array UInt8} {ks : List Int} (hk : KBw.bInts b = ks) (h : (0 : Int) ∉ ks) : KBy.picked b none (some (cz ks : Int)) = b := by
  have hl := KBw.ints_length b
  rw [hk] at hl
  rw [KBc.picked_eq, cz_all h]
  simp only [Option.elim, clipAt_nat, List.drop_zero, Nat.sub_zero]
  rw [List.take_of_length_le (by simp; omega), Array.toArray_toList]
theorem ctext_no {w : World} {pt : Program} {lo : List Str} {mean : ExcName → Option Value} {mg mb : Str → Option Value} {dp un : Nat} {gd : Option (List Code)} {cn : Str} {cs : Scope} {L a : Addr} {ccd : Value} {cl : List (Str × Addr)} {outer : List Env} {A₀ : Around} {base h₀ : Heap} {m : Str → Option Value} {s : Shared} {Q E : Value → Shared → Prop}
   {b : Array UInt8} {t : Tok} {ks : List Int}
   (B : Below A₀ base outer h₀) (F : Fr h₀ L s.heap m) (X : (hd.heap_39 w.params).In h₀) (T : Top pt lo mean mg mb h₀) (hk : cs.kind = .function)
   (hb : KBw.bInts b = ks) (hl : ks.length ≤ 10) (hz : ¬ (0 : Int) ∈ ks)
   (hd : dp + 20 < recursionLimit) (hu : un + 40 < cLine)
   (ret : ∀ t' h' tk', Fr h₀ L h' m → (∀ b o, s.heap.get? b = some o → h'.get? b = some o) → Q (.bytes b t') { s with heap := h', toks := tk' }) :
   wpAny (model PySem.Challenge.rw_rh0158_01.row.prog w) (aTop none dp un gd cn cs L a ccd cl outer) (call (.ref 76) [.bytes b t]) Q E s :=
  ctext_spec B F X T hk hb hl hd hu fun t' h' tk' F' K' => by rw [picked_all hb hz]; exact ret t' h' tk' F' K'
theorem ctext_d {w : World} {pt : Program} {lo : List Str} {mean : ExcName → Option Value} {mg mb : Str → Option Value} {dp un : Nat} {gd : Option (List Code)} {cn : Str} {cs : Scope} {L a : Addr} {ccd : Value} {cl : List (Str × Addr)} {outer : List Env} {A₀ : Around} {base h₀ : Heap} {m : Str → Option Value} {s : Shared} {Q E : Value → Shared → Prop}
   {b d : Array UInt8} {t : Tok} {ks : List Int}
   (B : Below A₀ base outer h₀) (F : Fr h₀ L s.heap m) (X : (hd.heap_39 w.params).In h₀) (T : Top pt lo mean mg mb h₀) (hk : cs.kind = .function)
   (hb : KBw.bInts b = ks) (hl : ks.length ≤ 10) (hz : KBy.picked b none (some (cz ks : Int)) = d)
   (hd : dp + 20 < recursionLimit) (hu : un + 40 < cLine)
   (ret : ∀ t' h' tk', Fr h₀ L h' m → (∀ b o, s.heap.get? b = some o → h'.get? b = some o) → Q (.bytes d t') { s with heap := h', toks := tk' }) :
   wpAny (model PySem.Challenge.rw_rh0158_01.row.prog w) (aTop none dp un gd cn cs L a ccd cl outer) (call (.ref 76) [.bytes b t]) Q E s :=
  ctext_spec B F X T hk hb hl hd hu fun t' h' tk' F' K' => by rw [hz]; exact ret t' h' tk' F' K'
end
section
open PySem PySem.W PyProof.Rows PySem.Calls PySem.Spec
set_option maxRecDepth 100000
section
variable {prog : Program} {w : World} {A : Around} {E : Value → Shared → Prop} {s : Shared}
/-- what the list of octets holds -/
def OctAt (x : Array UInt8) (i : Nat) (v : Value) : Prop := ∃ c u, x[i]? = some c ∧ v = .int (c.toNat : Int) u
theorem ext_bytes {R : Result → Shared → Prop} (hh : A.handled = none) (x : Array UInt8) (t : Tok) (S : Addr) (res : Value) (c₀ : Nat) (hS : s.heap.get? S = some { cls := .type "list", data := .seq #[] c₀ })
    (hR : ∀ h' tk acc' c', (∀ b o, b ≠ S → s.heap.get? b = some o → h'.get? b = some o) → h'.get? S = some { cls := .type "list", dict := none, data := .seq acc' c', slots := #[] } →
      ItemsOf (OctAt x) acc' x.size → R (.ok (.ret res)) { s with heap := h', toks := tk }) (hn : x.size ≤ sizeLine) :
    wpAny (model prog w) A.in1 (Builtin.List.listExtendWith (.ref S) (.bytes x t) res)
      (fun fin s' => match fin with | .done f => R (.ok f) s' | .again c' => c'.quiet = true ∧ codeAny (model prog w) A c' R s') (fun e s' => R (.error e) s') s := by
  have hlt := Heap.lt_size hS
  have hSf : S ∉ [s.heap.objs.size] := fun hm => Nat.ne_of_lt hlt (List.mem_singleton.mp hm)
  have hT : ∀ s : Shared, s.TypeIs (.bytes x t) "bytes" := fun s => W.typeIs_bytes s x t
  unfold Builtin.List.listExtendWith
  refine wpAny_bind (wpAny_typeOf (hT _) ?_)
  have h1 : Builtin.List.listSameRef (.ref S) (.bytes x t) = false := rfl
  have h2 : (Value.type "bytes" == Value.type "list") = false := by decide
  have h3 : (Value.type "bytes" == Value.type "tuple") = false := by decide
  simp only [h1, h2, h3, Bool.or_false, Bool.false_eq_true, if_false]
  refine wpAny_bind (W.KBw.pyIter_bytes ?_)
  refine wpAny_bind (wpAny_holding ?_)
  unfold Builtin.List.listLengthHint
  refine wpAny_bind (wpAny_specialOf (hT _) W.FB.slot_bytes_len.lookup ?_)
  wp_delta
  refine wpAny_bind (wpAny_isInstance (b := true) (hT _) (by rw [isSubtype_type]; kernel_rfl) ?_)
  show wpAny _ _ (typeOf (Value.bytes x t) >>= _) _ _ _
  refine wpAny_bind (wpAny_typeOf (hT _) ?_)
  refine wpAny_pure ?_
  rw [if_neg (by decide)]
  have W := W.KBw.walks (prog := prog) (w := w) (A := A.in1) hh s.heap.objs.size x t
  refine wpAny_pure ⟨plainId_quiet F.plain_extend_loop _, codeAny_extend_loopS W.toS hn _ hSf _ x.size 0 _ _ _ rfl (Nat.zero_le _) ⟨_, Heap.get?_push_size _ rfl, rfl, rfl⟩ (Heap.get?_push_of_some _ hS) (ItemsOf.nil _) fun s' acc' c' hm hS' hacc => ?_⟩
  rw [Moved.eq_with hm]
  refine hR s'.heap s'.toks acc' c' (fun b ob hb e => hm.heap b ob (fun hmem => ?_) (Heap.get?_push_of_some _ e)) hS' hacc
  rcases List.mem_cons.mp hmem with e' | hmem
  · exact hb e'
  · exact absurd (Heap.lt_size e) (by rw [List.mem_singleton.mp hmem]; exact Nat.lt_irrefl _)
theorem init_bytes {R : Result → Shared → Prop} (hh : A.handled = none) (x : Array UInt8) (t : Tok) (S : Addr) (hS : s.heap.get? S = some { cls := .type "list", data := .seq #[] })
    (hR : ∀ h' tk acc' c', (∀ b o, b ≠ S → s.heap.get? b = some o → h'.get? b = some o) → h'.get? S = some { cls := .type "list", dict := none, data := .seq acc' c', slots := #[] } →
      ItemsOf (OctAt x) acc' x.size → R (.ok (.ret .none)) { s with heap := h', toks := tk }) (hn : x.size ≤ sizeLine) :
    wpAny (model prog w) A.in1 (Builtin.«list.__init__» ⟨[.ref S, .bytes x t], []⟩)
      (fun fin s' => match fin with | .done f => R (.ok f) s' | .again c' => c'.quiet = true ∧ codeAny (model prog w) A c' R s') (fun e s' => R (.error e) s') s := by
  show wpAny _ _ (do let old ← Builtin.List.listItems (.ref S); Builtin.List.listUpdate (.ref S) (fun _ => #[]); letGo old.toList.reverse; Builtin.List.listExtendWith (.ref S) (.bytes x t) .none) _ _ s
  refine wpAny_bind ?_
  unfold Builtin.List.listItems
  refine wpAny_bind (wpAny_seqItems hS rfl (wpAny_pure ?_))
  show wpAny _ _ (updateSeq S (fun _ => #[]) >>= fun _ => letGo (#[] : Array Value).toList.reverse >>= fun _ => Builtin.List.listExtendWith (.ref S) (.bytes x t) .none) _ _ s
  refine wpAny_bind (wpAny_updateSeq hS rfl ?_)
  have up := Heap.get?_update_self (Obj.mapSeq (fun _ => (#[] : Array Value))) hS rfl
  refine wpAny_bind (wpAny_letGo (ext_bytes (hn := hn) hh x t S .none _ up fun h' tk acc' c' hk hS' hacc => ?_))
  exact hR h' tk acc' c' (fun b o hb e => hk b o hb ((Heap.get?_update_other _ _ (Ne.symm hb)).trans e)) hS' hacc
theorem call_list_bytes {Q : Value → Shared → Prop} (hh : A.handled = none) (x : Array UInt8) (t : Tok)
    (hQ : ∀ h' tk acc' c', (∀ b o, s.heap.get? b = some o → h'.get? b = some o) →
      h'.get? s.heap.objs.size = some { cls := .type "list", dict := none, data := .seq acc' c', slots := #[] } → ItemsOf (OctAt x) acc' x.size → Q (.ref s.heap.objs.size) { s with heap := h', toks := tk }) (hn : x.size ≤ sizeLine) :
    wpAny (model prog w) A (call (.type "list") [.bytes x t]) Q E s := by
  refine callType_codes (Q₁ := fun obj s₁ => obj = .ref s.heap.objs.size ∧ s₁ = { s with heap := s.heap.push { cls := .type "list", data := .seq #[] } }) F.called_list (F.typeCall_list_1 _) F.entry_list_init
    (code_list_new _ ⟨rfl, rfl⟩) ?_
  rintro _ _ ⟨rfl, rfl⟩
  have hS := Heap.get?_push_size s.heap (o := { cls := .type "list", data := .seq #[] }) rfl
  refine ⟨⟨_, hS, rfl⟩, F.args_list_init_2 _ _, init_bytes (A := A.in1) (hn := hn) hh x t _ hS fun h' tk acc' c' hk hS' hacc => ⟨rfl, hQ h' tk acc' c' (fun b o e => ?_) hS' hacc⟩⟩
  exact hk b o (Nat.ne_of_lt (Heap.lt_size e)) (Heap.get?_push_of_some _ e)
theorem oct_ints {x : Array UInt8} : ∀ (n : Nat) (vs : List Value), vs.length + n = x.size → (∀ j v, vs[j]? = some v → OctAt x (n + j) v) → IntsAre vs ((KBw.bInts x).drop n)
  | n, [], h, _ => by
    rw [List.drop_eq_nil_of_le (by rw [KBw.ints_length]; simp at h; omega)]
    exact .nil
  | n, v :: vs, h, hv => by
    obtain ⟨c, u, hc, rfl⟩ := hv 0 v rfl
    have e := KBw.ints_get hc
    have hl : n < (KBw.bInts x).length := by rw [KBw.ints_length]; simp at h; omega
    rw [List.drop_eq_getElem_cons hl]
    have e2 : (KBw.bInts x)[n] = (c.toNat : Int) := by
      have := List.getElem?_eq_getElem hl
      rw [Nat.add_zero] at e
      rw [this] at e
      exact Option.some.inj e
    rw [e2]
    refine .cons _ _ (oct_ints (n + 1) vs (by simp at h; omega) fun j v q => ?_)
    have := hv (j + 1) v (by simpa using q)
    rwa [show n + 1 + j = n + (j + 1) by omega]
end
section
variable {prog : Program} {w : World} {A : Around} {E : Value → Shared → Prop} {s : Shared} {h₀ : Heap} {L : Addr} {m : Str → Option Value} {news : List (Addr × Obj)} {b : Array UInt8} {t : Tok} {ks : List Int} {Q : Value → Shared → Prop}
theorem list_bytes (hh : A.handled = none) (F : Fr h₀ L s.heap m) (N : News h₀ L s.heap news) (hk : KBw.bInts b = ks) (hn : ks.length ≤ 1000)
    (h : ∀ D vs c h' tk, IntsAre vs ks → (∀ p ∈ news, p.1 < D) → Fr h₀ L h' m → News h₀ L h' ((D, listOf vs.toArray c) :: news) → Q (.ref D) { s with heap := h', toks := tk }) :
    wpAny (model prog w) A (call (.type "list") [.bytes b t]) Q E s := by
  have hl := KBw.ints_length b
  rw [hk] at hl
  refine call_list_bytes hh b t (hn := by rw [sizeLine_eq]; omega) fun h' tk acc' c' hkk hS' hacc => ?_
  have hi : IntsAre acc'.toList ks := by
    have := oct_ints (x := b) 0 acc'.toList (by simp [hacc.1]) fun j v q => by
      rw [Nat.zero_add]; exact hacc.2 j v (by simpa using q)
    rwa [hk] at this
  refine h _ acc'.toList c' h' tk hi (fun p hp => Heap.lt_size (N p hp).1) (F.keeps hkk) ?_
  refine List.forall_mem_cons.mpr ⟨⟨by simpa [W.listOf] using hS', fun z => ?_, ?_⟩, fun p hp => ⟨hkk _ _ (N p hp).1, (N p hp).2⟩⟩
  · have := F.ns.lt
    dsimp only at z
    rw [z] at this
    exact Nat.lt_irrefl _ this
  · cases e : h₀.get? s.heap.objs.size with
    | none => rfl
    | some o => exact absurd (Heap.lt_size (F.keep _ _ e)) (Nat.lt_irrefl _)
end
end
section
open PySem PySem.W PyProof.Rows PySem.Calls PySem.Spec
set_option maxRecDepth 100000
theorem eqb_by {prog : Program} {w : World} {A : Around} {E : Value → Shared → Prop} {s : Shared} {x y : Array UInt8} {t u : Tok} {c : Bool} {Q : Value → Shared → Prop} (e : (x.toList == y.toList) = c) (h : Q (.bool c) s) : wpAny (model prog w) A (compareOp .Eq (.bytes x t) (.bytes y u)) Q E s := eq_bytes (by rw [e]; exact h)
theorem heads (f : Array UInt8) : ((f.toList == #[64].toList) = true ∧ True ∧ True) ∨ ((f.toList == #[64].toList) = false ∧ (f.toList == #[61].toList) = true ∧ True) ∨ ((f.toList == #[64].toList) = false ∧ (f.toList == #[61].toList) = false ∧ (f.toList == #[27].toList) = true) ∨ ((f.toList == #[64].toList) = false ∧ (f.toList == #[61].toList) = false ∧ (f.toList == #[27].toList) = false) := by
  cases f.toList == #[64].toList <;> cases f.toList == #[61].toList <;> cases f.toList == #[27].toList <;> simp
def binS : Array UInt8 := #[98, 105, 110, 97, 114, 121, 32, 115, 116, 114, 105, 110, 103]
def shownV (d : Array UInt8) : Array UInt8 := if ((KBy.picked d none (some 1)).toList == #[64].toList) = true then KBy.picked d (some 1) none else if ((KBy.picked d none (some 1)).toList == #[61].toList) = true then KBy.picked d (some 1) none
  else if ((KBy.picked d none (some 1)).toList == #[27].toList) = true then binS else d
set_option maxHeartbeats 8000000 in
theorem dump_spec {w : World} {pt : Program} {lo : List Str} {mean : ExcName → Option Value} {mg mb : Str → Option Value} {dp un : Nat} {gd : Option (List Code)} {cn : Str} {cs : Scope} {L a : Addr} {ccd : Value} {cl : List (Str × Addr)} {outer : List Env} {A₀ : Around} {base h₀ : Heap} {m : Str → Option Value} {s : Shared} {Q E : Value → Shared → Prop}
   {b : Array UInt8} {t : Tok} {ks : List Int}
   (B : Below A₀ base outer h₀) (F : Fr h₀ L s.heap m) (X : (hd.heap_39 w.params).In h₀) (T : Top pt lo mean mg mb h₀) (hk : cs.kind = .function)
   (hb : KBw.bInts b = ks) (hl : ks.length ≤ 10)
   (hd : dp + 40 < recursionLimit) (hu : un + 80 < cLine)
   (ret : ∀ h' tk', Fr h₀ L h' m → (∀ b o, s.heap.get? b = some o → h'.get? b = some o) → Q (.bool ((KBy.picked b none (some 1)).toList == #[27].toList)) { s with heap := h', toks := tk' }) :
   wpAny (model PySem.Challenge.rw_rh0158_01.row.prog w) (aTop none dp un gd cn cs L a ccd cl outer) (call (.ref 118) [.bytes b t]) Q E s := by
  w_top off; revert X; k_fill; intro X
  have N : News h₀ L s.heap [] := News.nil
  refine wpAny_call ?_
  k_dflt (refine' callF B F X N T rfl rfl hk (getK X F.keep (by k_is)) rfl (codeK X F.keep (by k_is)) ?k8 ?k9 ?kB ?_ ?c5; (case k8 => ktr_room); (case k9 => exact BindsTo.of_eq rfl); (case c5 => decide); (case kB => exact locs rfl); intro g' L' h' FG' F' N' B' X' T' hkeep hback hlt; (try dsimp only); (try k_fold))
  k_steps
  rename Fr g' _ _ _ => FE
  rename News g' _ _ _ => NE
  change Q _ _
  have e27 : KBy.picked #[27, 76, 117, 97] none (some 1) = #[27] := by decide
  rw [← e27] at ret
  exact ret _ _ (frBack FG' FE) (fun b o e => keepOf (S := []) N NE hkeep FE.keep (fun z hz _ => nomatch hz) b o (by simp) e)
theorem dump_by {w : World} {pt : Program} {lo : List Str} {mean : ExcName → Option Value} {mg mb : Str → Option Value} {dp un : Nat} {gd : Option (List Code)} {cn : Str} {cs : Scope} {L a : Addr} {ccd : Value} {cl : List (Str × Addr)} {outer : List Env} {A₀ : Around} {base h₀ : Heap} {m : Str → Option Value} {s : Shared} {Q E : Value → Shared → Prop}
   {b : Array UInt8} {t : Tok} {ks : List Int} {c : Bool}
   (B : Below A₀ base outer h₀) (F : Fr h₀ L s.heap m) (X : (hd.heap_39 w.params).In h₀) (T : Top pt lo mean mg mb h₀) (hk : cs.kind = .function)
   (hb : KBw.bInts b = ks) (hl : ks.length ≤ 10) (hz : ((KBy.picked b none (some 1)).toList == #[27].toList) = c)
   (hd : dp + 40 < recursionLimit) (hu : un + 80 < cLine)
   (ret : ∀ h' tk', Fr h₀ L h' m → (∀ b o, s.heap.get? b = some o → h'.get? b = some o) → Q (.bool c) { s with heap := h', toks := tk' }) :
   wpAny (model PySem.Challenge.rw_rh0158_01.row.prog w) (aTop none dp un gd cn cs L a ccd cl outer) (call (.ref 118) [.bytes b t]) Q E s :=
  dump_spec B F X T hk hb hl hd hu fun h' tk' F' K' => by rw [hz]; exact ret h' tk' F' K'
local macro_rules | `(tactic| walk_at "call ref") => `(tactic| (k_here; (with_reducible show wpAny _ _ (call (Value.ref 76) _) _ _ _); refine stop ?_))
local macro_rules | `(tactic| walk_at "compareOp Eq bytes bytes") => `(tactic| (k_here; k_dflt (refine' eqb_by (by with_reducible first | assumption | exact beq_self_eq_true _) ?_)))
local macro_rules | `(tactic| walk_at "call ref") => `(tactic| (k_here; (with_reducible show wpAny _ _ (call (Value.ref 118) _) _ _ _); refine stop ?_))
set_option maxHeartbeats 8000000 in
theorem shown_spec {w : World} {pt : Program} {lo : List Str} {mean : ExcName → Option Value} {mg mb : Str → Option Value} {dp un : Nat} {gd : Option (List Code)} {cn : Str} {cs : Scope} {L a : Addr} {ccd : Value} {cl : List (Str × Addr)} {outer : List Env} {A₀ : Around} {base h₀ : Heap} {m : Str → Option Value} {s : Shared} {Q E : Value → Shared → Prop}
   {b : Array UInt8} {t : Tok} {ks : List Int}
   (B : Below A₀ base outer h₀) (F : Fr h₀ L s.heap m) (X : (hd.heap_39 w.params).In h₀) (T : Top pt lo mean mg mb h₀) (hk : cs.kind = .function)
   (hb : KBw.bInts b = ks) (hl : ks.length ≤ 10)
   (hd : dp + 60 < recursionLimit) (hu : un + 120 < cLine)
   (ret : ∀ t' h' tk', Fr h₀ L h' m → (∀ b o, s.heap.get? b = some o → h'.get? b = some o) → Q (.bytes (shownV (KBy.picked b none (some (cz ks : Int)))) t') { s with heap := h', toks := tk' }) :
   wpAny (model PySem.Challenge.rw_rh0158_01.row.prog w) (aTop none dp un gd cn cs L a ccd cl outer) (call (.ref 125) [.bytes b t]) Q E s := by
  w_top off; revert X; k_fill; intro X
  have N : News h₀ L s.heap [] := News.nil
  refine wpAny_call ?_
  k_dflt (refine' callF B F X N T rfl rfl hk (getK X F.keep (by k_is)) rfl (codeK X F.keep (by k_is)) ?k8 ?k9 ?kB ?_ ?c5; (case k8 => ktr_room); (case k9 => exact BindsTo.of_eq rfl); (case c5 => decide); (case kB => exact locs rfl); intro g' L' h' FG' F' N' B' X' T' hkeep hback hlt; (try dsimp only); (try k_fold))
  obtain ⟨es, hes, hel⟩ := picked_some hb
  generalize hdd : KBy.picked b none (some (cz ks : Int)) = d at hes ret
  k_steps
  unfold Stop
  k_dflt (refine' ctext_d ?B ?F ?X ?T ?kk9 ?hb ?hl ?hz ?hd ?hu ?_; (case B => k_asm); (case F => k_asm); (case X => k_asm); (case T => k_asm); (case kk9 => rfl); (case hb => kba_ints); (case hl => omega); (case hz => with_reducible assumption); (case hd => ktr_room); (case hu => ktr_units); (rename News _ _ _ _ => lN₉); (rename Fr _ _ _ _ => lF₉); intro t₉ h₉ tk₉ F₉ K₉; (have N₉ := newsKeep lN₉ K₉); clear lN₉ lF₉ K₉; (try dsimp only at N₉))
  rcases heads (KBy.picked d none (some 1)) with ⟨q1, q2, q3⟩ | ⟨q1, q2, q3⟩ | ⟨q1, q2, q3⟩ | ⟨q1, q2, q3⟩
  all_goals k_steps
  all_goals (try (unfold Stop; k_dflt (refine' dump_by ?B ?F ?X ?T ?kk9 ?hb ?hl ?hz ?hd ?hu ?_; (case B => k_asm); (case F => k_asm); (case X => k_asm); (case T => k_asm); (case kk9 => rfl); (case hb => kba_ints); (case hl => omega); (case hz => with_reducible assumption); (case hd => ktr_room); (case hu => ktr_units); (rename News _ _ _ _ => lN₉); (rename Fr _ _ _ _ => lF₉); intro h₉ tk₉ F₉ K₉; (have N₉ := newsKeep lN₉ K₉); clear lN₉ lF₉ K₉; (try dsimp only at N₉)); k_steps))
  all_goals (rename Fr g' _ _ _ => FE; rename News g' _ _ _ => NE)
  all_goals (change Q _ _)
  all_goals (
    unfold shownV at ret
    simp only [q1, q2, q3, if_true, if_false, Bool.false_eq_true] at ret
    exact ret _ _ _ (frBack FG' FE) (fun b o e => keepOf (S := []) N NE hkeep FE.keep (fun z hz _ => nomatch hz) b o (by simp) e))
end
section
open PySem PySem.W PyProof.Rows
set_option maxRecDepth 100000
def CompPost (s : Shared) (h₀ : Heap) (L : Addr) (m : Str → Option Value) (d1 d2 : Addr × Obj) (r l : Addr) (n : Int) (c : Nat) (rest : List (Addr × Obj)) (v : Value) (s' : Shared) : Prop :=
  ∃ h' tk' p vs' ns n' tn' c', v = .ref p ∧ s' = { s with heap := h', toks := tk' } ∧ Fr h₀ L h' m ∧ News h₀ L h' ((p, listOf (List.toArray vs') c') :: d1 :: d2 :: (r, listOf #[.ref l, .int n' tn'] c) :: rest) ∧ IntsAre vs' ns ∧ ns.length ≤ 6 ∧ (∀ d ∈ ns, 0 ≤ d ∧ d ≤ 10) ∧ n ≤ n' ∧ n' ≤ n + 7 ∧ LCg.Off1 p (d1 :: d2 :: (r, listOf #[.ref l, .int n' tn'] c) :: rest)
theorem compMid {M : Model} {A : Around} {x : Sem Value} {Q E : Value → Shared → Prop} {s : Shared} {h₀ : Heap} {L : Addr} {m : Str → Option Value} {d1 d2 : Addr × Obj} {r l : Addr} {n : Int} {tn : Tok} {c : Nat} {rest : List (Addr × Obj)} (F : Fr h₀ L s.heap m) (N : News h₀ L s.heap (d1 :: d2 :: (r, listOf #[.ref l, .int n tn] c) :: rest))
    (a : wpAny M A x (CompPost s h₀ L m d1 d2 r l n c rest) E s)
    (b : ∀ h' tk' p vs' ns n' tn' c', Fr h₀ L h' m → News h₀ L h' ((p, listOf (List.toArray vs') c') :: d1 :: d2 :: (r, listOf #[.ref l, .int n' tn'] c) :: rest) → IntsAre vs' ns → ns.length ≤ 6 → (∀ d ∈ ns, 0 ≤ d ∧ d ≤ 10) → n ≤ n' → n' ≤ n + 7 → LCg.Off1 p (d1 :: d2 :: (r, listOf #[.ref l, .int n' tn'] c) :: rest) → Q (.ref p) { s with heap := h', toks := tk' }) : wpAny M A x Q E s :=
  wpAny_mono a (fun v s' h => by obtain ⟨h', tk', p, vs', ns, n', tn', c', rfl, rfl, h1, h2, h3, h4, h5, h6, h7, h8⟩ := h; exact b _ _ _ _ _ _ _ _ h1 h2 h3 h4 h5 h6 h7 h8) (fun _ _ h => h)
def JI (r D ca I : Addr) (oD oc : Obj) (c : Nat) (i : Nat) (news : List (Addr × Obj)) : Prop :=
  ∃ (n : Int) (tn : Tok) (e : Addr) (oe tab : Obj), news = [(r, listOf #[.ref D, .int n tn] c), (D, oD), (ca, oc), (134, tab), (e, oe)] ∧ TabSt tab e oe ∧ 0 ≤ n ∧ n ≤ 20 * (i : Int) ∧ @Ne Nat e r ∧ @Ne Nat e 134 ∧ @Ne Nat e ca ∧ @Ne Nat e I
section
variable {prog : Program} {w : World} {A : Around} {E : Value → Shared → Prop} {s : Shared} {env : Env} {h₀ h₁ : Heap} {x : Str} {body : List Stmt} {Q : Flow → Shared → Prop} {I : Addr} {m₀ : Str → Option Value} {r D ca : Addr} {oD oc : Obj} {tn : Tok} {c : Nat}
theorem lawLoop (N₀ : News h₀ env.locals h₁ [(r, listOf #[.ref D, .int 0 tn] c), (D, oD), (ca, oc), (134, tabObj #[])]) (n1 : @Ne Nat D r) (n2 : @Ne Nat D 134) (n3 : @Ne Nat D ca) (n4 : @Ne Nat D I)
    (turn : ∀ (i : Nat) (m : Str → Option Value) (n : Int) tn e oe tab t h tk, i < 2 → TabSt tab e oe → 0 ≤ n → n ≤ 20 * (i : Int) → @Ne Nat e r → @Ne Nat e 134 → @Ne Nat e ca → @Ne Nat e I → Fr h₀ env.locals h (fun y => if y = x then some (.int (0 + (i : Int)) t) else m y) →
      News h₀ env.locals h [(I, itR (0 + ((i + 1 : Nat) : Int)) (((2 : Nat) : Int) - ((i + 1 : Nat) : Int))), (r, listOf #[.ref D, .int n tn] c), (D, oD), (ca, oc), (134, tab), (e, oe)] →
      wpAny (model prog w) A (execs body env) (UnrPost h₀ env.locals { s with heap := h, toks := tk } I (itR (0 + ((i + 1 : Nat) : Int)) (((2 : Nat) : Int) - ((i + 1 : Nat) : Int))) (fun _ news => JI r D ca I oD oc c (i + 1) news) Q) E { s with heap := h, toks := tk })
    (fin : ∀ m (n : Int) tn e oe ps h tk, 0 ≤ n → n ≤ 40 → @Ne Nat e r → @Ne Nat e 134 → @Ne Nat e ca → Fr h₀ env.locals h m → News h₀ env.locals h [(r, listOf #[.ref D, .int n tn] c), (D, oD), (ca, oc), (134, tabObj ps), (e, oe)] → Q .next { s with heap := h, toks := tk }) :
    RangeRest prog w A E h₀ env x body Q s I 0 2 2 0 m₀ [(r, listOf #[.ref D, .int 0 tn] c), (D, oD), (ca, oc), (134, tabObj #[])] := by
  have key := rangeRest_I (prog := prog) (w := w) (A := A) (E := E) (s := s) (env := env) (h₀ := h₀) (x := x) (body := body) (Q := Q) (I := I) (a := 0) (n := 2) (fun i _ news => JI r D ca I oD oc c i news) ?t ?f 2 0 m₀ [(r, listOf #[.ref D, .int 0 tn] c), (D, oD), (ca, oc), (134, tabObj #[]), (D, oD)] rfl ⟨0, tn, D, oD, _, rfl, .inl rfl, by omega, by omega, n1, n2, n3, n4⟩
  case t =>
    rintro i m news t h tk hi ⟨n, tn, e, oe, tab, rfl, h1, h2, h3, h4, h5, h6, h7⟩ F N
    exact turn i m n tn e oe tab t h tk hi h1 h2 h3 h4 h5 h6 h7 F N
  case f =>
    rintro m news h tk ⟨n, tn, e, oe, tab, rfl, h1, h2, h3, h4, h5, h6, h7⟩ F N
    obtain ⟨ps, rfl⟩ : ∃ ps, tab = tabObj ps := h1.elim (fun z => ⟨_, z⟩) fun z => ⟨_, z.1⟩
    exact fin m n tn e oe ps h tk h2 h3 h4 h5 h6 F N
  intro t h tk F N
  refine key t h tk F fun p hp => ?_
  rcases List.mem_cons.mp hp with rfl | hp
  · exact N _ (.head _)
  simp only [List.mem_cons, List.not_mem_nil, or_false] at hp
  rcases hp with rfl | rfl | rfl | rfl | rfl
  · exact N _ (.tail _ (.head _))
  · exact N _ (.tail _ (.tail _ (.head _)))
  · exact N _ (.tail _ (.tail _ (.tail _ (.head _))))
  · exact N _ (.tail _ (.tail _ (.tail _ (.tail _ (.head _)))))
  · exact N _ (.tail _ (.tail _ (.head _)))
end
theorem newsAddOr {h₀ h h' : Heap} {L b : Addr} {m : Str → Option Value} {old news : List (Addr × Obj)} {o : Obj} (No : News h₀ L h old) (N : News h₀ L h' news) (F : Fr h₀ L h m) (e : h.get? b = none ∨ (b, o) ∈ old) (ho : h'.get? b = some o) : News h₀ L h' ((b, o) :: news) := by
  rcases e with e | e
  · exact newsAdd N F e ho
  · intro p hp
    rcases List.mem_cons.mp hp with rfl | hp
    · exact ⟨ho, (No _ e).2⟩
    · exact N p hp
theorem neOr {h₀ h : Heap} {L b e : Addr} {old : List (Addr × Obj)} (No : News h₀ L h old) (z : h.get? b = none ∨ b = e) : ∀ p ∈ old, @Ne Nat p.1 e → @Ne Nat p.1 b := by
  intro p hp hn
  rcases z with z | z
  · exact newsNe No z p hp
  · rw [z]; exact hn
theorem mAt {α : Type} {l : List α} {a : α} (n : Nat) (h : l[n]? = some a) : a ∈ l := List.mem_of_getElem? h
theorem neM {g h : Heap} {L : Addr} {l : List (Addr × Obj)} {a b : Addr} {o o' : Obj} (_ : News g L h l) (_ : (a, o) ∈ l) (_ : (b, o') ∈ l) (h : @Ne Nat a b) : @Ne Nat a b := h
theorem newsGw {h₀ h h' : Heap} {L hx q : Addr} {m : Str → Option Value} {old keepL tl0 tail' : List (Addr × Obj)} {oh oq oh' oq' : Obj} (N : News h₀ L h old) (F : Fr h₀ L h m)
    (k : ∀ b o, b ∉ [hx, q, L] → h.get? b = some o → h'.get? b = some o) (mh : (hx, oh) ∈ old) (mq : (q, oq) ∈ old) (eh : h'.get? hx = some oh') (eq : h'.get? q = some oq')
    (sub : ∀ p ∈ keepL, p ∈ old) (n1 : ∀ p ∈ keepL, @Ne Nat p.1 hx) (n2 : ∀ p ∈ keepL, @Ne Nat p.1 q) (sub0 : ∀ p ∈ tl0, p ∈ old)
    (ht : ∀ p ∈ tail', h'.get? p.1 = some p.2) (hfr : ∀ p ∈ tail', p ∈ tl0 ∨ h.get? p.1 = none) : News h₀ L h' ((hx, oh') :: (q, oq') :: (keepL ++ tail')) := by
  refine List.forall_mem_cons.mpr ⟨⟨eh, (N _ mh).2⟩, List.forall_mem_cons.mpr ⟨⟨eq, (N _ mq).2⟩, ?_⟩⟩
  intro p hp
  rcases List.mem_append.mp hp with hp | hp
  · have n := N p (sub p hp)
    refine ⟨k _ _ ?_ n.1, n.2⟩
    simp only [List.mem_cons, List.not_mem_nil, or_false, not_or]
    exact ⟨n1 p hp, n2 p hp, n.2.1⟩
  · refine ⟨ht p hp, ?_⟩
    rcases hfr p hp with z | z
    · exact (N p (sub0 p z)).2
    · obtain ⟨oL, _, _, hL, _⟩ := F.ns
      exact ⟨fun y => (by rw [y, hL] at z; cases z), freshSub F.keep z⟩
theorem outHanded {o : Option Int} {v : Value} {b : Bool} (h : OutOk o v b) : handedIn v = true := by
  cases o with
  | some i => obtain ⟨⟨t, rfl⟩, _⟩ := h; rfl
  | none => obtain ⟨⟨t, rfl⟩, _⟩ := h; rfl
theorem out_k {o : Option Int} {v v' : Value} {b : Bool} {k : Int} (h : OutOk o v b) (h' : DueOk o v' k) : k = if b = true then 5 else 2 := by
  cases o with
  | some i =>
    obtain ⟨⟨t, rfl⟩, rfl⟩ := h
    obtain ⟨⟨t', rfl⟩, rfl⟩ := h'
    rfl
  | none =>
    obtain ⟨⟨t, rfl⟩, rfl⟩ := h
    obtain ⟨⟨t', rfl⟩, rfl⟩ := h'
    rfl
theorem ar1 {n n' : Int} (a : 0 ≤ n) (b : n + 1 + 1 ≤ n') : 0 ≤ n' := by omega
theorem ar2 {n n' : Int} {i : Nat} (a : n ≤ 20 * (i : Int)) (b : n' ≤ n + 1 + 1 + 7) : n' ≤ 20 * ((i + 1 : Nat) : Int) := by omega
theorem run_len (plan : List Int) (most : Int) : ∀ (f k : Nat) (depth : Int), (run plan most f k depth).1.length ≤ f := by
  intro f
  induction f with
  | zero => intro k d; exact Nat.le_refl _
  | succ f ih =>
    intro k d
    unfold run
    split
    · split
      · simp
      · simpa using ih _ _
    · simp
def CompPost2 (P : Int → Prop) (s : Shared) (h₀ : Heap) (L : Addr) (m : Str → Option Value) (d1 d2 : Addr × Obj) (r l : Addr) (n : Int) (c : Nat) (rest : List (Addr × Obj)) (v : Value) (s' : Shared) : Prop :=
  ∃ h' tk' p vs' ns n' tn' c', v = .ref p ∧ s' = { s with heap := h', toks := tk' } ∧ Fr h₀ L h' m ∧ News h₀ L h' ((p, listOf (List.toArray vs') c') :: d1 :: d2 :: (r, listOf #[.ref l, .int n' tn'] c) :: rest) ∧ IntsAre vs' ns ∧ ns.length ≤ 6 ∧ (∀ d ∈ ns, P d) ∧ n ≤ n' ∧ n' ≤ n + 7 ∧ LCg.Off1 p (d1 :: d2 :: (r, listOf #[.ref l, .int n' tn'] c) :: rest)
theorem compMid2 (P : Int → Prop) {M : Model} {A : Around} {x : Sem Value} {Q E : Value → Shared → Prop} {s : Shared} {h₀ : Heap} {L : Addr} {m : Str → Option Value} {d1 d2 : Addr × Obj} {r l : Addr} {n : Int} {tn : Tok} {c : Nat} {rest : List (Addr × Obj)} (F : Fr h₀ L s.heap m) (N : News h₀ L s.heap (d1 :: d2 :: (r, listOf #[.ref l, .int n tn] c) :: rest))
    (a : wpAny M A x (CompPost2 P s h₀ L m d1 d2 r l n c rest) E s)
    (b : ∀ h' tk' p vs' ns n' tn' c', Fr h₀ L h' m → News h₀ L h' ((p, listOf (List.toArray vs') c') :: d1 :: d2 :: (r, listOf #[.ref l, .int n' tn'] c) :: rest) → IntsAre vs' ns → ns.length ≤ 6 → (∀ d ∈ ns, P d) → n ≤ n' → n' ≤ n + 7 → LCg.Off1 p (d1 :: d2 :: (r, listOf #[.ref l, .int n' tn'] c) :: rest) → Q (.ref p) { s with heap := h', toks := tk' }) : wpAny M A x Q E s :=
  wpAny_mono a (fun v s' h => by obtain ⟨h', tk', p, vs', ns, n', tn', c', rfl, rfl, h1, h2, h3, h4, h5, h6, h7, h8⟩ := h; exact b _ _ _ _ _ _ _ _ h1 h2 h3 h4 h5 h6 h7 h8) (fun _ _ h => h)
theorem find_in {prog : Program} {w : World} {A : Around} {E : Value → Shared → Prop} {s : Shared} {b : Array UInt8} {t u : Tok} {ks : List Int} {Q : Value → Shared → Prop} (hk : KBw.bInts b = ks) (hz : (0 : Int) ∈ ks) (h : ∀ t' k, Q (.int (cz ks : Int) t') { s with toks := k }) : wpAny (model prog w) A (call (.builtin "bytes.find") [.bytes b t, .int 0 u]) Q E s :=
  find_call fun t' k => by rw [findZ_eq hk, if_pos hz]; exact h t' k
theorem any_nought {ks : List Int} : (ks.any (· == 0)) = decide ((0 : Int) ∈ ks) := by
  induction ks with
  | nil => rfl
  | cons k r ih =>
    rw [List.any_cons, ih]
    by_cases h : k = 0
    · subst h; simp
    · have : ¬ (0 = k) := fun z => h z.symm
      simp [h, this]
theorem in_yes {prog : Program} {w : World} {A : Around} {E : Value → Shared → Prop} {s : Shared} {l : Addr} {vs : List Value} {ns : List Int} {t : Tok} {Q : Value → Shared → Prop} (hl : s.heap.IsList l vs.toArray) (hi : IntsAre vs ns) (hz : (0 : Int) ∈ ns)
    (h : Q (.bool true) s) : wpAny (model prog w) A (compareOp .In (.int 0 t) (.ref l)) Q E s := in_list_ints hl hi (by rw [any_nought, decide_eq_true hz]; exact h)
theorem in_no {prog : Program} {w : World} {A : Around} {E : Value → Shared → Prop} {s : Shared} {l : Addr} {vs : List Value} {ns : List Int} {t : Tok} {Q : Value → Shared → Prop} (hl : s.heap.IsList l vs.toArray) (hi : IntsAre vs ns) (hz : ¬ (0 : Int) ∈ ns)
    (h : Q (.bool false) s) : wpAny (model prog w) A (compareOp .In (.int 0 t) (.ref l)) Q E s := in_list_ints hl hi (by rw [any_nought, decide_eq_false hz]; exact h)
def Six (k : Int) : Prop := k = 64 ∨ k = 61 ∨ k = 27 ∨ k = 0 ∨ k = 97 ∨ k = 98
theorem six_at {d : Int} (a : 0 ≤ d) (b : d < 6) : Six ([64, 61, 27, 0, 97, 98].getD d.toNat 0) := by
  have : d = 0 ∨ d = 1 ∨ d = 2 ∨ d = 3 ∨ d = 4 ∨ d = 5 := by omega
  unfold Six
  rcases this with rfl | rfl | rfl | rfl | rfl | rfl <;> decide
theorem shown_by {w : World} {pt : Program} {lo : List Str} {mean : ExcName → Option Value} {mg mb : Str → Option Value} {dp un : Nat} {gd : Option (List Code)} {cn : Str} {cs : Scope} {L a : Addr} {ccd : Value} {cl : List (Str × Addr)} {outer : List Env} {A₀ : Around} {base h₀ : Heap} {m : Str → Option Value} {s : Shared} {Q E : Value → Shared → Prop}
   {b r : Array UInt8} {t : Tok} {ks : List Int}
   (B : Below A₀ base outer h₀) (F : Fr h₀ L s.heap m) (X : (hd.heap_39 w.params).In h₀) (T : Top pt lo mean mg mb h₀) (hk : cs.kind = .function)
   (hb : KBw.bInts b = ks) (hl : ks.length ≤ 10) (hz : shownV (KBy.picked b none (some (cz ks : Int))) = r)
   (hd : dp + 60 < recursionLimit) (hu : un + 120 < cLine)
   (ret : ∀ t' h' tk', Fr h₀ L h' m → (∀ b o, s.heap.get? b = some o → h'.get? b = some o) → Q (.bytes r t') { s with heap := h', toks := tk' }) :
   wpAny (model PySem.Challenge.rw_rh0158_01.row.prog w) (aTop none dp un gd cn cs L a ccd cl outer) (call (.ref 125) [.bytes b t]) Q E s :=
  shown_spec B F X T hk hb hl hd hu fun t' h' tk' F' K' => by rw [hz]; exact ret t' h' tk' F' K'
theorem q27 {d : Array UInt8} {c : Bool} (q : (d.toList == #[27].toList) = c) : (d.toList == #[(Int.toNat 27).toUInt8].toList) = c := q
theorem sh1 {d : Array UInt8} (q : ((KBy.picked d none (some 1)).toList == #[64].toList) = true) : shownV d = KBy.picked d (some 1) none := by unfold shownV; rw [if_pos q]
theorem sh2 {d : Array UInt8} (p : ((KBy.picked d none (some 1)).toList == #[64].toList) = false) (q : ((KBy.picked d none (some 1)).toList == #[61].toList) = true) : shownV d = KBy.picked d (some 1) none := by unfold shownV; rw [if_neg (by rw [p]; decide), if_pos q]
theorem sh3 {d : Array UInt8} (p : ((KBy.picked d none (some 1)).toList == #[64].toList) = false) (o : ((KBy.picked d none (some 1)).toList == #[61].toList) = false) (q : ((KBy.picked d none (some 1)).toList == #[27].toList) = true) : shownV d = #[98, 105, 110, 97, 114, 121, 32, 115, 116, 114, 105, 110, 103] := by unfold shownV; rw [if_neg (by rw [p]; decide), if_neg (by rw [o]; decide), if_pos q]; rfl
theorem sh4 {d : Array UInt8} (p : ((KBy.picked d none (some 1)).toList == #[64].toList) = false) (o : ((KBy.picked d none (some 1)).toList == #[61].toList) = false) (q : ((KBy.picked d none (some 1)).toList == #[27].toList) = false) : shownV d = d := by unfold shownV; rw [if_neg (by rw [p]; decide), if_neg (by rw [o]; decide), if_neg (by rw [q]; decide)]
def DuePost (s : Shared) (h₀ : Heap) (L : Addr) (m : Str → Option Value) (news : List (Addr × Obj)) (d : Array UInt8) (v : Value) (s' : Shared) : Prop :=
  ∃ h' tk' t', v = .bytes d t' ∧ s' = { s with heap := h', toks := tk' } ∧ Fr h₀ L h' m ∧ News h₀ L h' news
theorem dueMid {M : Model} {A : Around} {x : Sem Value} {Q E : Value → Shared → Prop} {s : Shared} {h₀ : Heap} {L : Addr} {m : Str → Option Value} {news : List (Addr × Obj)} {d : Array UInt8} (_ : Fr h₀ L s.heap m) (_ : News h₀ L s.heap news)
    (a : wpAny M A x (DuePost s h₀ L m news d) E s)
    (b : ∀ h' tk' t', Fr h₀ L h' m → News h₀ L h' news → Q (.bytes d t') { s with heap := h', toks := tk' }) : wpAny M A x Q E s :=
  wpAny_mono a (fun v s' h => by obtain ⟨h', tk', t', rfl, rfl, h1, h2⟩ := h; exact b _ _ _ h1 h2) (fun _ _ h => h)
local macro_rules | `(tactic| walk_at "call ref") => `(tactic| (k_here; (with_reducible show wpAny _ _ (call (Value.ref 132) _) _ _ _); refine stop ?_))
local macro_rules | `(tactic| walk_at "call ref") => `(tactic| (k_here; (with_reducible show wpAny _ _ (call (Value.ref 139) _) _ _ _); refine stop ?_))
local macro_rules | `(tactic| walk_at "call ref") => `(tactic| (k_here; (with_reducible show wpAny _ _ (call (Value.ref 104) _) _ _ _); refine stop ?_))
local macro_rules | `(tactic| walk_at "call ref") => `(tactic| (k_here; (with_reducible show wpAny _ _ (call (Value.ref 153) _) _ _ _); refine stop ?_))
local macro_rules | `(tactic| walk_at "eval ListComp") => `(tactic| (refine stop ?_))
local macro_rules | `(tactic| walk_at "CompSrc") => `(tactic| (refine stop ?_))
local macro_rules | `(tactic| walk_at "RangeRest") => `(tactic| (refine stop ?_))
local macro_rules | `(tactic| walk_at "call ref") => `(tactic| (k_here; (with_reducible show wpAny _ _ (call (Value.ref 90) _) _ _ _); refine stop ?_))
local macro_rules | `(tactic| walk_at "call ref") => `(tactic| (k_here; (with_reducible show wpAny _ _ (call (Value.ref 111) _) _ _ _); refine stop ?_))
local macro_rules | `(tactic| k_mem) => `(tactic| (refine' memOf ?_; assumption))
local macro_rules | `(tactic| k_all) => `(tactic| assumption)
local macro_rules | `(tactic| walk_at "getAttr ref") => `(tactic| walk_at "mine2")
local macro_rules | `(tactic| walk_at "UnrEnd") => `(tactic| (refine stop ?_))
local macro_rules | `(tactic| walk_at "call builtin:len") => `(tactic| walk_at "mine1")
local macro_rules | `(tactic| walk_at "getMethod bytes") => `(tactic| (k_here; (with_reducible refine find_method ?_)))
local macro_rules | `(tactic| walk_at "call builtin:bytes.find") => `(tactic| (k_here; (refine find_in (by kba_ints) (by assumption) ?_); intro _ _))
local macro_rules | `(tactic| walk_at "call type:list") => `(tactic| (k_here; (with_reducible show wpAny _ _ (call (Value.type _) [Value.bytes _ _]) _ _ _); refine stop ?_))
local macro_rules | `(tactic| walk_at "compareOp In int ref") => `(tactic| (k_here; refine stop ?_))
local macro_rules | `(tactic| walk_at "eval IfExp") => `(tactic| ((rename Stop True => mk0); clear mk0; refine stop ?_))
local macro_rules | `(tactic| walk_at "call ref") => `(tactic| (k_here; (with_reducible show wpAny _ _ (call (Value.ref 125) _) _ _ _); refine stop ?_))
local macro_rules | `(tactic| walk_at "compareOp Eq bytes bytes") => `(tactic| (k_here; k_dflt (refine' eqb_by (by with_reducible first | assumption | exact beq_self_eq_true _) ?_)))
set_option maxHeartbeats 40000000 in
theorem main : PySem.Challenge.rw_rh0158_01.Holds := hd (by
  w_top off
  k_go0
  all_goals (try k_fold)
  all_goals k_steps
  unfold Stop
  rename News _ _ _ _ => NE
  rename Obj.data _ = Data.cell _ => dcell
  k_dflt (refine' lawLoop NE ?y1 ?y2 ?y3 ?y4 ?xturn ?xfin)
  case y1 => exact (by k_ne)
  case y2 => exact (by k_ne)
  case y3 => exact (by k_ne)
  case y4 => exact (by k_ne)
  case xfin =>
    clear NE
    intro m n tn e oe ps h tk a1 a2 a3 a4 a5 F N
    dsimp only
    k_steps
    unfold Stop
    rename Fr _ _ _ _ => FE
    rename News _ _ _ _ => NE
    have NP : News _ _ _ (_ :: _ :: _ :: [_, _]) := List.forall_mem_cons.mpr ⟨NE _ (mAt 1 rfl), List.forall_mem_cons.mpr ⟨NE _ (mAt 2 rfl), List.forall_mem_cons.mpr ⟨NE _ (mAt 0 rfl), List.forall_mem_cons.mpr ⟨NE _ (mAt 3 rfl), List.forall_mem_cons.mpr ⟨NE _ (mAt 4 rfl), fun _ h => nomatch h⟩⟩⟩⟩⟩
    clear NE
    refine compMid2 Six FE NP ?cmA ?cmB
    case cmB =>
      intro h' tk' p' vs' ns' n' tn' c' F' N' i1' i2' i3' i4' i5' o1'
      simp only [LCg.Off1, and_true] at o1'
      clear FE NP
      have hin : KBa.In ns' := fun k hk => by
        have := i3' k hk
        unfold Six at this
        omega
      have mk9 : Stop True := trivial
      k_steps
      unfold Stop
      rename Fr _ _ _ _ => FE
      rename News _ _ _ _ => NE
      have hbi := KBa.ints_make hin
      refine dueMid (d := KBy.picked (byteArr ns') none (some (cz ns' : Int))) FE NE ?dA ?dB
      case dA =>
        k_steps
        unfold Stop
        k_dflt (refine' list_bytes ?h ?F ?N ?hk ?hn ?_; (case h => rfl); (case F => k_asm); (case N => k_asm); (case hk => kba_ints); (case hn => omega))
        intro D₉ vs₉ c₉ h₉ tk₉ iD₉ lt₉ F₉ N₉
        k_steps
        unfold Stop
        by_cases hz : (0 : Int) ∈ ns'
        · k_dflt (refine' in_yes ?hl ?hi ?hz ?_; (case hl => exact News.isList (by k_asm) (by k_mem)); (case hi => assumption); (case hz => assumption))
          k_steps
          rename Fr _ _ _ _ => F₂
          rename News _ _ _ _ => N₂
          exact ⟨_, _, _, rfl, rfl, F₂, fun p hp => N₂ p (.tail _ hp)⟩
        · have hdd := picked_all hbi hz
          k_dflt (refine' in_no ?hl ?hi ?hz ?_; (case hl => exact News.isList (by k_asm) (by k_mem)); (case hi => assumption); (case hz => assumption))
          k_steps
          rename Fr _ _ _ _ => F₂
          rename News _ _ _ _ => N₂
          exact ⟨_, _, _, congrArg (fun z => Value.bytes z _) hdd.symm, rfl, F₂, fun p hp => N₂ p (.tail _ hp)⟩
      case dB =>
        intro h₂ tk₂ t₂ F₂ N₂
        clear FE NE
        obtain ⟨es, hes, hel⟩ := picked_some hbi
        generalize hdd : KBy.picked (byteArr ns') none (some ↑(cz ns')) = d at *
        rcases heads (KBy.picked d none (some 1)) with ⟨q1, q2, q3⟩ | ⟨q1, q2, q3⟩ | ⟨q1, q2, q3⟩ | ⟨q1, q2, q3⟩
        · have hs9 := (congrArg shownV hdd).trans (sh1 q1)
          clear hdd
          k_steps
          unfold Stop
          k_dflt (refine' shown_by ?B ?F ?X ?T ?kk9 ?hb ?hl ?hz ?hd ?hu ?_; (case B => k_asm); (case F => k_asm); (case X => k_asm); (case T => k_asm); (case kk9 => rfl); (case hb => kba_ints); (case hl => omega); (case hz => with_reducible assumption); (case hd => ktr_room); (case hu => ktr_units); (rename News _ _ _ _ => lN₉); (rename Fr _ _ _ _ => lF₉); intro t₉ h₉ tk₉ F₉ K₉; (have N₉ := newsKeep lN₉ K₉); clear lN₉ lF₉ K₉; (try dsimp only at N₉))
          k_steps
        · have hs9 := (congrArg shownV hdd).trans (sh2 q1 q2)
          clear hdd
          k_steps
          unfold Stop
          k_dflt (refine' shown_by ?B ?F ?X ?T ?kk9 ?hb ?hl ?hz ?hd ?hu ?_; (case B => k_asm); (case F => k_asm); (case X => k_asm); (case T => k_asm); (case kk9 => rfl); (case hb => kba_ints); (case hl => omega); (case hz => with_reducible assumption); (case hd => ktr_room); (case hu => ktr_units); (rename News _ _ _ _ => lN₉); (rename Fr _ _ _ _ => lF₉); intro t₉ h₉ tk₉ F₉ K₉; (have N₉ := newsKeep lN₉ K₉); clear lN₉ lF₉ K₉; (try dsimp only at N₉))
          k_steps
        · have hs9 := (congrArg shownV hdd).trans (sh3 q1 q2 q3)
          have q4 := q27 q3
          clear hdd
          k_steps
          unfold Stop
          k_dflt (refine' shown_by ?B ?F ?X ?T ?kk9 ?hb ?hl ?hz ?hd ?hu ?_; (case B => k_asm); (case F => k_asm); (case X => k_asm); (case T => k_asm); (case kk9 => rfl); (case hb => kba_ints); (case hl => omega); (case hz => with_reducible assumption); (case hd => ktr_room); (case hu => ktr_units); (rename News _ _ _ _ => lN₉); (rename Fr _ _ _ _ => lF₉); intro t₉ h₉ tk₉ F₉ K₉; (have N₉ := newsKeep lN₉ K₉); clear lN₉ lF₉ K₉; (try dsimp only at N₉))
          k_steps
        · have hs9 := (congrArg shownV hdd).trans (sh4 q1 q2 q3)
          have q4 := q27 q3
          clear hdd
          k_steps
          unfold Stop
          k_dflt (refine' shown_by ?B ?F ?X ?T ?kk9 ?hb ?hl ?hz ?hd ?hu ?_; (case B => k_asm); (case F => k_asm); (case X => k_asm); (case T => k_asm); (case kk9 => rfl); (case hb => kba_ints); (case hl => omega); (case hz => with_reducible assumption); (case hd => ktr_room); (case hu => ktr_units); (rename News _ _ _ _ => lN₉); (rename Fr _ _ _ _ => lF₉); intro t₉ h₉ tk₉ F₉ K₉; (have N₉ := newsKeep lN₉ K₉); clear lN₉ lF₉ K₉; (try dsimp only at N₉))
          k_steps
    case cmA =>
      k_fold
      k_dflt (refine LCg.ListComp_U (F₀ := by k_asm) (by with_unfolding_all rfl) (by decide) (by rfl) (by decide) (by rfl) ?_)
      k_steps
      unfold Stop
      k_dflt (refine' next_spec ?B ?F ?X ?T ?kk9 ?hr ?hrL ?hr0 ?hl ?hrl ?hi ?hlen ?hn ?hn2 ?hm ?hm2 ?hd ?hu ?_; (case B => k_asm); (case F => k_asm); (case X => k_asm); (case T => k_asm); (case kk9 => rfl); (case hr => exact (lk (by k_asm) (by k_mem)).1); (case hrL => exact (lk (by k_asm) (by k_mem)).2.1); (case hr0 => exact (lk (by k_asm) (by k_mem)).2.2); (case hl => exact News.isList (by k_asm) (by k_mem)); (case hrl => k_ne); (case hi => k_asm); (case hlen => exact List.length_take_le _ _); (case hn => omega); (case hn2 => omega); (case hm => omega); (case hm2 => omega); (case hd => ktr_room); (case hu => ktr_units); (rename News _ _ _ _ => lN₉); (rename Fr _ _ _ _ => lF₉); intro d₉ t₉ tn₉ h₉ tk₉ b1₉ b2₉ F₉ K₉ e₉; (have N₉ := newsTurn lN₉ K₉ e₉ (by k_upd)); clear lN₉ lF₉ K₉ e₉)
      k_steps
      unfold Stop
      rename Fr _ _ _ _ => FE
      rename News _ _ _ _ => NE
      rename _ < (6 : Int) => c2
      rename (0 : Int) ≤ _ => c1
      k_dflt (refine' compIter Six (by rfl) FE NE ?xr c1 (Int.lt_trans c2 (by decide)) ?vturn ?vfin)
      case xr => k_dflt assumption
      case vturn =>
        intro g' k' t' I' oI' C' oC' D' m' ys' n' tn' h' tk' E' b1' b2' hC' hx' F' N' off' ne'
        simp only [LCg.Off3, and_true] at off'
        clear NE FE
        k_steps
        unfold Stop
        k_dflt (refine' next_spec ?B ?F ?X ?T ?kk9 ?hr ?hrL ?hr0 ?hl ?hrl ?hi ?hlen ?hn ?hn2 ?hm ?hm2 ?hd ?hu ?_; (case B => k_asm); (case F => k_asm); (case X => k_asm); (case T => k_asm); (case kk9 => rfl); (case hr => exact (lk (by k_asm) (by k_mem)).1); (case hrL => exact (lk (by k_asm) (by k_mem)).2.1); (case hr0 => exact (lk (by k_asm) (by k_mem)).2.2); (case hl => exact News.isList (by k_asm) (by k_mem)); (case hrl => k_ne); (case hi => k_asm); (case hlen => exact List.length_take_le _ _); (case hn => omega); (case hn2 => omega); (case hm => omega); (case hm2 => omega); (case hd => ktr_room); (case hu => ktr_units); (rename News _ _ _ _ => lN₉); (rename Fr _ _ _ _ => lF₉); intro d₉ t₉ tn₉ h₉ tk₉ b1₉ b2₉ F₉ K₉ e₉; (have N₉ := newsTurn lN₉ K₉ e₉ (by k_upd)); clear lN₉ lF₉ K₉ e₉)
        k_steps
        rename Fr _ _ _ _ => FE
        rename News _ _ _ _ => NE
        rename _ < (6 : Int) => e2
        rename (0 : Int) ≤ _ => e1
        exact ⟨_, _, _, _, _, rfl, six_at e1 e2, rfl, FE, fun p hp => NE p (.tail _ hp)⟩
      case vfin =>
        intro g' ys' ns' n' tn' i1 i2 i3 i4 i5
        unfold LCg.FinE
        intro D' h' tk' F' N' o1'
        exact ⟨h', tk', D', ys', ns', n', tn', _, rfl, rfl, F', N', i1, i2, i3, by omega, by omega, o1'⟩
  case xturn =>
    clear NE
    intro i m n tn e oe tab t h tk a0 a1 a2 a3 a4 a5 a6 a7 F N
    k_steps
    unfold Stop
    k_dflt (refine' next_spec ?B ?F ?X ?T ?kk9 ?hr ?hrL ?hr0 ?hl ?hrl ?hi ?hlen ?hn ?hn2 ?hm ?hm2 ?hd ?hu ?_; (case B => k_asm); (case F => k_asm); (case X => k_asm); (case T => k_asm); (case kk9 => rfl); (case hr => exact (lk (by k_asm) (by k_mem)).1); (case hrL => exact (lk (by k_asm) (by k_mem)).2.1); (case hr0 => exact (lk (by k_asm) (by k_mem)).2.2); (case hl => exact News.isList (by k_asm) (by k_mem)); (case hrl => k_ne); (case hi => k_asm); (case hlen => exact List.length_take_le _ _); (case hn => omega); (case hn2 => omega); (case hm => omega); (case hm2 => omega); (case hd => ktr_room); (case hu => ktr_units); (rename News _ _ _ _ => lN₉); (rename Fr _ _ _ _ => lF₉); intro d₉ t₉ tn₉ h₉ tk₉ b1₉ b2₉ F₉ K₉ e₉; (have N₉ := newsTurn lN₉ K₉ e₉ (by k_upd)); clear lN₉ lF₉ K₉ e₉)
    k_steps
    unfold Stop
    k_dflt (refine' next_spec ?B ?F ?X ?T ?kk9 ?hr ?hrL ?hr0 ?hl ?hrl ?hi ?hlen ?hn ?hn2 ?hm ?hm2 ?hd ?hu ?_; (case B => k_asm); (case F => k_asm); (case X => k_asm); (case T => k_asm); (case kk9 => rfl); (case hr => exact (lk (by k_asm) (by k_mem)).1); (case hrL => exact (lk (by k_asm) (by k_mem)).2.1); (case hr0 => exact (lk (by k_asm) (by k_mem)).2.2); (case hl => exact News.isList (by k_asm) (by k_mem)); (case hrl => k_ne); (case hi => k_asm); (case hlen => exact List.length_take_le _ _); (case hn => omega); (case hn2 => omega); (case hm => omega); (case hm2 => omega); (case hd => ktr_room); (case hu => ktr_units); (rename News _ _ _ _ => lN₉); (rename Fr _ _ _ _ => lF₉); intro d₉ t₉ tn₉ h₉ tk₉ b1₉ b2₉ F₉ K₉ e₉; (have N₉ := newsTurn lN₉ K₉ e₉ (by k_upd)); clear lN₉ lF₉ K₉ e₉)
    k_steps
    unfold Stop
    rename Fr _ _ _ _ => FE
    rename News _ _ _ _ => NE
    refine compMid FE NE ?cmA ?cmB
    case cmA =>
      k_fold
      k_dflt (refine LCg.ListComp_U (F₀ := by k_asm) (by with_unfolding_all rfl) (by decide) (by rfl) (by decide) (by rfl) ?_)
      k_steps
      unfold Stop
      k_dflt (refine' next_spec ?B ?F ?X ?T ?kk9 ?hr ?hrL ?hr0 ?hl ?hrl ?hi ?hlen ?hn ?hn2 ?hm ?hm2 ?hd ?hu ?_; (case B => k_asm); (case F => k_asm); (case X => k_asm); (case T => k_asm); (case kk9 => rfl); (case hr => exact (lk (by k_asm) (by k_mem)).1); (case hrL => exact (lk (by k_asm) (by k_mem)).2.1); (case hr0 => exact (lk (by k_asm) (by k_mem)).2.2); (case hl => exact News.isList (by k_asm) (by k_mem)); (case hrl => k_ne); (case hi => k_asm); (case hlen => exact List.length_take_le _ _); (case hn => omega); (case hn2 => omega); (case hm => omega); (case hm2 => omega); (case hd => ktr_room); (case hu => ktr_units); (rename News _ _ _ _ => lN₉); (rename Fr _ _ _ _ => lF₉); intro d₉ t₉ tn₉ h₉ tk₉ b1₉ b2₉ F₉ K₉ e₉; (have N₉ := newsTurn lN₉ K₉ e₉ (by k_upd)); clear lN₉ lF₉ K₉ e₉)
      k_steps
      unfold Stop
      rename Fr _ _ _ _ => FE
      rename News _ _ _ _ => NE
      rename _ < (7 : Int) => c2
      rename (0 : Int) ≤ _ => c1
      k_dflt (refine' compIter (fun i => 0 ≤ i ∧ i ≤ 10) (by rfl) FE NE ?xr c1 c2 ?uturn ?ufin)
      case xr => k_dflt assumption
      case uturn =>
        intro g' k' t' I' oI' C' oC' D' m' ys' n' tn' h' tk' E' b1' b2' hC' hx' F' N' off' ne'
        simp only [LCg.Off3, and_true] at off'
        clear NE FE
        k_steps
        unfold Stop
        k_dflt (refine' next_spec ?B ?F ?X ?T ?kk9 ?hr ?hrL ?hr0 ?hl ?hrl ?hi ?hlen ?hn ?hn2 ?hm ?hm2 ?hd ?hu ?_; (case B => k_asm); (case F => k_asm); (case X => k_asm); (case T => k_asm); (case kk9 => rfl); (case hr => exact (lk (by k_asm) (by k_mem)).1); (case hrL => exact (lk (by k_asm) (by k_mem)).2.1); (case hr0 => exact (lk (by k_asm) (by k_mem)).2.2); (case hl => exact News.isList (by k_asm) (by k_mem)); (case hrl => k_ne); (case hi => k_asm); (case hlen => exact List.length_take_le _ _); (case hn => omega); (case hn2 => omega); (case hm => omega); (case hm2 => omega); (case hd => ktr_room); (case hu => ktr_units); (rename News _ _ _ _ => lN₉); (rename Fr _ _ _ _ => lF₉); intro d₉ t₉ tn₉ h₉ tk₉ b1₉ b2₉ F₉ K₉ e₉; (have N₉ := newsTurn lN₉ K₉ e₉ (by k_upd)); clear lN₉ lF₉ K₉ e₉)
        k_steps
        dsimp only
        rename Fr _ _ _ _ => FE
        rename News _ _ _ _ => NE
        rename _ < (6 : Int) => e2
        rename (0 : Int) ≤ _ => e1
        exact ⟨_, _, _, _, _, rfl, ⟨e1, by omega⟩, rfl, FE, NE⟩
      case ufin =>
        intro g' ys' ns' n' tn' i1 i2 i3 i4 i5
        unfold LCg.FinE
        intro D' h' tk' F' N' o1'
        exact ⟨h', tk', D', ys', ns', n', tn', _, rfl, rfl, F', N', i1, i2, i3, by omega, by omega, o1'⟩
    case cmB =>
    intro h' tk' p' vs' ns' n' tn' c' F' N' i1' i2' i3' i4' i5' o1'
    simp only [LCg.Off1, and_true] at o1'
    clear FE NE
    k_steps
    unfold Stop
    k_dflt (refine' answers_spec (vs := vs') (plan := ns') (cp := c') (tab := tab) (e := e) (oe := oe) ?zB ?zF ?zX ?zT ?zk ?zC ?zt a1 ?ze ?z0 ?zL i1' ?zp i3' ?zh ?zu ?zr)
    case zB => k_dflt k_asm
    case zF => k_dflt k_asm
    case zX => k_dflt k_asm
    case zT => k_dflt k_asm
    case zk => rfl
    case zC => k_dflt assumption
    case zt => k_dflt (exact (lk (by k_asm) (by k_mem)).1)
    case ze => k_dflt (exact (lk (by k_asm) (by k_mem)).1)
    case z0 => k_dflt (exact (lk (b := 134) (by k_asm) (by k_mem)).2.2)
    case zL => k_dflt (exact (lk (b := 134) (by k_asm) (by k_mem)).2.1)
    case zp => omega
    case zh => k_dflt ktr_room
    case zu => k_dflt ktr_units
    case zr =>
      intro fa fo cA oA c1' o1' c2' o2' h' tk' an fn co e1 e2 e3 e4 f1 f2 f3 f4 F' K' t'
      rename News _ _ _ _ => NE
      have NT := newsTurn NE K' t' (by k_dflt k_upd)
      revert F'
      rename Fr _ _ _ _ => FO
      intro F'
      have N5 := newsAdd (newsAddOr NE (newsAdd (newsAdd NT FO f4 e4) FO f3 e3) FO (f2.imp id (fun z => by obtain ⟨rfl, rfl⟩ := z; k_dflt k_mem)) e2) FO f1 e1
      have hexA := fun p hp => (NE p hp).1
      have cne := neOr NE (f2.imp id And.left)
      clear NE NT FO
      k_steps
      unfold Stop
      rename News _ _ _ _ => NE
      rename Fr _ _ _ _ => FE
      have m1 := fun p hp => (hexNe hexA f1) p hp
      have m3 := fun p hp => (hexNe hexA f3) p hp
      have m4 := fun p hp => (hexNe hexA f4) p hp
      k_dflt (refine' gw_spec (objs := [(fa, fo), (cA, oA), (c1', o1'), (c2', o2'), (p', listOf vs'.toArray c')]) (tail := [(fa, fo), (cA, oA), (c1', o1'), (c2', o2'), (p', listOf vs'.toArray c')]) (plan := ns') (fo := fo) ?zB ?zF ?zX ?zT ?zk ?zN an ?zf fn ?zs ?z1 ?z2 ?z3 ?z4 ?z5 ?z6 ?z7 ?z8 ?z9 ?z10 i3' ?c0 ?c3 ?cm ?zd ?zu ?ret)
      case zB => k_dflt k_asm
      case zF => k_dflt k_asm
      case zX => k_dflt k_asm
      case zT => k_dflt k_asm
      case zk => rfl
      case zN => exact List.forall_mem_cons.mpr ⟨NE _ (mAt 9 rfl), List.forall_mem_cons.mpr ⟨NE _ (mAt 10 rfl), List.forall_mem_cons.mpr ⟨NE _ (mAt 13 rfl), List.forall_mem_cons.mpr ⟨NE _ (mAt 0 rfl), List.forall_mem_cons.mpr ⟨NE _ (mAt 1 rfl), List.forall_mem_cons.mpr ⟨NE _ (mAt 2 rfl), List.forall_mem_cons.mpr ⟨NE _ (mAt 3 rfl), List.forall_mem_cons.mpr ⟨NE _ (mAt 4 rfl), List.forall_mem_cons.mpr ⟨NE _ (mAt 14 rfl), fun _ h => nomatch h⟩⟩⟩⟩⟩⟩⟩⟩⟩
      case zf => exact .head _
      case zs => exact fun _ h => h
      case c0 => assumption
      case c3 => omega
      case cm => omega
      case zd => k_dflt ktr_room
      case zu => k_dflt ktr_units
      case z1 => exact List.forall_mem_cons.mpr ⟨Ne.symm (m1 _ (mAt 4 rfl)), List.forall_mem_cons.mpr ⟨Ne.symm (cne _ (mAt 4 rfl) (by k_ne)), List.forall_mem_cons.mpr ⟨Ne.symm (m3 _ (mAt 4 rfl)), List.forall_mem_cons.mpr ⟨Ne.symm (m4 _ (mAt 4 rfl)), List.forall_mem_cons.mpr ⟨(by k_ne), fun _ h => nomatch h⟩⟩⟩⟩⟩
      case z2 => exact List.forall_mem_cons.mpr ⟨Ne.symm (m1 _ (mAt 5 rfl)), List.forall_mem_cons.mpr ⟨Ne.symm (cne _ (mAt 5 rfl) (by k_ne)), List.forall_mem_cons.mpr ⟨Ne.symm (m3 _ (mAt 5 rfl)), List.forall_mem_cons.mpr ⟨Ne.symm (m4 _ (mAt 5 rfl)), List.forall_mem_cons.mpr ⟨(by k_ne), fun _ h => nomatch h⟩⟩⟩⟩⟩
      case z3 => exact List.forall_mem_cons.mpr ⟨Ne.symm (m1 _ (mAt 8 rfl)), List.forall_mem_cons.mpr ⟨Ne.symm (cne _ (mAt 8 rfl) (by k_ne)), List.forall_mem_cons.mpr ⟨Ne.symm (m3 _ (mAt 8 rfl)), List.forall_mem_cons.mpr ⟨Ne.symm (m4 _ (mAt 8 rfl)), List.forall_mem_cons.mpr ⟨(by k_ne), fun _ h => nomatch h⟩⟩⟩⟩⟩
      case z4 => exact List.forall_mem_cons.mpr ⟨(by k_ne), List.forall_mem_cons.mpr ⟨(by k_ne), List.forall_mem_cons.mpr ⟨(by k_ne), List.forall_mem_cons.mpr ⟨(by k_ne), List.forall_mem_cons.mpr ⟨(by k_ne), fun _ h => nomatch h⟩⟩⟩⟩⟩
      case z5 => exact (by k_ne)
      case z6 => exact (by k_ne)
      case z7 => exact (by k_ne)
      case z8 => exact (by k_ne)
      case z9 => exact (by k_ne)
      case z10 => exact (by k_ne)
      case ret =>
        intro e₂ dx₂ sl₂ fs₂ items c₂ cc₂ tcc₂ thn₂ tail₂ v₂ b₂ y1 y2 y3 u1 u2 u3 r₂ h₄ tk₄ fe₂ fd₂ b4 w1 w2 F₄ K₄ t1' t2' t3' rep eq1 ehx ee ed ok
        rw [← rep.length] at ehx
        have rl := rep.length
        have cI := cne _ (mAt 11 rfl) (Ne.symm a7)
        have cr := cne _ (mAt 12 rfl) (Ne.symm a4)
        have cc := cne _ (mAt 14 rfl) (Ne.symm a6)
        have c13 := cne _ (mAt 15 rfl) (Ne.symm a5)
        have chx := cne _ (mAt 5 rfl) (by k_ne)
        have cq := cne _ (mAt 8 rfl) (by k_ne)
        have g9_10 := neM NE (mAt 9 rfl) (mAt 10 rfl) (by k_ne)
        have g7_10 := neM NE (mAt 7 rfl) (mAt 10 rfl) (by k_ne)
        have g6_10 := neM NE (mAt 6 rfl) (mAt 10 rfl) (by k_ne)
        have g14_10 := neM NE (mAt 14 rfl) (mAt 10 rfl) (by k_ne)
        have g16_10 := neM NE (mAt 16 rfl) (mAt 10 rfl) (by k_ne)
        have g17_10 := neM NE (mAt 17 rfl) (mAt 10 rfl) (by k_ne)
        have g18_10 := neM NE (mAt 18 rfl) (mAt 10 rfl) (by k_ne)
        have g19_10 := neM NE (mAt 19 rfl) (mAt 10 rfl) (by k_ne)
        have g20_10 := neM NE (mAt 20 rfl) (mAt 10 rfl) (by k_ne)
        have g9_13 := neM NE (mAt 9 rfl) (mAt 13 rfl) (by k_ne)
        have g7_13 := neM NE (mAt 7 rfl) (mAt 13 rfl) (by k_ne)
        have g6_13 := neM NE (mAt 6 rfl) (mAt 13 rfl) (by k_ne)
        have g14_13 := neM NE (mAt 14 rfl) (mAt 13 rfl) (by k_ne)
        have g16_13 := neM NE (mAt 16 rfl) (mAt 13 rfl) (by k_ne)
        have g17_13 := neM NE (mAt 17 rfl) (mAt 13 rfl) (by k_ne)
        have g18_13 := neM NE (mAt 18 rfl) (mAt 13 rfl) (by k_ne)
        have g19_13 := neM NE (mAt 19 rfl) (mAt 13 rfl) (by k_ne)
        have g20_13 := neM NE (mAt 20 rfl) (mAt 13 rfl) (by k_ne)
        have g17_16 := neM NE (mAt 17 rfl) (mAt 16 rfl) (by k_ne)
        have g18_16 := neM NE (mAt 18 rfl) (mAt 16 rfl) (by k_ne)
        have g19_16 := neM NE (mAt 19 rfl) (mAt 16 rfl) (by k_ne)
        have g20_16 := neM NE (mAt 20 rfl) (mAt 16 rfl) (by k_ne)
        repeat (rename (_ : Nat) < _ ∧ _ => zz; clear zz)
        have NB := newsGw (keepL := [_, _, _, _, _, _, _, _, _, _]) NE FE K₄ (mAt 10 rfl) (mAt 13 rfl) ehx eq1
          (List.forall_mem_cons.mpr ⟨mAt 9 rfl, List.forall_mem_cons.mpr ⟨mAt 7 rfl, List.forall_mem_cons.mpr ⟨mAt 6 rfl, List.forall_mem_cons.mpr ⟨mAt 14 rfl, List.forall_mem_cons.mpr ⟨mAt 16 rfl, List.forall_mem_cons.mpr ⟨mAt 17 rfl, List.forall_mem_cons.mpr ⟨mAt 18 rfl, List.forall_mem_cons.mpr ⟨mAt 19 rfl, List.forall_mem_cons.mpr ⟨mAt 20 rfl, List.forall_mem_cons.mpr ⟨mAt 2 rfl, fun _ h => nomatch h⟩⟩⟩⟩⟩⟩⟩⟩⟩⟩)
          ?k1 ?k2 ?k3 t1' t3'
        case k1 => exact List.forall_mem_cons.mpr ⟨g9_10, List.forall_mem_cons.mpr ⟨g7_10, List.forall_mem_cons.mpr ⟨g6_10, List.forall_mem_cons.mpr ⟨g14_10, List.forall_mem_cons.mpr ⟨g16_10, List.forall_mem_cons.mpr ⟨g17_10, List.forall_mem_cons.mpr ⟨g18_10, List.forall_mem_cons.mpr ⟨g19_10, List.forall_mem_cons.mpr ⟨g20_10, List.forall_mem_cons.mpr ⟨chx.symm, fun _ h => nomatch h⟩⟩⟩⟩⟩⟩⟩⟩⟩⟩
        case k2 => exact List.forall_mem_cons.mpr ⟨g9_13, List.forall_mem_cons.mpr ⟨g7_13, List.forall_mem_cons.mpr ⟨g6_13, List.forall_mem_cons.mpr ⟨g14_13, List.forall_mem_cons.mpr ⟨g16_13, List.forall_mem_cons.mpr ⟨g17_13, List.forall_mem_cons.mpr ⟨g18_13, List.forall_mem_cons.mpr ⟨g19_13, List.forall_mem_cons.mpr ⟨g20_13, List.forall_mem_cons.mpr ⟨cq.symm, fun _ h => nomatch h⟩⟩⟩⟩⟩⟩⟩⟩⟩⟩
        case k3 => exact List.forall_mem_cons.mpr ⟨mAt 1 rfl, List.forall_mem_cons.mpr ⟨mAt 2 rfl, List.forall_mem_cons.mpr ⟨mAt 3 rfl, List.forall_mem_cons.mpr ⟨mAt 4 rfl, List.forall_mem_cons.mpr ⟨mAt 14 rfl, fun _ h => nomatch h⟩⟩⟩⟩⟩
        have N6 := newsAdd (newsAdd NB FE fd₂ ed) FE fe₂ ee
        simp only [List.cons_append, List.nil_append] at N6
        have hv2 := outHanded ok
        k_steps
        unfold Stop
        rename News _ _ _ _ => N7
        rename Fr _ _ _ _ => F7
        k_dflt (refine' status_spec (v := v₂) (r := r₂) (b := b₂) (e := e₂) (dx := dx₂) ?zB ?zF ?zX ?zT ?zk ?zN ?zd ?zu ?zr)
        case zB => k_dflt k_asm
        case zF => k_dflt k_asm
        case zX => k_dflt k_asm
        case zT => k_dflt k_asm
        case zk => rfl
        case zN => exact List.forall_mem_cons.mpr ⟨N7 _ (mAt 0 rfl), List.forall_mem_cons.mpr ⟨N7 _ (mAt 1 rfl), fun _ h => nomatch h⟩⟩
        case zd => k_dflt ktr_room
        case zu => k_dflt ktr_units
        case zr =>
          intro kS tS h₅ tk₅ eS F₅ K₅
          have N8 := newsKeep N7 K₅
          clear N7 F7
          k_steps
          unfold Stop
          rename News _ _ _ _ => N8
          rename Fr _ _ _ _ => F8
          have hvl := i1'.length
          k_dflt (refine' due_spec (p := p') (vs := vs') (plan := ns') (cp := c') ?zB ?zF ?zX ?zT ?zk ?zN i1' ?zp i3' ?c0 ?c3 ?cm ?zd ?zu ?zr)
          case zB => k_dflt k_asm
          case zF => k_dflt k_asm
          case zX => k_dflt k_asm
          case zT => k_dflt k_asm
          case zk => rfl
          case zN => exact List.forall_mem_cons.mpr ⟨N8 _ (mAt 8 rfl), fun _ h => nomatch h⟩
          case zp => omega
          case c0 => assumption
          case c3 => omega
          case cm => omega
          case zd => k_dflt ktr_room
          case zu => k_dflt ktr_units
          case zr =>
          intro t₉ q₉ c₉ items₉ tups₉ v₉ k₉ tk₉ h₉ tkn F₉ K₉ H₉ rep₉ e₉ it₉ due₉
          have N9 := newsKeep N8 K₉
          clear N8 F8
          k_dflt (refine' asked_ne (c := c₂) (c' := c₉) (k := kS) (News.isTup N9 (mAt 0 rfl)) it₉ ?q1 e₉ rep rep₉ ?H1 H₉ ?hv ?hk ?hu ?hQ)
          case q1 => exact (N9 _ (mAt 4 rfl)).1
          case H1 => exact fun p hp => (N9 p (by (iterate 15 (refine List.Mem.tail _ ?_)); exact hp)).1
          case hk => rw [eS, out_k ok due₉]
          case hv => exact (out_due ok due₉).1
          case hu => k_dflt ktr_units
          have hil := Nat.le_trans (Nat.le_of_eq rl) (run_len _ _ _ _ _)
          k_steps
          unfold Stop
          k_dflt (refine' taken_spec ?zB ?zF ?zX ?zT ?zk ?zN ?n1 ?n2 ?n3 ?zd ?zu ?zr)
          case zB => k_dflt k_asm
          case zF => k_dflt k_asm
          case zX => k_dflt k_asm
          case zT => k_dflt k_asm
          case zk => rfl
          case zN => exact List.forall_mem_cons.mpr ⟨N9 _ (mAt 5 rfl), List.forall_mem_cons.mpr ⟨N9 _ (mAt 3 rfl), List.forall_mem_cons.mpr ⟨N9 _ (mAt 6 rfl), List.forall_mem_cons.mpr ⟨N9 _ (mAt 7 rfl), fun _ h => nomatch h⟩⟩⟩⟩
          case n1 => exact g9_10
          case n2 => exact g7_10
          case n3 => exact g6_10
          case zd => k_dflt ktr_room
          case zu => k_dflt ktr_units
          case zr =>
          intro q₁₀ h₁₀ tk₁₀ f₁₀ F₁₀ K₁₀ eq₁₀ eh₁₀
          rename Fr _ _ h₉ _ => F₉
          have NC : News _ _ h₉ [_, _, _, _, _, _, _, _] := List.forall_mem_cons.mpr ⟨N9 _ (mAt 5 rfl), List.forall_mem_cons.mpr ⟨N9 _ (mAt 3 rfl), List.forall_mem_cons.mpr ⟨N9 _ (mAt 9 rfl), List.forall_mem_cons.mpr ⟨N9 _ (mAt 10 rfl), List.forall_mem_cons.mpr ⟨N9 _ (mAt 11 rfl), List.forall_mem_cons.mpr ⟨N9 _ (mAt 12 rfl), List.forall_mem_cons.mpr ⟨N9 _ (mAt 13 rfl), List.forall_mem_cons.mpr ⟨N9 _ (mAt 14 rfl), fun _ h => nomatch h⟩⟩⟩⟩⟩⟩⟩⟩
          have ND := newsTurn NC K₁₀ eh₁₀ (Upd.tail g9_10 (Upd.head ?kk))
          case kk => exact List.forall_mem_cons.mpr ⟨g16_10, List.forall_mem_cons.mpr ⟨g17_10, List.forall_mem_cons.mpr ⟨g18_10, List.forall_mem_cons.mpr ⟨g19_10, List.forall_mem_cons.mpr ⟨g20_10, List.forall_mem_cons.mpr ⟨chx.symm, fun _ h => nomatch h⟩⟩⟩⟩⟩⟩
          have NF := newsAdd ND F₉ f₁₀ eq₁₀
          clear NC ND N9 F₉
          k_steps
          unfold Stop
          rename News _ _ _ _ => NE
          rename Fr _ _ _ _ => FE
          refine UnrEnd.intro FE NE [_, _, _, _, _] (List.forall_mem_cons.mpr ⟨mAt 6 rfl, List.forall_mem_cons.mpr ⟨mAt 7 rfl, List.forall_mem_cons.mpr ⟨mAt 8 rfl, List.forall_mem_cons.mpr ⟨mAt 9 rfl, List.forall_mem_cons.mpr ⟨mAt 10 rfl, List.forall_mem_cons.mpr ⟨mAt 11 rfl, fun _ h => nomatch h⟩⟩⟩⟩⟩⟩) ?off ?ji
          case ji => exact ⟨_, _, _, _, _, rfl, .inr ⟨rfl, co⟩, ar1 a2 i4', ar2 a3 i5', cr.symm, c13.symm, cc.symm, cI.symm⟩
          case off => exact List.forall_mem_cons.mpr ⟨g17_16, List.forall_mem_cons.mpr ⟨g18_16, List.forall_mem_cons.mpr ⟨g19_16, List.forall_mem_cons.mpr ⟨g20_16, List.forall_mem_cons.mpr ⟨cI.symm, fun _ h => nomatch h⟩⟩⟩⟩⟩)
end
end Mine
theorem PySem.Challenge.cw_rh0158_01_holds : PySem.Challenge.rw_rh0158_01.Holds :=
  Mine.main
