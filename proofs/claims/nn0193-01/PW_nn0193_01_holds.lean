import PyProof.Rows.All
import Wide.All
import OpenK.AllK
import Wide.FinOn
import PySem.Challenge.RW_nn0193_01
set_option Elab.async false
set_option compiler.extract_closed false
open PySem PySem.W PySem.Calls PyProof.Rows
namespace Mine
section
open PySem PySem.W PyProof.Rows
set_option maxRecDepth 100000
set_option maxHeartbeats 8000000
local macro_rules | `(tactic| k_head) => `(tactic| ((fail_if_success (have h9 : OfNat Nat 14 := (by assumption))); (have i9 : OfNat Nat 14 := ⟨14⟩); k_head))
open_top hd for PySem.Challenge.rw_nn0193_01
end
theorem topOff : True := by
  w_top off
  trivial
section
open PySem PySem.W PySem.Calls PyProof.Rows
set_option maxRecDepth 100000
set_option maxHeartbeats 4000000

/-- a walk stops here -/
noncomputable def Stop (p : Prop) : Prop := p
theorem Stop.mk {p : Prop} (h : Stop p) : p := h
theorem Stop.out {p : Prop} (h : p) : Stop p := h
/-- a walk does not stop -/
noncomputable def PassMark : Prop := True
theorem passMark : PassMark := trivial
theorem dle {a n c m : Nat} (h : a ≤ n) (k : Nat.ble (n + c) m = true) : a + c ≤ m := Nat.le_trans (Nat.add_le_add_right h c) (Nat.le_of_ble_eq_true k)
theorem dle2 {a n c d m : Nat} (h : a ≤ n) (k : Nat.ble (n + c + d) m = true) : a + c + d ≤ m := dle (dle h (Nat.ble_self_eq_true _)) k
theorem dle0 {a n m : Nat} (h : a ≤ n) (k : Nat.ble n m = true) : a ≤ m := Nat.le_trans h (Nat.le_of_ble_eq_true k)
theorem dlt {a n c m : Nat} (h : a ≤ n) (k : Nat.ble (n + c + 1) m = true) : a + c < m := dle2 h k
theorem dlt2 {a n c d m : Nat} (h : a ≤ n) (k : Nat.ble (n + c + d + 1) m = true) : a + c + d < m := dle (dle2 h (Nat.ble_self_eq_true _)) k
theorem allc {Q : Addr × Obj → Prop} {a : Addr × Obj} {l : List (Addr × Obj)} (h : Q a) (t : ∀ p ∈ l, Q p) : ∀ p ∈ a :: l, Q p := List.forall_mem_cons.mpr ⟨h, t⟩
theorem alla {Q : Addr × Obj → Prop} {l r : List (Addr × Obj)} (h : ∀ p ∈ l, Q p) (t : ∀ p ∈ r, Q p) : ∀ p ∈ l ++ r, Q p := fun x hx => (List.mem_append.mp hx).elim (h x) (t x)
theorem alln {Q : Addr × Obj → Prop} : ∀ p ∈ ([] : List (Addr × Obj)), Q p := fun _ h => nomatch h
theorem ne_new {D a : Nat} {o : Obj} {l : List (Addr × Obj)} (h : ∀ p ∈ l, p.1 < D) (hm : (a, o) ∈ l) : a ≠ D := Nat.ne_of_lt (h _ hm)
noncomputable abbrev PR : Program := PySem.Challenge.rw_nn0193_01.row.prog
noncomputable abbrev VW : Program := hd.view_39
noncomputable abbrev LO : List Str := looseW hd.view_39 [Str.ofString "PaperError"]

section
variable {w : World} {A₀ A : Around} {s : Shared} {base h₀ : Heap} {outer : List Env} {L : Addr} {m mg mb : Str → Option Value} {mean : ExcName → Option Value} {env : Env} {news : List (Addr × Obj)}
  {R : Result → Shared → Prop} {name qual : Str} {params : Arguments} {body : List Stmt} {scope : Scope} {dV kV doc pm cdv ct oc : Value} {an od : Option Addr} {osl : Array (Option Value)} {f : Addr} {args : Args} {binds : List (Str × Value)}

/-- a call of a def of the text, the caller's whole heap but the ledger kept for the callee -/
theorem my_def (B : Below A₀ base outer h₀) (F : Fr h₀ L s.heap m) (X₀ : (hd.heap_39 w.params).In h₀) (N : News h₀ L s.heap news) (T : Top VW LO mean mg mb h₀) (hA : A.frames = some (env :: outer)) (hf : env.frame = some L) (hke : env.scope.kind = .function)
    (ho : (hd.heap_39 w.params).lookup f = some ⟨oc, od, .func (fnOf name qual params body scope dV kV doc pm an cdv ct), osl⟩) (hcd : codeIn (hd.heap_39 w.params) cdv qual = true) (hroom : A.depth < recursionLimit)
    (hbind : BindsTo s (fnOf name qual params body scope dV kV doc pm an cdv ct) args binds) (hloc : ∀ y ∈ binds, scope.names.lookup y.1 = some .local)
    (h : ∀ g L' h₁, (∀ b o, s.heap.get? b = some o → b ∉ news.map (·.1) → g.get? b = some o) → (∀ b o, g.get? b = some o → s.heap.get? b = some o) → g.objs.size = s.heap.objs.size → Fr g L' h₁ (fun y => binds.reverse.lookup y) → News g L' h₁ news → (∀ p ∈ news, p.1 < L') → Below A base (env :: outer) g → (hd.heap_39 w.params).In g → Top VW LO mean mg mb g →
      wpAny (model PR w) (A.deeper (envOf qual scope L' f cdv)) (execs body (envOf qual scope L' f cdv))
        (fun fl s' => R (.ok (.ret (match fl with | .ret v => v | _ => .none))) s')
        (fun e s' => wpAny (model PR w) (A.deeper (envOf qual scope L' f cdv)) (leaving (envOf qual scope L' f cdv) e) (fun _ s'' => R (.error e) s'') (fun e' s'' => R (.error e') s'') s')
        { s with heap := h₁, toks := s.toks + binds.length })
    (hco : scope.isCoroutine = false) (hgen : scope.isGenerator = false) (hk : scope.kind = .function)
    (hcell : ∀ x ∈ scope.names, x.2 ≠ .cell) : codeAny (model PR w) A (.call (.ref f) args) R s := by
  obtain ⟨FG, BG, st, lv⟩ := groundX (R := R) B F N hA hf hke
  refine codeAny_call_def (fd := fnOf name qual params body scope dV kV doc pm an cdv ct) (body := body) (binds := binds) hroom ((X₀.keeps F.keep) _ _ ho) rfl (T.nolimit.keeps F.keep) (codeRec_of (X₀.keeps F.keep) hcd) rfl hbind hcell hloc (fun h₁ hns hk₁ => ?_) hco hgen hk
  exact wpAny_mono (h _ s.heap.objs.size h₁ (fun b o e nm => hideAll_get _ e nm) (fun b o e => of_hideAll _ e) (hideAll_size _ _) ⟨hns, fun b o e => hk₁ b o (of_hideAll _ e), Nat.le_of_eq (hideAll_size _ _)⟩
    (fun p hp => ⟨hk₁ _ _ (N p hp).1, Nat.ne_of_lt (Heap.lt_size (N p hp).1), hideAll_none _ (List.mem_map_of_mem hp)⟩) (fun p hp => Heap.lt_size (N p hp).1) BG (X₀.keeps st) (T.keeps st)) (fun fl s' hl => hl) fun _ _ y => y
end

section
variable {w : World} {A₀ A : Around} {s : Shared} {base h₀ : Heap} {outer : List Env} {L : Addr} {m mg mb : Str → Option Value} {mean : ExcName → Option Value} {env : Env} {news : List (Addr × Obj)}
  {Q : Value → Shared → Prop} {E : Value → Shared → Prop} {name qual : Str} {params : Arguments} {body : List Stmt} {scope : Scope} {dV kV doc pm cdv ct oc : Value} {an od : Option Addr} {osl : Array (Option Value)} {f : Addr} {pos : List Value} {binds : List (Str × Value)}
/-- a call of a def that raises nothing: its ends as one letter -/
theorem my_call (B : Below A₀ base outer h₀) (F : Fr h₀ L s.heap m) (X₀ : (hd.heap_39 w.params).In h₀) (N : News h₀ L s.heap news) (T : Top VW LO mean mg mb h₀) (hf : env.frame = some L) (hke : env.scope.kind = .function)
    (ho : (hd.heap_39 w.params).lookup f = some ⟨oc, od, .func (fnOf name qual params body scope dV kV doc pm an cdv ct), osl⟩) (hcd : codeIn (hd.heap_39 w.params) cdv qual = true) (hroom : (A₀.deeper env).depth < recursionLimit)
    (hbind : BindsTo s (fnOf name qual params body scope dV kV doc pm an cdv ct) ⟨pos, []⟩ binds) (hloc : ∀ y ∈ binds, scope.names.lookup y.1 = some .local)
    (h : ∀ g L' h₁ (Qb : Flow → Shared → Prop), (∀ b o, s.heap.get? b = some o → b ∉ news.map (·.1) → g.get? b = some o) → (∀ b o, g.get? b = some o → s.heap.get? b = some o) → g.objs.size = s.heap.objs.size → Fr g L' h₁ (fun y => binds.reverse.lookup y) → News g L' h₁ news → (∀ p ∈ news, p.1 < L') → Below (A₀.deeper env) base (env :: outer) g → (hd.heap_39 w.params).In g → Top VW LO mean mg mb g →
      (∀ v s', Q v s' → Qb (.ret v) s') → (∀ s', Q .none s' → Qb .next s') →
      wpAny (model PR w) ((A₀.deeper env).deeper (envOf qual scope L' f cdv)) (execs body (envOf qual scope L' f cdv)) Qb (fun _ _ => False) { s with heap := h₁, toks := s.toks + binds.length })
    (hco : scope.isCoroutine = false) (hgen : scope.isGenerator = false) (hk : scope.kind = .function)
    (hcell : ∀ x ∈ scope.names, x.2 ≠ .cell) : wpAny (model PR w) (A₀.deeper env) (call (.ref f) pos) Q E s :=
  wpAny_call (my_def B F X₀ N T (Around.frames_deeper B.stack) hf hke ho hcd hroom hbind hloc (fun g L' h₁ a1 a2 a3 a4 a5 a6 a7 a8 a9 => wpAny_mono (h g L' h₁ _ a1 a2 a3 a4 a5 a6 a7 a8 a9 (fun _ _ q => q) (fun _ q => q)) (fun _ _ x => x) (fun _ _ x => x.elim)) hco hgen hk hcell)
end

/-- the pen: its count, its digits' rest, its cells -/
structure Pen where
  n : Int
  tn : Tok
  d : Int
  td : Tok
  cvs : List Value
  ep : Nat
  ec : Nat
  ok : ∃ cs, IntsAre cvs cs
  len : cvs.length ≤ 63
noncomputable abbrev Pen.p (x : Pen) (C : Addr) : Obj := listOf #[.ref C, .int x.n x.tn, .int x.d x.td] x.ep
noncomputable abbrev Pen.c (x : Pen) : Obj := listOf x.cvs.toArray x.ec

section
variable {h₀ h h' : Heap} {L P C : Addr} {m : Str → Option Value} {news : List (Addr × Obj)} {g1 : Obj → List (Addr × Obj)} {g2 : Obj → Obj → List (Addr × Obj)} {oP oC oP' oC' : Obj}
theorem updF_mem {d : Addr} {o : Obj} {l : List (Addr × Obj)} {g : Obj → List (Addr × Obj)} (U : UpdF d o l g) : (d, o) ∈ l := by
  obtain ⟨pre, post, e, _⟩ := U.split
  rw [e]; exact List.mem_append_right _ (.head _)
theorem updF_cases {d : Addr} {o : Obj} {l : List (Addr × Obj)} {g : Obj → List (Addr × Obj)} (U : UpdF d o l g) {o' : Obj} {p : Addr × Obj} (hp : p ∈ g o') : p = (d, o') ∨ (p ∈ l ∧ p.1 ≠ d) := by
  obtain ⟨pre, post, e, hg, h1, h2⟩ := U.split
  rw [hg] at hp
  rcases List.mem_append.mp hp with q | q
  · exact .inr ⟨by rw [e]; exact List.mem_append_left _ q, h1 p q⟩
  · rcases List.mem_cons.mp q with rfl | q
    · exact .inl rfl
    · exact .inr ⟨by rw [e]; exact List.mem_append_right _ (.tail _ q), h2 p q⟩
theorem fr_back (F : Fr h₀ L h m) (hL : ∀ o, h.get? L = some o → h'.get? L = some o) (hk : ∀ b o, h₀.get? b = some o → h'.get? b = some o) : Fr h₀ L h' m :=
  ⟨let ⟨o, es, ep, e, r⟩ := F.ns; ⟨o, es, ep, hL o e, r⟩, hk, F.above⟩
theorem pen_back (F : Fr h₀ L h m) (N : News h₀ L h news) (U1 : UpdF P oP news g1) (U2 : ∀ o, UpdF C oC (g1 o) (g2 o)) (hPC : P ≠ C)
    (keep : ∀ b o, h.get? b = some o → b ≠ P → b ≠ C → h'.get? b = some o) (eP : h'.get? P = some oP') (eC : h'.get? C = some oC') : Fr h₀ L h' m ∧ News h₀ L h' (g2 oP' oC') := by
  have mP := N _ (updF_mem U1)
  have mC : (C, oC) ∈ news := by
    rcases updF_cases U1 (updF_mem (U2 oP')) with q | q
    · exact absurd (congrArg Prod.fst q).symm hPC
    · exact q.1
  have nC := N _ mC
  refine ⟨fr_back F (fun o e => keep L o e (Ne.symm mP.2.1) (Ne.symm nC.2.1)) (fun b o e => keep b o (F.keep b o e) ?_ ?_), fun p hp => ?_⟩
  · rintro rfl; rw [mP.2.2] at e; cases e
  · rintro rfl; rw [nC.2.2] at e; cases e
  · rcases updF_cases (U2 oP') hp with rfl | ⟨q, qn⟩
    · exact ⟨eC, nC.2⟩
    · rcases updF_cases U1 q with rfl | ⟨q, qn'⟩
      · exact ⟨eP, mP.2⟩
      · exact ⟨keep _ _ (N p q).1 qn' qn, (N p q).2⟩
end
end
section
open PySem PySem.W PySem.Calls PyProof.Rows
set_option maxRecDepth 100000
set_option maxHeartbeats 4000000
section
variable {w : World} {A₀ A : Around} {s : Shared} {base h₀ : Heap} {outer : List Env} {L : Addr} {m mg mb : Str → Option Value} {mean : ExcName → Option Value} {env : Env} {news : List (Addr × Obj)}
  {Q : Value → Shared → Prop} {E : Value → Shared → Prop} {name qual : Str} {params : Arguments} {body : List Stmt} {scope : Scope} {dV kV doc pm cdv ct oc : Value} {an od : Option Addr} {osl : Array (Option Value)} {f : Addr} {pos : List Value} {binds : List (Str × Value)}
/-- a call of a def that raises nothing and has cells -/
theorem my_callC (B : Below A₀ base outer h₀) (F : Fr h₀ L s.heap m) (X₀ : (hd.heap_39 w.params).In h₀) (N : News h₀ L s.heap news) (T : Top VW LO mean mg mb h₀) (hf : env.frame = some L) (hke : env.scope.kind = .function)
    (ho : (hd.heap_39 w.params).lookup f = some ⟨oc, od, .func (fnOf name qual params body scope dV kV doc pm an cdv ct), osl⟩) (hcd : codeIn (hd.heap_39 w.params) cdv qual = true) (hroom : (A₀.deeper env).depth < recursionLimit)
    (hbind : BindsTo s (fnOf name qual params body scope dV kV doc pm an cdv ct) ⟨pos, []⟩ binds)
    (hkind : (binds.all fun y => scope.names.lookup y.1 == some .local || scope.names.lookup y.1 == some .cell) = true) (hnd : ((cellsFrom 0 scope.names []).map (·.1)).Nodup)
    (h : ∀ g L' h₁ tk cells (Qb : Flow → Shared → Prop), (∀ b o, s.heap.get? b = some o → b ∉ news.map (·.1) → g.get? b = some o) → (∀ b o, g.get? b = some o → s.heap.get? b = some o) → g.objs.size = s.heap.objs.size →
      Fr g L' h₁ (bindL (envOfC qual scope L' f cdv).kindOf binds fun _ => none) → News g L' h₁ (cells ++ news) → CellsAre (bindC (envOfC qual scope L' f cdv).kindOf binds fun _ => none) (cellsFrom (L' + 1) scope.names []) cells → (∀ p ∈ news, p.1 < L') → Below (A₀.deeper env) base (env :: outer) g → (hd.heap_39 w.params).In g → Top VW LO mean mg mb g →
      (∀ v s', Q v s' → Qb (.ret v) s') → (∀ s', Q .none s' → Qb .next s') →
      wpAny (model PR w) ((A₀.deeper env).deeper (envOfC qual scope L' f cdv)) (execs body (envOfC qual scope L' f cdv)) Qb (fun _ _ => False) { s with heap := h₁, toks := tk })
    (hco : scope.isCoroutine = false) (hgen : scope.isGenerator = false) (hk : scope.kind = .function) : wpAny (model PR w) (A₀.deeper env) (call (.ref f) pos) Q E s := by
  have hA := Around.frames_deeper (env := env) B.stack
  obtain ⟨FG, BG, st, lv⟩ := groundX (R := fun _ _ => True) B F N hA hf hke
  refine wpAny_call (codeAny_call_function hroom ((X₀.keeps F.keep) _ _ ho) rfl hco hgen rfl (codeRec_of (X₀.keeps F.keep) hcd) (hbind _ _ _ _ ?_))
  refine wpAny_newFunctionEnv_cells hk (kindsX hkind _) fun env' he s' x => ?_
  subst he
  refine ⟨(T.nolimit.keeps F.keep).keeps x.toInCall.keep, codeAny_func ?_⟩
  obtain ⟨h₁, tk, rfl, _⟩ := x.done
  have hk₁ := x.toInCall.keep
  obtain ⟨cells, NC, Y⟩ := Cl.news (h₀ := s.heap) (Nat.le_refl _) fun n c hm => ⟨x.cell n c (lookup_of_mem_nodup (cellsFrom_names scope.names 0 (s.heap.objs.size + 1) [] [] rfl ▸ hnd) hm), x.above n c hm⟩
  refine wpAny_mono (h _ s.heap.objs.size h₁ tk cells _ (fun b o e nm => hideAll_get _ e nm) (fun b o e => of_hideAll _ e) (hideAll_size _ _) ⟨x.toInCall.ns, fun b o e => hk₁ b o (of_hideAll _ e), Nat.le_of_eq (hideAll_size _ _)⟩ (fun p hp => ?_) Y (fun p hp => Heap.lt_size (N p hp).1) BG (X₀.keeps st) (T.keeps st) (fun _ _ q => q) (fun _ q => q)) (fun fl s' hl => hl) fun _ _ y => y.elim
  rcases List.mem_append.mp hp with hp | hp
  · refine ⟨(NC p hp).1, (NC p hp).2.1, ?_⟩
    cases q : (hideAll s.heap (news.map (·.1))).get? p.1 with
    | none => rfl
    | some o => have := of_hideAll _ q; rw [(NC p hp).2.2] at this; cases this
  · exact ⟨hk₁ _ _ (N p hp).1, Nat.ne_of_lt (Heap.lt_size (N p hp).1), hideAll_none _ (List.mem_map_of_mem hp)⟩
end

section
variable {h₀ g h h' : Heap} {L L' : Addr} {m m' : Str → Option Value} {news ns : List (Addr × Obj)} {md : List Addr}
/-- back in the caller's frame -/
theorem my_back (F : Fr h₀ L h m) (N : News h₀ L h news) (hG : ∀ b o, h.get? b = some o → b ∉ md → g.get? b = some o) (F' : Fr g L' h' m') (N' : News g L' h' ns) (hL : L ∉ md) (h0 : ∀ b ∈ md, h₀.get? b = none) :
    Fr h₀ L h' m ∧ News h₀ L h' ns ∧ (∀ p ∈ news, p.1 ∉ md → h'.get? p.1 = some p.2 ∧ p.1 ≠ L ∧ h₀.get? p.1 = none) ∧ (∀ p ∈ ns, p.1 ∉ md → ∀ b o, h.get? b = some o → b ∉ md → p.1 ≠ b) := by
  have st : ∀ b o, h₀.get? b = some o → g.get? b = some o := fun b o e => hG b o (F.keep b o e) fun q => by rw [h0 b q] at e; cases e
  obtain ⟨oL, es, ep, hoL, rL⟩ := id F.ns
  have hLg := hG L oL hoL hL
  refine ⟨fr_back F (fun o e => F'.keep _ _ (hG _ _ e hL)) fun b o e => F'.keep b o (st b o e), fun p hp => ⟨(N' p hp).1, fun q => ?_, ?_⟩, fun p hp hm => ⟨F'.keep _ _ (hG _ _ (N p hp).1 hm), (N p hp).2⟩, fun p hp _ b o e hb q => ?_⟩
  · have z := (N' p hp).2.2
    rw [q, hLg] at z; cases z
  · cases q : h₀.get? p.1 with
    | none => rfl
    | some o => have z := (N' p hp).2.2; rw [st _ _ q] at z; cases z
  · have z := (N' p hp).2.2
    rw [q, hG b o e hb] at z; cases z
end
end
section
open PySem PySem.W PySem.Calls PyProof.Rows
set_option maxRecDepth 100000
set_option maxHeartbeats 4000000
local macro_rules | `(tactic| k_room) => `(tactic| ((try simp only [depth_mark, depth_under_make, depth_under_kw, depth_in1, depth_deeper, depth_caller]); (show _ < 1000); omega))
section
variable {prog : Program} {w : World} {A : Around} {E : Value → Shared → Prop} {s : Shared} {h₀ : Heap} {L D : Addr} {m : Str → Option Value} {news news' : List (Addr × Obj)} {n : Nat}
theorem pop0 {y : Value} {q : List Value} {u : Tok} {Q : Value → Shared → Prop} (F : Fr h₀ L s.heap m) (N : News h₀ L s.heap news) (hz : q.length ≤ 1000) (U : Upd D (listOf (y :: q).toArray n) (listOf q.toArray (n + 1)) news news')
    (h : ∀ h', Fr h₀ L h' m → News h₀ L h' news' → Q y { s with heap := h' }) : wpAny (model prog w) A (call (.builtin "list.pop") [.ref D, .int 0 u]) Q E s := by
  refine kl_popAt (k := 0) (p := []) (y := y) (q := q) F N (by decide) ?_ rfl U ?_ h
  · rw [List.size_toArray, List.length_cons]; simp [seqIndex?]
  · rw [sizeLine_eq]; show (y :: q).length ≤ _; rw [List.length_cons]; omega
end
local macro_rules | `(tactic| walk_at "call builtin:list.pop") => `(tactic| ((with_reducible show wpAny _ _ (call (Value.builtin _) [Value.ref _, Value.int _ _]) _ _ _); k_dflt (refine' pop0 ?F ?N ?z ?U ?_; (case F | N => k_asm); (case U => k_upd); (case z => omega); k_whole); (intro h' F' N')))
theorem fill (w : World) : (hd.heap_39 w.params) = (hd.heap_39 w.params) ∧ PySem.Challenge.rw_nn0193_01 = PySem.Challenge.rw_nn0193_01 := by
  k_fill
  exact ⟨rfl, rfl⟩
theorem draw_call {w : World} {fr : Option (List Env)} {gd : Option (List Code)} {dp un : Nat} {s : Shared} {base h₀ : Heap} {outer : List Env} {L : Addr} {m mg mb : Str → Option Value} {mean : ExcName → Option Value} {env : Env} {news : List (Addr × Obj)} {g1 : Obj → List (Addr × Obj)} {g2 : Obj → Obj → List (Addr × Obj)}
  {P C : Addr} {x : Pen} {many : Int} {tm : Tok} {Q : Value → Shared → Prop} {E : Value → Shared → Prop}
  (B : Below { handled := none, depth := dp, frames := fr, guards := gd, units := un } base outer h₀) (F : Fr h₀ L s.heap m) (X₀ : (hd.heap_39 w.params).In h₀) (T : Top VW LO mean mg mb h₀)
  (N : News h₀ L s.heap news) (U1 : UpdF P (x.p C) news g1) (U2 : ∀ o, UpdF C x.c (g1 o) (g2 o)) (hPC : P ≠ C)
  (hf : env.frame = some L) (hke : env.scope.kind = .function) (hdp : dp ≤ 800) (hun : un ≤ 8000) (hmany : 0 < many) (hmany2 : many < 1000000)
  (hQ : ∀ h' tk r tr (x' : Pen), 0 ≤ r → r < many → Fr h₀ L h' m → News h₀ L h' (g2 (x'.p C) x'.c) → Q (.int r tr) { s with heap := h', toks := tk }) :
  wpAny (model PR w) (({ handled := none, depth := dp, frames := fr, guards := gd, units := un } : Around).deeper env) (call (.ref 118) [.ref P, .int many tm]) Q E s := by
  have mP := N _ (updF_mem U1)
  have mC : (C, x.c) ∈ news := by
    rcases updF_cases U1 (updF_mem (U2 (x.p C))) with q | q
    · exact absurd (congrArg Prod.fst q).symm hPC
    · exact q.1
  have nC := N _ mC
  have N1 : News h₀ L s.heap [(P, x.p C), (C, x.c)] := by
    intro p hp
    simp only [List.mem_cons, List.not_mem_nil, or_false] at hp
    rcases hp with rfl | rfl
    · exact mP
    · exact nC
  refine' my_call (binds := [(Str.ofString "pen", .ref P), (Str.ofString "many", .int many tm)]) B F X₀ N1 T hf hke ?k6 ?k7 ?k8 ?k9 ?kB ?_ ?c2 ?c3 ?c4 ?c5
  case k6 => k_is
  case k7 => k_is
  case k8 => k_room
  case k9 => exact BindsTo.of_eq rfl
  case c5 => decide
  case kB => exact locs rfl
  case c2 => exact rfl
  case c3 => exact rfl
  case c4 => exact rfl
  intro g L' h₁ Qb hG hGs hsz F' N' hlt B' X' T' hret hnext
  have hne : @Ne Nat P C := hPC
  have back : ∀ h' tk r tr n tn d td cvs ep ec cs m' ns, 0 ≤ r → r < many → IntsAre cvs cs → cvs.length ≤ 63 → Fr g L' h' m' → News g L' h' ns → (P, listOf #[.ref C, .int n tn, .int d td] ep) ∈ ns → (C, listOf cvs.toArray ec) ∈ ns → Qb (.ret (.int r tr)) { s with heap := h', toks := tk } := by
    intro h' tk r tr n tn d td cvs ep ec cs m' ns h0 h1 hi hl F'' N'' e1 e2
    have z := pen_back (oP' := listOf #[.ref C, .int n tn, .int d td] ep) (oC' := listOf cvs.toArray ec) F N U1 U2 hPC (fun b o e n1 n2 => F''.keep b o (hG b o e (by simp [n1, n2]))) (N'' _ e1).1 (N'' _ e2).1
    exact hret _ _ (hQ h' tk r tr ⟨n, tn, d, td, cvs, ep, ec, ⟨cs, hi⟩, hl⟩ h0 h1 z.1 z.2)
  obtain ⟨n, tn, d, td, cvs, ep, ec, ⟨cs, hcs⟩, hlen⟩ := x
  clear hG hGs N1 N F X₀ T U1 U2 mP mC nC hQ hret hnext
  dsimp only [List.length_cons, List.length_nil, List.reverse_cons, List.reverse_nil, List.nil_append, List.cons_append, Pen.p, Pen.c] at *
  cases hcs
  all_goals (try rw [List.length_cons] at hlen)
  all_goals repeat' (first | walk1 | (dsimp only; walk1))
  all_goals (try dsimp only)
  all_goals (refine' back _ _ _ _ _ _ _ _ _ _ _ _ _ _ (fmod_lo _ hmany) (fmod_hi _ hmany) ?i ?l ?F ?N ?e1 ?e2; (case F => assumption); (case N => assumption); (case e1 => k_mem); (case e2 => k_mem); (case i => l_ints); (case l => first | exact Nat.zero_le _ | exact hlen | omega))
end
section
open PySem PySem.W PySem.Calls PyProof.Rows
set_option maxRecDepth 100000
set_option maxHeartbeats 4000000
local macro_rules | `(tactic| k_room) => `(tactic| ((try simp only [depth_mark, depth_under_make, depth_under_kw, depth_in1, depth_deeper, depth_caller]); (show _ < 1000); omega))
local macro_rules | `(tactic| k_all) => `(tactic| with_reducible assumption)
local macro_rules | `(tactic| k_mem) => `(tactic| with_reducible assumption)
local macro_rules | `(tactic| walk_at "m call") => `(tactic| ((case k6 | k7 => k_is); (case k8 => k_room); (case k9 => exact BindsTo.of_eq rfl); (case c5 => decide); (case kB => exact locs rfl); (case c2 | c3 | c4 => exact rfl)))
local macro_rules | `(tactic| walk_at "m walk") => `(tactic| repeat' (first | walk1 | (dsimp only; walk1)))
local macro_rules | `(tactic| walk_at "m d") => `(tactic| ((try dsimp only); omega))
local macro_rules | `(tactic| walk_at "call ref") => `(tactic| ((with_reducible show wpAny _ _ (call (Value.ref 118) _) _ _ _); k_dflt (refine' draw_call ‹_› ‹_› ‹_› ‹_› ‹_› (by k_updF) (by intro _; k_updF) (by k_ne) (by exact rfl) (by exact rfl) (by walk_at "m d") (by walk_at "m d") (by walk_at "m d") (by walk_at "m d") ?_); (intro h' tk' r' tr' x' h0' h1' F' N'); (try dsimp only at N')))
section
variable {prog : Program} {w : World} {A : Around} {E : Value → Shared → Prop} {s : Shared}
theorem item_any {value slice : PySem.Expr} {l : Addr} {its : Array Value} {k : Int} {u : Tok} {Q : Value → Shared → Prop} (hl : s.heap.IsList l its) (h0 : 0 ≤ k) (h1 : k < (its.size : Int)) (hfit : its.size ≤ 1000)
    (h : ∀ v, its[k.toNat]? = some v → Q v s)
    (hs : subscripted slice false (.ref l) (.int k u) = operate [.ref l, .int k u] (getItem (.ref l) (.int k u)) := by with_unfolding_all rfl) :
    wpAny (model prog w) A (subscriptTail value slice (.ref l) (.int k u)) Q E s := by
  have hx : its[k.toNat]? = some (its[k.toNat]'(by omega)) := Array.getElem?_eq_getElem _
  exact tail_any hl.typeIs slot_list_getitem.lookup (wpAny_getItem_list hl h0 (by omega) hx (h _ hx)) hs
end
theorem pick_call {w : World} {fr : Option (List Env)} {gd : Option (List Code)} {dp un : Nat} {s : Shared} {base h₀ : Heap} {outer : List Env} {L : Addr} {m mg mb : Str → Option Value} {mean : ExcName → Option Value} {env : Env} {news : List (Addr × Obj)} {g1 : Obj → List (Addr × Obj)} {g2 : Obj → Obj → List (Addr × Obj)}
  {P C S : Addr} {x : Pen} {its : Array Value} {Q : Value → Shared → Prop} {E : Value → Shared → Prop}
  (B : Below { handled := none, depth := dp, frames := fr, guards := gd, units := un } base outer h₀) (F : Fr h₀ L s.heap m) (X₀ : (hd.heap_39 w.params).In h₀) (T : Top VW LO mean mg mb h₀)
  (N : News h₀ L s.heap news) (U1 : UpdF P (x.p C) news g1) (U2 : ∀ o, UpdF C x.c (g1 o) (g2 o)) (hPC : P ≠ C)
  (hf : env.frame = some L) (hke : env.scope.kind = .function) (hdp : dp ≤ 790) (hun : un ≤ 7900) (hS : s.heap.IsList S its) (hSP : S ≠ P) (hSC : S ≠ C) (hlo : 0 < its.size) (hhi : its.size ≤ 1000)
  (hQ : ∀ h' tk v (i : Nat) (x' : Pen), its[i]? = some v → Fr h₀ L h' m → News h₀ L h' (g2 (x'.p C) x'.c) → Q v { s with heap := h', toks := tk }) :
  wpAny (model PR w) (({ handled := none, depth := dp, frames := fr, guards := gd, units := un } : Around).deeper env) (call (.ref 125) [.ref P, .ref S]) Q E s := by
  have mP := N _ (updF_mem U1)
  have mC : (C, x.c) ∈ news := by
    rcases updF_cases U1 (updF_mem (U2 (x.p C))) with q | q
    · exact absurd (congrArg Prod.fst q).symm hPC
    · exact q.1
  have nC := N _ mC
  have N1 : News h₀ L s.heap [(P, x.p C), (C, x.c)] := by
    intro p hp
    simp only [List.mem_cons, List.not_mem_nil, or_false] at hp
    rcases hp with rfl | rfl
    · exact mP
    · exact nC
  refine' my_call (binds := [(Str.ofString "pen", .ref P), (Str.ofString "some", .ref S)]) B F X₀ N1 T hf hke ?k6 ?k7 ?k8 ?k9 ?kB ?_ ?c2 ?c3 ?c4 ?c5
  walk_at "m call"
  intro g L' h₁ Qb hG hGs hsz F' N' hlt B' X' T' hret hnext
  have hne : @Ne Nat P C := hPC
  have back : ∀ h' tk v (i : Nat) (x' : Pen) m', its[i]? = some v → Fr g L' h' m' → News g L' h' [(P, x'.p C), (C, x'.c)] → Qb (.ret v) { s with heap := h', toks := tk } := by
    intro h' tk v i x' m' hv F'' N''
    have z := pen_back (oP' := x'.p C) (oC' := x'.c) F N U1 U2 hPC (fun b o e n1 n2 => F''.keep b o (hG b o e (by simp [n1, n2]))) (N'' _ (.head _)).1 (N'' _ (.tail _ (.head _))).1
    exact hret _ _ (hQ h' tk v i x' hv z.1 z.2)
  have hSg : g.IsList S its := hS.at fun o e => hG _ o e (by simp [hSP, hSC])
  clear hG hGs N1 N F X₀ T U1 U2 mP mC nC hQ hret hnext hS
  dsimp only [List.length_cons, List.length_nil, List.reverse_cons, List.reverse_nil, List.nil_append, List.cons_append] at *
  walk_at "m walk"
  refine item_any (hSg.at fun o e => Fr.keep (by assumption) _ _ e) (by assumption) (by assumption) hhi (fun v hv => ?_)
  exact back _ _ _ _ _ _ hv (by assumption) (by assumption)
end
section
open PySem PySem.W PySem.Calls PyProof.Rows
set_option maxRecDepth 100000
set_option maxHeartbeats 4000000

theorem news_sub {h₀ h : Heap} {L : Addr} {l l' : List (Addr × Obj)} (N : News h₀ L h l) (hs : ∀ p ∈ l', p ∈ l) : News h₀ L h l' := fun p hp => N p (hs p hp)
theorem news_app {h₀ h : Heap} {L : Addr} {l l' : List (Addr × Obj)} (N : News h₀ L h l) (N' : News h₀ L h l') : News h₀ L h (l ++ l') := fun p hp => (List.mem_append.mp hp).elim (N p) (N' p)

/-- a turn's end: the iterator's own objects stand, the word holds of the rest -/
noncomputable def TurnEnd (h₀ : Heap) (L : Addr) (Jn : (Str → Option Value) → List (Addr × Obj) → Prop) (I : Addr) (own : List (Addr × Obj)) (s : Shared) (Q : Flow → Shared → Prop) (f : Flow) (s' : Shared) : Prop :=
  match f with
  | .ret v => Q (.ret v) s'
  | .brk => Q .next s'
  | _ => ∃ h' tk m' news', s' = { s with heap := h', toks := tk } ∧ Fr h₀ L h' m' ∧ News h₀ L h' (own ++ news') ∧ (∀ p ∈ news', p.1 ≠ I) ∧ Jn m' news'
theorem TurnEnd.intro {h₀ : Heap} {L : Addr} {Jn : (Str → Option Value) → List (Addr × Obj) → Prop} {I : Addr} {own : List (Addr × Obj)} {s : Shared} {Q : Flow → Shared → Prop} {h' : Heap} {tk : Nat} {m' : Str → Option Value} (news' : List (Addr × Obj))
    (F : Fr h₀ L h' m') (N : News h₀ L h' (own ++ news')) (hI : ∀ p ∈ news', p.1 ≠ I) (hJ : Jn m' news') : TurnEnd h₀ L Jn I own s Q .next { s with heap := h', toks := tk } := ⟨h', tk, m', news', rfl, F, N, hI, hJ⟩
theorem TurnEnd.introC {h₀ : Heap} {L : Addr} {Jn : (Str → Option Value) → List (Addr × Obj) → Prop} {I : Addr} {own : List (Addr × Obj)} {s : Shared} {Q : Flow → Shared → Prop} {h' : Heap} {tk : Nat} {m' : Str → Option Value} (news' : List (Addr × Obj))
    (F : Fr h₀ L h' m') (N : News h₀ L h' (own ++ news')) (hI : ∀ p ∈ news', p.1 ≠ I) (hJ : Jn m' news') : TurnEnd h₀ L Jn I own s Q .cont { s with heap := h', toks := tk } := ⟨h', tk, m', news', rfl, F, N, hI, hJ⟩

section
variable {prog : Program} {w : World} {A : Around} {E : Value → Shared → Prop} {s : Shared} {env : Env} {h₀ : Heap} {x : Str} {body : List Stmt} {Q : Flow → Shared → Prop}

theorem my_loop {s₂ : Shared} {I : Addr} {fp : List Addr} {n : Nat} {P : Nat → Value → Prop} {St : Nat → Heap → Prop} {m₀ : Str → Option Value} {news₀ : List (Addr × Obj)} (J : Nat → (Str → Option Value) → List (Addr × Obj) → Prop)
    (W : Walks prog w A I fp [I] n P St) (hIat : ∀ i h, St i h → ∃ o, h.get? I = some o) (hLf : env.locals ∉ fp) (hI : h₀.get? I = none) (hnI : ∀ p ∈ news₀, p.1 ≠ I) (hst : St 0 s₂.heap) (F : Fr h₀ env.locals s₂.heap m₀) (N : News h₀ env.locals s₂.heap news₀) (hJ : J 0 m₀ news₀)
    (turn : ∀ i v m₁ news₁ h tk own, i < n → P i v → J i m₁ news₁ → (∀ p ∈ news₁, p.1 ≠ I) → (∀ p ∈ own, p.1 ∈ fp) → (∃ oI, (I, oI) ∈ own) → Fr h₀ env.locals h (fun y => if y = x then some v else m₁ y) → News h₀ env.locals h (own ++ news₁) →
      wpAny (model prog w) A (execs body env) (TurnEnd h₀ env.locals (J (i + 1)) I own s₂ Q) E { s₂ with heap := h, toks := tk })
    (done : ∀ m₁ news₁ h tk, J n m₁ news₁ → Fr h₀ env.locals h m₁ → News h₀ env.locals h news₁ → Q .next { s₂ with heap := h, toks := tk }) :
    LoopAtV prog w A h₀ env x body Q E (.ref I) s₂ := by
  refine ⟨I, fp, [I], n, P, St, m₀, news₀, fun i m nw => (∀ p ∈ nw, p.1 ≠ I) ∧ J i m nw, rfl, W, hLf, ?_, ?_, hst, F, N, ⟨hnI, hJ⟩, ?_, ?_⟩
  · intro b hb; rw [List.mem_singleton.mp hb]; exact hI
  · intro p hp hb; exact hnI p hp (List.mem_singleton.mp hb)
  · rintro i v m₁ news₁ s₁ own ⟨h, tk, rfl⟩ hi hP ⟨hn, hJ'⟩ hoff hown _ hall hst' F₁ N₁
    refine wpAny_mono (turn i v m₁ news₁ h tk own hi hP hJ' hn hown (let ⟨o, e⟩ := hIat _ _ hst'; ⟨o, hall I (W.sub I (.head _)) hI o e⟩) F₁ N₁) (fun f s' z => ?_) fun _ _ e => e
    have fin : ∀ g, g = Flow.next → (∃ h' tk' m' news', s' = { s₂ with heap := h', toks := tk' } ∧ Fr h₀ env.locals h' m' ∧ News h₀ env.locals h' (own ++ news') ∧ (∀ p ∈ news', p.1 ≠ I) ∧ J (i + 1) m' news') →
        LoopStepU h₀ env.locals [I] own (fun m nw => (∀ p ∈ nw, p.1 ≠ I) ∧ J (i + 1) m nw) { s₂ with heap := h, toks := tk } g s' := by
      rintro g rfl ⟨h', tk', m', news', e, F', N', hI', hJn⟩
      exact ⟨rfl, h', tk', m', news', e, F', N', fun p hp hb => hI' p hp (List.mem_singleton.mp hb), hI', hJn⟩
    cases f with
    | ret v => exact .ret z
    | brk => exact .brk z
    | next => exact .next (fin _ rfl z)
    | cont => exact .cont (fin _ rfl z)
  · rintro h' tk m' news' F' N' _ ⟨_, hJ'⟩
    exact done m' news' h' tk hJ' F' N'

theorem my_range {r : Addr} {a₀ b₀ : Int} {t₀ u₀ v₀ : Tok} {n : Nat} {m₀ : Str → Option Value} {news₀ : List (Addr × Obj)} (J : Nat → (Str → Option Value) → List (Addr × Obj) → Prop)
    (hh : A.handled = none) (hr : IsRange s.heap r a₀ b₀ 1 t₀ u₀ v₀) (hsmall : Builtin.Range.small a₀ b₀ 1 = true) (hn : Builtin.Range.rangeSize a₀ b₀ 1 = (n : Int)) (F : Fr h₀ env.locals s.heap m₀) (N : News h₀ env.locals s.heap news₀) (hJ : J 0 m₀ news₀)
    (turn : ∀ i t m₁ news₁ h tk I own, i < n → J i m₁ news₁ → (∀ p ∈ news₁, p.1 ≠ I) → (∀ p ∈ own, p.1 = I) → (∃ oI, (I, oI) ∈ own) → Fr h₀ env.locals h (fun y => if y = x then some (.int (a₀ + (i : Int)) t) else m₁ y) → News h₀ env.locals h (own ++ news₁) →
      wpAny (model prog w) A (execs body env) (TurnEnd h₀ env.locals (J (i + 1)) I own s Q) E { s with heap := h, toks := tk })
    (done : ∀ m₁ news₁ h tk, J n m₁ news₁ → Fr h₀ env.locals h m₁ → News h₀ env.locals h news₁ → Q .next { s with heap := h, toks := tk }) :
    wpAny (model prog w) A (pyIter (.ref r)) (fun it s₂ => LoopAtV prog w A h₀ env x body Q E it s₂) E s := by
  refine wpAny_pyIter_range hr hsmall ?_
  refine my_loop (s₂ := { s with heap := s.heap.push _ }) J (Walks.range hh s.heap.objs.size a₀ 1 n) (fun i h e => ⟨_, e⟩) ?_ (next_is_new F) (fun p hp e => absurd (Heap.lt_size (N p hp).1) (e ▸ Nat.lt_irrefl _)) (by show IsRangeIter _ _ _ _ _; rw [hn]; simpa using Heap.get?_push_size _ rfl) (F.push _) (fun p hp => ⟨Heap.get?_push_of_some _ (N p hp).1, (N p hp).2⟩) hJ ?_ done
  · intro hm
    exact absurd F.ns.lt ((List.mem_singleton.mp hm) ▸ Nat.lt_irrefl _)
  · rintro i v m₁ news₁ h tk own hi ⟨t, rfl⟩ hJ' hoff hown hoI F₁ N₁
    rw [Int.mul_one] at F₁
    exact turn i t m₁ news₁ h tk _ own hi hJ' hoff (fun p hp => List.mem_singleton.mp (hown p hp)) hoI F₁ N₁

theorem my_list {l : Addr} {its : Array Value} {m₀ : Str → Option Value} {news₀ : List (Addr × Obj)} (J : Nat → (Str → Option Value) → List (Addr × Obj) → Prop)
    (hh : A.handled = none) (hl : s.heap.IsList l its) (hlL : l ≠ env.locals) (F : Fr h₀ env.locals s.heap m₀) (N : News h₀ env.locals s.heap news₀) (hJ : J 0 m₀ news₀)
    (turn : ∀ i v m₁ news₁ h tk I own, its[i]? = some v → J i m₁ news₁ → (∀ p ∈ news₁, p.1 ≠ I) → (∀ p ∈ own, p.1 = I ∨ p.1 = l) → I ≠ l → (∃ oI, (I, oI) ∈ own) → Fr h₀ env.locals h (fun y => if y = x then some v else m₁ y) → News h₀ env.locals h (own ++ news₁) →
      wpAny (model prog w) A (execs body env) (TurnEnd h₀ env.locals (J (i + 1)) I own s Q) E { s with heap := h, toks := tk })
    (done : ∀ m₁ news₁ h tk, J its.size m₁ news₁ → Fr h₀ env.locals h m₁ → News h₀ env.locals h news₁ → Q .next { s with heap := h, toks := tk }) :
    wpAny (model prog w) A (pyIter (.ref l)) (fun it s₂ => LoopAtV prog w A h₀ env x body Q E it s₂) E s := by
  refine wpAny_pyIter_list hl ?_
  obtain ⟨ol, hol, _⟩ := id hl
  have hne : l ≠ s.heap.objs.size := Nat.ne_of_lt (Heap.lt_size hol)
  refine my_loop (s₂ := { s with heap := s.heap.push _ }) J (Walks.list hh s.heap.objs.size l hne its) (fun i h e => ⟨_, e.1.choose_spec.1⟩) ?_ (next_is_new F) (fun p hp e => absurd (Heap.lt_size (N p hp).1) (e ▸ Nat.lt_irrefl _)) ⟨⟨_, Heap.get?_push_size _ rfl, rfl, rfl⟩, hl.at fun o e => Heap.get?_push_of_some _ e⟩ (F.push _) (fun p hp => ⟨Heap.get?_push_of_some _ (N p hp).1, (N p hp).2⟩) hJ ?_ done
  · intro hm
    rcases List.mem_cons.mp hm with e | hm
    · exact absurd F.ns.lt (e ▸ Nat.lt_irrefl _)
    · exact hlL (List.mem_singleton.mp hm).symm
  · rintro i v m₁ news₁ h tk own hi hv hJ' hoff hown hoI F₁ N₁
    exact turn i v m₁ news₁ h tk _ own hv hJ' hoff (fun p hp => (List.mem_cons.mp (hown p hp)).imp id List.mem_singleton.mp) (Ne.symm hne) hoI F₁ N₁

theorem my_keys {K : Type} [DecidableEq K] {knd : KeyKind prog w K} {d : Addr} {kvs : List (K × Value)} {m₀ : Str → Option Value} {news₀ : List (Addr × Obj)} (J : Nat → (Str → Option Value) → List (Addr × Obj) → Prop)
    (hh : A.handled = none) (hd : s.heap.DictOf knd d kvs) (hds : (d == sysModules) = false) (hdL : d ≠ env.locals) (F : Fr h₀ env.locals s.heap m₀) (N : News h₀ env.locals s.heap news₀) (hJ : J 0 m₀ news₀)
    (turn : ∀ i v k y m₁ news₁ h tk I own, kvs[i]? = some (k, y) → knd.is k v = true → J i m₁ news₁ → (∀ p ∈ news₁, p.1 ≠ I) → (∀ p ∈ own, p.1 = I ∨ p.1 = d) → I ≠ d → (∃ oI, (I, oI) ∈ own) → Fr h₀ env.locals h (fun y => if y = x then some v else m₁ y) → News h₀ env.locals h (own ++ news₁) →
      wpAny (model prog w) A (execs body env) (TurnEnd h₀ env.locals (J (i + 1)) I own s Q) E { s with heap := h, toks := tk })
    (done : ∀ m₁ news₁ h tk, J kvs.length m₁ news₁ → Fr h₀ env.locals h m₁ → News h₀ env.locals h news₁ → Q .next { s with heap := h, toks := tk }) :
    wpAny (model prog w) A (pyIter (.ref d)) (fun it s₂ => LoopAtV prog w A h₀ env x body Q E it s₂) E s := by
  obtain ⟨ep, hda⟩ : ∃ ep, s.heap.DictAt knd d kvs ep := by
    obtain ⟨o, es, ep, ho, r⟩ := hd
    exact ⟨ep, o, es, ho, r⟩
  refine wpAny_pyIter_dict hds hda ?_
  obtain ⟨od, _, hod, _⟩ := id hda
  have hne : d ≠ s.heap.objs.size := Nat.ne_of_lt (Heap.lt_size hod)
  refine my_loop (s₂ := { s with heap := s.heap.push _ }) J (Walks.dictKeys hh s.heap.objs.size d hne kvs ep) (fun i h e => ⟨_, e.1.choose_spec.1⟩) ?_ (next_is_new F) (fun p hp e => absurd (Heap.lt_size (N p hp).1) (e ▸ Nat.lt_irrefl _)) ⟨⟨_, Heap.get?_push_size _ rfl, rfl, rfl⟩, hda.at' fun o e => Heap.get?_push_of_some _ e⟩ (F.push _) (fun p hp => ⟨Heap.get?_push_of_some _ (N p hp).1, (N p hp).2⟩) hJ ?_ done
  · intro hm
    rcases List.mem_cons.mp hm with e | hm
    · exact absurd F.ns.lt (e ▸ Nat.lt_irrefl _)
    · exact hdL (List.mem_singleton.mp hm).symm
  · rintro i v m₁ news₁ h tk own hi ⟨k, y, hk, hv⟩ hJ' hoff hown hoI F₁ N₁
    exact turn i v k y m₁ news₁ h tk _ own hk hv hJ' hoff (fun p hp => (List.mem_cons.mp (hown p hp)).imp id List.mem_singleton.mp) (Ne.symm hne) hoI F₁ N₁
end
end
section
open PySem PySem.W PySem.Calls PyProof.Rows
set_option maxRecDepth 100000
set_option maxHeartbeats 4000000

/-- a block's locals, as one object of the ledger -/
noncomputable def NsObj (o : Obj) (m : Str → Option Value) : Prop := ∃ es ep, o.data = .dict es ep ∧ StrKeys es ∧ ∀ x, nsFind es x = m x
theorem NsObj.ns {h : Heap} {a : Addr} {o : Obj} {m : Str → Option Value} (x : NsObj o m) (e : h.get? a = some o) : h.Ns a m := let ⟨es, ep, r⟩ := x; ⟨o, es, ep, e, r⟩
theorem ns_obj {h : Heap} {a : Addr} {m : Str → Option Value} (x : h.Ns a m) : ∃ o, h.get? a = some o ∧ NsObj o m := let ⟨o, es, ep, e, r⟩ := x; ⟨o, e, es, ep, r⟩

/-- a comprehension's turn's end -/
noncomputable def CompEnd (h₀ : Heap) (L : Addr) (m₀ : Str → Option Value) (Jn : List (Addr × Obj) → Prop) (I C D : Addr) (oC oD : Obj) (own : List (Addr × Obj)) (s s' : Shared) : Prop :=
  ∃ h' tk news', s' = { s with heap := h', toks := tk } ∧ Fr h₀ L h' m₀ ∧ News h₀ L h' ((C, oC) :: (D, oD) :: (own ++ news')) ∧ (∀ p ∈ news', p.1 ≠ I ∧ p.1 ≠ C ∧ p.1 ≠ D) ∧ Jn news'
theorem CompEnd.intro {h₀ : Heap} {L : Addr} {m₀ : Str → Option Value} {Jn : List (Addr × Obj) → Prop} {I C D : Addr} {oC oD : Obj} {own : List (Addr × Obj)} {s : Shared} {h' : Heap} {tk : Nat} (news' : List (Addr × Obj))
    (F : Fr h₀ L h' m₀) (N : News h₀ L h' ((C, oC) :: (D, oD) :: (own ++ news'))) (hI : ∀ p ∈ news', p.1 ≠ I ∧ p.1 ≠ C ∧ p.1 ≠ D) (hJ : Jn news') : CompEnd h₀ L m₀ Jn I C D oC oD own s { s with heap := h', toks := tk } := ⟨h', tk, news', rfl, F, N, hI, hJ⟩

section
variable {prog : Program} {w : World} {A : Around} {E : Value → Shared → Prop} {env : Env} {h₀ : Heap} {L : Addr}

theorem comp_core {elt iter : PySem.Expr} {x : Str} {px : Pos} {ifs : List PySem.Expr} {scope : Scope} {cl : List (Str × Addr)} {pos : Pos} {s₂ : Shared} {I : Addr} {fp : List Addr} {n : Nat} {P : Nat → Value → Prop}
    {St : Nat → Heap → Prop} {m₀ : Str → Option Value} {news₀ : List (Addr × Obj)} (J : Nat → List Value → List (Addr × Obj) → Prop) {RR : Value → Addr → Result → Shared → Prop}
    (W : Walks prog w A I fp [I] n P St) (hsz : n ≤ 1000) (hIf : I ∈ fp) (hfp : ∀ b ∈ fp, b < s₂.heap.objs.size)
    (hcell : ∀ y ∈ scope.names, y.2 ≠ .cell) (hkind : scope.kind = .function) (hx : scope.names.lookup x = some .local)
    (hLf : L ∉ fp) (hI0 : h₀.get? I = none) (hnI : ∀ p ∈ news₀, p.1 ≠ I) (hst : St 0 s₂.heap) (F : Fr h₀ L s₂.heap m₀) (N : News h₀ L s₂.heap news₀) (hJ : J 0 [] news₀)
    (turn : ∀ i v ys news₁ h tk own C oC D ep mC, i < n → ys.length ≤ i → P i v → J i ys news₁ → NsObj oC mC → mC x = some v → (∀ p ∈ own, p.1 ∈ fp) → (∀ p ∈ news₁, p.1 ≠ I ∧ p.1 ≠ C ∧ p.1 ≠ D) → (∀ b ∈ fp, b < D ∧ b < C) → D < C →
      Fr h₀ L h m₀ → News h₀ L h ((C, oC) :: (D, listOf ys.toArray ep) :: (own ++ news₁)) →
      wpAny (model prog w) A (forIn ifs true fun c r => if r = true then do let ok ← isTrue c (compEnvC scope cl C env) (eval c (compEnvC scope cl C env)); pure (ForInStep.yield ok) else pure (ForInStep.yield r))
        (fun ok s₃ => if ok = true then wpAny (model prog w) A (eval elt (compEnvC scope cl C env)) (fun y s₄ => CompEnd h₀ L m₀ (J (i + 1) (ys ++ [y])) I C D oC (listOf ys.toArray ep) own s₂ s₄) (fun _ _ => False) s₃
          else CompEnd h₀ L m₀ (J (i + 1) ys) I C D oC (listOf ys.toArray ep) own s₂ s₃) (fun _ _ => False) { s₂ with heap := h, toks := tk })
    (hRR : ∀ C D h' tk ep ys news' mC, J n ys news' → h'.Ns C mC → Fr h₀ L h' m₀ → News h₀ L h' ((D, listOf ys.toArray ep) :: news') → (∀ p ∈ news', p.1 ≠ D ∧ p.1 ≠ C) → D < C → L ≠ C → ys.length ≤ n → (∀ b, h₀.get? b ≠ none → b ≠ C) → RR (.ref D) C (.ok .next) { s₂ with heap := h', toks := tk }) :
    wpAny (model prog w) A (newList []) (fun acc s₃ => wpAny (model prog w) A (newFunctionEnv scope env.globals cl [] env.qual none .none (some env)) (fun cenv s₄ =>
      codeAny (model prog w) A (.compStart (.ListComp elt [⟨.Name x px, iter, ifs, 0⟩] scope pos) 0 (.ref I) acc { cenv with scope := relabel scope env }) (RR acc cenv.locals) s₄) E s₃) E s₂ := by
  refine wpAny_newObj_type (wpAny_newFunctionEnv hcell (by intro y hy; simp at hy) (fun h₁ hns₁ hsb₁ => ?_) hkind)
  dsimp only at hns₁ hsb₁ ⊢
  generalize hH2 : s₂.heap.push { cls := .type "list", dict := none, data := .seq ([] : List Value).toArray } = H2 at hns₁ hsb₁ ⊢
  have hC : H2.objs.size = s₂.heap.objs.size + 1 := by rw [← hH2, Heap.size_push]
  generalize hD : s₂.heap.objs.size = D at hC
  generalize hCC : H2.objs.size = C at *
  have hDC : D < C := by rw [hC]; exact Nat.lt_succ_self _
  have below : ∀ b, b < D → b ≠ C ∧ b ≠ D := fun b hb => ⟨Nat.ne_of_lt (Nat.lt_trans hb hDC), Nat.ne_of_lt hb⟩
  have lo : ∀ b o, s₂.heap.get? b = some o → b < D := fun b o e => hD ▸ Heap.lt_size e
  have old : ∀ b o, s₂.heap.get? b = some o → h₁.get? b = some o := fun b o e => hsb₁.extBut b o (below b (lo b o e)).1 (Heap.get?_push_of_some _ (hH2 ▸ Heap.get?_push_of_some _ e))
  have hfpD : ∀ b ∈ fp, b < D ∧ b < C := fun b hb => ⟨hD ▸ hfp b hb, Nat.lt_trans (hD ▸ hfp b hb) hDC⟩
  have eD : h₁.get? D = some (listOf ([] : List Value).toArray 0) := hsb₁.extBut _ _ (Nat.ne_of_lt hDC) (Heap.get?_push_of_some _ (by rw [← hH2, ← hD]; exact Heap.get?_push_size _ rfl))
  have hst₁ : St 0 h₁ := W.frame _ _ _ hst fun b _ o e => old b o e
  have hL₂ : L < D := hD ▸ F.ns.lt
  have F₁ : Fr h₀ L h₁ m₀ := F.keeps old
  have h0D : ∀ b o, h₀.get? b = some o → b < D := fun b o e => lo b o (F.keep b o e)
  have hDnone : h₀.get? D = none := by
    cases q : h₀.get? D with
    | none => rfl
    | some o => exact absurd (h0D D o q) (Nat.lt_irrefl _)
  have hCnone : h₀.get? C = none := by
    cases q : h₀.get? C with
    | none => rfl
    | some o => exact absurd (Nat.lt_trans (h0D C o q) hDC) (Nat.lt_irrefl _)
  have N₁ : News h₀ L h₁ ((D, listOf ([] : List Value).toArray 0) :: news₀) := by
    intro p hp
    rcases List.mem_cons.mp hp with rfl | hp
    · exact ⟨eD, Nat.ne_of_gt hL₂, hDnone⟩
    · exact ⟨old _ _ (N p hp).1, (N p hp).2⟩
  have hn₀ : ∀ p ∈ news₀, p.1 ≠ I ∧ p.1 ≠ C ∧ p.1 ≠ D := fun p hp => ⟨hnI p hp, below _ (lo _ _ (N p hp).1)⟩
  have hCw : C ∉ fp := fun hm => Nat.lt_irrefl _ (hfpD _ hm).2
  have hDw : D ∉ fp := fun hm => Nat.lt_irrefl _ (hfpD _ hm).1
  have hLC : L ≠ C := Nat.ne_of_lt (Nat.lt_trans hL₂ hDC)
  have hLD : L ≠ D := Nat.ne_of_lt hL₂
  have hIC : I ≠ C := Nat.ne_of_lt (hfpD _ hIf).2
  have hID : I ≠ D := Nat.ne_of_lt (hfpD _ hIf).1
  have loop : ∀ s₃ : Shared, s₃ = { s₂ with heap := h₁, toks := s₂.toks + ([] : List (Str × Value)).length } →
      codeAny (model prog w) A (.compLoop (.ListComp elt [⟨.Name x px, iter, ifs, 0⟩] scope pos) 0 (.ref I) (.ref D) (compEnvC scope cl C env)) (RR (.ref D) C) s₃ := by
    rintro s₃ rfl
    refine codeAny_compLoop_tests (fun k s' => ∃ h' tk ys news' i ep mC, s' = { s₂ with heap := h', toks := tk } ∧ St i h' ∧ h'.Ns C mC ∧ Fr h₀ L h' m₀ ∧ News h₀ L h' ((D, listOf ys.toArray ep) :: news') ∧ (∀ p ∈ news', p.1 ≠ I ∧ p.1 ≠ C ∧ p.1 ≠ D) ∧ J i ys news' ∧ ys.length ≤ i ∧ i ≤ n ∧ k = n + 1 - i) ?_ (n + 1)
      ⟨h₁, _, [], news₀, 0, 0, _, rfl, hst₁, hns₁, F₁, N₁, hn₀, hJ, Nat.le_refl _, Nat.zero_le _, rfl⟩
    rintro k s' ⟨h', tk, ys, news', i, ep, mC, rfl, hst', hns', F', N', hn', hJ', hyl, hi, rfl⟩
    by_cases hlt : i < n
    · refine W.item i _ _ _ hlt hst' fun v h₂ tk₂ hP hst₂ hk₂ => ?_
      have hk₂' : ∀ b o, b ≠ I → h'.get? b = some o → h₂.get? b = some o := fun b o hb e => hk₂ b o (fun q => hb (List.mem_singleton.mp q)) e
      have hns₂ : h₂.Ns C mC := hns'.at' fun o e => hk₂' _ o (Ne.symm hIC) e
      refine wpAny_assign_Name (wpAny_storeName_local (lookup_relabel_local hx) hns₂ (fun h₃ hn₃ hs₃ => ?_) (by simp [compEnvC, relabel, hkind]))
      obtain ⟨oC, eC, hoC⟩ := ns_obj hn₃
      have up : ∀ b o, b ≠ I → b ≠ C → h'.get? b = some o → h₃.get? b = some o := fun b o h1 h2 e => hs₃.extBut b o h2 (hk₂' b o h1 e)
      have hI₀ : ∀ b o, h₀.get? b = some o → b ≠ I := fun b o e q => by rw [q, hI0] at e; cases e
      have hC₀ : ∀ b o, h₀.get? b = some o → b ≠ C := fun b o e q => by rw [q, hCnone] at e; cases e
      have hLI : L ≠ I := fun q => hLf (q ▸ hIf)
      have F₃ : Fr h₀ L h₃ m₀ := fr_back F' (fun o e => up _ o hLI hLC e) fun b o e => up b o (hI₀ b o e) (hC₀ b o e) (F'.keep b o e)
      have hst₃ : St (i + 1) h₃ := W.frame _ _ _ hst₂ fun b hb o e => hs₃.extBut b o (fun q => hCw ((show b = C from q) ▸ hb)) e
      have hown : ∀ p ∈ ownOf h₀ fp h₃, p.1 ∈ fp := ownOf_sub
      have N₃ : News h₀ L h₃ ((C, oC) :: (D, listOf ys.toArray ep) :: (ownOf h₀ fp h₃ ++ news')) := by
        intro p hp
        rcases List.mem_cons.mp hp with rfl | hp
        · exact ⟨eC, Ne.symm hLC, hCnone⟩
        · rcases List.mem_cons.mp hp with rfl | hp
          · have z := N' _ (.head _)
            exact ⟨up _ _ (Ne.symm hID) (Nat.ne_of_lt hDC) z.1, z.2⟩
          · rcases List.mem_append.mp hp with hp | hp
            · exact news_ownOf hLf p hp
            · have z := N' p (.tail _ hp)
              exact ⟨up _ _ (hn' p hp).1 (hn' p hp).2.1 z.1, z.2⟩
      have stEnd : ∀ h₄ news₄ oD', Fr h₀ L h₄ m₀ → News h₀ L h₄ ((C, oC) :: (D, oD') :: (ownOf h₀ fp h₃ ++ news₄)) → St (i + 1) h₄ := by
        intro h₄ news₄ oD' F₄ N₄
        refine W.frame _ _ _ hst₃ fun b hb o e => ?_
        cases hq : h₀.get? b with
        | some o₀ =>
          have z := F₃.keep b o₀ hq
          rw [e] at z; cases z
          exact F₄.keep b o hq
        | none => exact (N₄ _ (.tail _ (.tail _ (List.mem_append_left _ (mem_ownOf hb hq e))))).1
      refine wpAny_mono (turn i v ys news' h₃ _ (ownOf h₀ fp h₃) C oC D ep _ hlt hyl hP hJ' hoC (by simp) hown hn' hfpD hDC F₃ N₃) (fun ok s₃ z => ?_) fun _ _ q => q.elim
      cases ok with
      | false =>
        simp only [Bool.false_eq_true, if_false] at z ⊢
        obtain ⟨h₄, tk₄, news₄, rfl, F₄, N₄, hn₄, hJ₄⟩ := z
        refine ⟨n + 1 - (i + 1), by omega, h₄, tk₄, ys, news₄, i + 1, ep, _, rfl, stEnd h₄ news₄ _ F₄ N₄, hoC.ns (N₄ _ (.head _)).1, F₄, fun p hp => ?_, hn₄, hJ₄, by omega, hlt, rfl⟩
        rcases List.mem_cons.mp hp with rfl | hp
        · exact N₄ _ (.tail _ (.head _))
        · exact N₄ _ (.tail _ (.tail _ (List.mem_append_right _ hp)))
      | true =>
        simp only [if_true] at z ⊢
        refine wpAny_mono z (fun y s₄ q => ?_) fun _ _ q => q.elim
        obtain ⟨h₄, tk₄, news₄, rfl, F₄, N₄, hn₄, hJ₄⟩ := q
        refine append_K F₄ N₄ (x := y) (Upd.tail (Nat.ne_of_gt hDC) (Upd.head (fun p hp => ?_))) (fun h₅ F₅ N₅ => ?_) ?_
        · rcases List.mem_append.mp hp with hp | hp
          · exact Nat.ne_of_lt (hfpD _ (hown p hp)).1
          · exact (hn₄ p hp).2.2
        · refine ⟨n + 1 - (i + 1), by omega, h₅, _, ys ++ [y], news₄, i + 1, ep + 1, _, rfl, stEnd h₅ news₄ _ F₅ N₅, hoC.ns (N₅ _ (.head _)).1, F₅, fun p hp => ?_, hn₄, hJ₄, by rw [List.length_append, List.length_singleton]; omega, hlt, rfl⟩
          rcases List.mem_cons.mp hp with rfl | hp
          · have z := N₅ _ (.tail _ (.head _))
            rw [List.push_toArray] at z
            exact z
          · exact N₅ p (.tail _ (.tail _ (List.mem_append_right _ hp)))
        · rw [sizeLine_eq, List.size_toArray]; omega
    · have hin : i = n := by omega
      subst hin
      refine W.done _ _ _ hst' fun h₂ tk₂ hk₂ => ?_
      have hk₂' : ∀ b o, b ≠ I → h'.get? b = some o → h₂.get? b = some o := fun b o hb e => hk₂ b o (fun q => hb (List.mem_singleton.mp q)) e
      have hLI : L ≠ I := fun q => hLf (q ▸ hIf)
      refine hRR C D h₂ tk₂ ep ys news' mC hJ' (hns'.at' fun o e => hk₂' _ o (Ne.symm hIC) e) (fr_back F' (fun o e => hk₂' _ o hLI e) fun b o e => hk₂' b o (fun q => by rw [q, hI0] at e; cases e) (F'.keep b o e)) (fun p hp => ?_) (fun p hp => ⟨(hn' p hp).2.2, (hn' p hp).2.1⟩) hDC hLC hyl (fun b hb q => hb (q ▸ hCnone))
      rcases List.mem_cons.mp hp with rfl | hp
      · exact ⟨hk₂' _ _ (Ne.symm hID) (N' _ (.head _)).1, (N' _ (.head _)).2⟩
      · exact ⟨hk₂' _ _ (hn' p hp).1 (N' p (.tail _ hp)).1, (N' p (.tail _ hp)).2⟩
  exact codeAny_compStart_list (loop _ rfl) (W.self 0 _ _ _ hst₁ (loop _ rfl))
end
end
section
open PySem PySem.W PySem.Calls PyProof.Rows
set_option maxRecDepth 100000
set_option maxHeartbeats 4000000

section
variable {prog : Program} {w : World} {A : Around} {E : Value → Shared → Prop} {env : Env} {h₀ : Heap} {L : Addr} {s : Shared}

/-- what a turn of a comprehension has to show -/
noncomputable def CompTurn (prog : Program) (w : World) (A : Around) (env : Env) (h₀ : Heap) (L : Addr) (scope : Scope) (cl : List (Str × Addr)) (x : Str) (ifs : List PySem.Expr) (elt : PySem.Expr) (I : Addr) (fp : List Addr) (n : Nat) (P : Nat → Value → Prop)
    (m₀ : Str → Option Value) (J : Nat → List Value → List (Addr × Obj) → Prop) (s₂ : Shared) : Prop :=
  ∀ i v ys news₁ h tk own C oC D ep mC, i < n → ys.length ≤ i → P i v → J i ys news₁ → NsObj oC mC → mC x = some v → (∀ p ∈ own, p.1 ∈ fp) → (∀ p ∈ news₁, p.1 ≠ I ∧ p.1 ≠ C ∧ p.1 ≠ D) → (∀ b ∈ fp, b < D ∧ b < C) → D < C →
      Fr h₀ L h m₀ → News h₀ L h ((C, oC) :: (D, listOf ys.toArray ep) :: (own ++ news₁)) →
      wpAny (model prog w) A (forIn ifs true fun c r => if r = true then do let ok ← isTrue c (compEnvC scope cl C env) (eval c (compEnvC scope cl C env)); pure (ForInStep.yield ok) else pure (ForInStep.yield r))
        (fun ok s₃ => if ok = true then wpAny (model prog w) A (eval elt (compEnvC scope cl C env)) (fun y s₄ => CompEnd h₀ L m₀ (J (i + 1) (ys ++ [y])) I C D oC (listOf ys.toArray ep) own s₂ s₄) (fun _ _ => False) s₃
          else CompEnd h₀ L m₀ (J (i + 1) ys) I C D oC (listOf ys.toArray ep) own s₂ s₃) (fun _ _ => False) { s₂ with heap := h, toks := tk }

noncomputable def CompAt (prog : Program) (w : World) (A : Around) (env : Env) (h₀ : Heap) (L : Addr) (scope : Scope) (cl : List (Str × Addr)) (x : Str) (ifs : List PySem.Expr) (elt : PySem.Expr) (Q : Value → Shared → Prop) (it : Value) (s₂ : Shared) : Prop :=
  ∃ (I : Addr) (fp : List Addr) (n : Nat) (P : Nat → Value → Prop) (St : Nat → Heap → Prop) (m₀ : Str → Option Value) (news₀ : List (Addr × Obj)) (J : Nat → List Value → List (Addr × Obj) → Prop),
    it = .ref I ∧ Walks prog w A I fp [I] n P St ∧ n ≤ 1000 ∧ I ∈ fp ∧ (∀ b ∈ fp, b < s₂.heap.objs.size) ∧ L ∉ fp ∧ h₀.get? I = none ∧ (∀ p ∈ news₀, p.1 ≠ I) ∧ St 0 s₂.heap ∧ Fr h₀ L s₂.heap m₀ ∧ News h₀ L s₂.heap news₀ ∧ J 0 [] news₀ ∧
    CompTurn prog w A env h₀ L scope cl x ifs elt I fp n P m₀ J s₂ ∧
    (∀ D h' tk ep ys news', J n ys news' → Fr h₀ L h' m₀ → News h₀ L h' ((D, listOf ys.toArray ep) :: news') → (∀ p ∈ news', p.1 ≠ D) → ys.length ≤ n → Q (.ref D) { s₂ with heap := h', toks := tk })

theorem comp_eval {elt iter : PySem.Expr} {x : Str} {px : Pos} {ifs : List PySem.Expr} {scope : Scope} {cl : List (Str × Addr)} {pos : Pos} {Q : Value → Shared → Prop}
    (hclos : closureFor scope env = pure cl) (hkind : scope.kind = .function) (hnames : ∀ x ∈ scope.names, x.2 = .local → scope.names.lookup x.1 = some .local)
    (hcell : ∀ y ∈ scope.names, y.2 ≠ .cell) (hx : scope.names.lookup x = some .local)
    (h : wpAny (model prog w) A (eval iter env) (fun xv s₁ => wpAny (model prog w) A (pyIter xv) (CompAt prog w A env h₀ L scope cl x ifs elt Q) E s₁) E s)
    (hs : ∀ x, foldedSetIterable iter env x = pure x := by intro _; rfl) :
    wpAny (model prog w) A (eval (.ListComp elt [⟨.Name x px, iter, ifs, 0⟩] scope pos) env) Q E s := by
  rw [eval_ListComp]
  refine wpAny_comprehension_free (g := ⟨.Name x px, iter, ifs, 0⟩) (gs := []) (cl := cl) rfl hs hclos hkind hnames ?_
  refine wpAny_mono h (fun xv s₁ h₁ => wpAny_mono h₁ (fun it s₂ h₂ => ?_) fun _ _ e => e) fun _ _ e => e
  obtain ⟨I, fp, n, P, St, m₀, news₀, J, rfl, W, hsz, hIf, hfp, hLf, hI0, hnI, hst, F, N, hJ, turn, done⟩ := h₂
  refine comp_core J W hsz hIf hfp hcell hkind hx hLf hI0 hnI hst F N hJ turn ?_
  intro C D h' tk ep ys news' mC hJn hns F' N' hne hDC hLC hyl h0C
  refine ⟨mC, hns, fun h₅ hs₅ => ?_⟩
  refine done D h₅ tk ep ys news' hJn (fr_back F' (fun o e => hs₅.extBut _ o hLC e) fun b o e => hs₅.extBut b o (h0C b (by rw [e]; simp)) (F'.keep b o e)) (fun p hp => ?_) (fun p hp => (hne p hp).1) hyl
  have z := N' p hp
  refine ⟨hs₅.extBut _ _ ?_ z.1, z.2⟩
  rcases List.mem_cons.mp hp with rfl | hp
  · exact Nat.ne_of_lt hDC
  · exact (hne p hp).2

theorem compAt_list {elt : PySem.Expr} {x : Str} {ifs : List PySem.Expr} {scope : Scope} {cl : List (Str × Addr)} {m₀ : Str → Option Value} {Q : Value → Shared → Prop} {l : Addr} {its : Array Value} {news₀ : List (Addr × Obj)} (J : Nat → List Value → List (Addr × Obj) → Prop)
    (hh : A.handled = none) (hl : s.heap.IsList l its) (hlL : l ≠ L) (hsz : its.size ≤ 1000) (F : Fr h₀ L s.heap m₀) (N : News h₀ L s.heap news₀) (hJ : J 0 [] news₀)
    (turn : ∀ I, I ≠ l → CompTurn prog w A env h₀ L scope cl x ifs elt I [I, l] its.size (fun i v => its[i]? = some v) m₀ J s)
    (done : ∀ D h' tk ep ys news', J its.size ys news' → Fr h₀ L h' m₀ → News h₀ L h' ((D, listOf ys.toArray ep) :: news') → (∀ p ∈ news', p.1 ≠ D) → ys.length ≤ its.size → Q (.ref D) { s with heap := h', toks := tk }) :
    wpAny (model prog w) A (pyIter (.ref l)) (CompAt prog w A env h₀ L scope cl x ifs elt Q) E s := by
  refine wpAny_pyIter_list hl ?_
  obtain ⟨ol, hol, _⟩ := id hl
  have hlt : l < s.heap.objs.size := Heap.lt_size hol
  have hne : l ≠ s.heap.objs.size := Nat.ne_of_lt hlt
  refine ⟨s.heap.objs.size, _, its.size, _, _, m₀, news₀, J, rfl, Walks.list hh s.heap.objs.size l hne its, hsz, .head _, ?_, ?_, next_is_new F, (fun p hp e => absurd (Heap.lt_size (N p hp).1) (e ▸ Nat.lt_irrefl _)), ⟨⟨_, Heap.get?_push_size _ rfl, rfl, rfl⟩, hl.at fun o e => Heap.get?_push_of_some _ e⟩, F.push _, (fun p hp => ⟨Heap.get?_push_of_some _ (N p hp).1, (N p hp).2⟩), hJ, turn _ (Ne.symm hne), done⟩
  · intro b hb
    show b < (s.heap.push _).objs.size
    rw [Heap.size_push]
    rcases List.mem_cons.mp hb with rfl | hb
    · exact Nat.lt_succ_self _
    · rw [List.mem_singleton.mp hb]; exact Nat.lt_succ_of_lt hlt
  · intro hm
    rcases List.mem_cons.mp hm with e | hm
    · exact absurd F.ns.lt (e ▸ Nat.lt_irrefl _)
    · exact hlL (List.mem_singleton.mp hm).symm

theorem compAt_keys {K : Type} [DecidableEq K] {knd : KeyKind prog w K} {elt : PySem.Expr} {x : Str} {ifs : List PySem.Expr} {scope : Scope} {cl : List (Str × Addr)} {m₀ : Str → Option Value} {Q : Value → Shared → Prop} {d : Addr} {kvs : List (K × Value)} {news₀ : List (Addr × Obj)} (J : Nat → List Value → List (Addr × Obj) → Prop)
    (hh : A.handled = none) (hd : s.heap.DictOf knd d kvs) (hds : (d == sysModules) = false) (hdL : d ≠ L) (hsz : kvs.length ≤ 1000) (F : Fr h₀ L s.heap m₀) (N : News h₀ L s.heap news₀) (hJ : J 0 [] news₀)
    (turn : ∀ I, I ≠ d → CompTurn prog w A env h₀ L scope cl x ifs elt I [I, d] kvs.length (fun i v => ∃ k x, kvs[i]? = some (k, x) ∧ knd.is k v = true) m₀ J s)
    (done : ∀ D h' tk ep ys news', J kvs.length ys news' → Fr h₀ L h' m₀ → News h₀ L h' ((D, listOf ys.toArray ep) :: news') → (∀ p ∈ news', p.1 ≠ D) → ys.length ≤ kvs.length → Q (.ref D) { s with heap := h', toks := tk }) :
    wpAny (model prog w) A (pyIter (.ref d)) (CompAt prog w A env h₀ L scope cl x ifs elt Q) E s := by
  obtain ⟨ep, hda⟩ : ∃ ep, s.heap.DictAt knd d kvs ep := by
    obtain ⟨o, es, ep, ho, r⟩ := hd
    exact ⟨ep, o, es, ho, r⟩
  refine wpAny_pyIter_dict hds hda ?_
  obtain ⟨od, _, hod, _⟩ := id hda
  have hlt : d < s.heap.objs.size := Heap.lt_size hod
  have hne : d ≠ s.heap.objs.size := Nat.ne_of_lt hlt
  refine ⟨s.heap.objs.size, _, kvs.length, _, _, m₀, news₀, J, rfl, Walks.dictKeys hh s.heap.objs.size d hne kvs ep, hsz, .head _, ?_, ?_, next_is_new F, (fun p hp e => absurd (Heap.lt_size (N p hp).1) (e ▸ Nat.lt_irrefl _)), ⟨⟨_, Heap.get?_push_size _ rfl, rfl, rfl⟩, hda.at' fun o e => Heap.get?_push_of_some _ e⟩, F.push _, (fun p hp => ⟨Heap.get?_push_of_some _ (N p hp).1, (N p hp).2⟩), hJ, turn _ (Ne.symm hne), done⟩
  · intro b hb
    show b < (s.heap.push _).objs.size
    rw [Heap.size_push]
    rcases List.mem_cons.mp hb with rfl | hb
    · exact Nat.lt_succ_self _
    · rw [List.mem_singleton.mp hb]; exact Nat.lt_succ_of_lt hlt
  · intro hm
    rcases List.mem_cons.mp hm with e | hm
    · exact absurd F.ns.lt (e ▸ Nat.lt_irrefl _)
    · exact hdL (List.mem_singleton.mp hm).symm
end
end
section
open PySem PySem.W PySem.Calls PyProof.Rows
set_option maxRecDepth 100000
set_option maxHeartbeats 4000000

section
variable {M : Model} {A : Around} {E : Value → Shared → Prop} {s : Shared} {h₀ : Heap} {L C c : Addr} {m mg mb : Str → Option Value} {news : List (Addr × Obj)} {oC o : Obj} {mC : Str → Option Value} {scope : Scope} {cl : List (Str × Addr)} {env : Env} {x : Str} {pos : Pos} {v : Value} {Q : Value → Shared → Prop} {K : Frag} {p : Program} {loose : List Str}
theorem nameC_L (N : News h₀ L s.heap news) (hm : (C, oC) ∈ news) (ho : NsObj oC mC) (hv : mC x = some v) (h : Q v s) (hk : (compEnvC scope cl C env).scope.kind = .function) (hx : (compEnvC scope cl C env).kindOf x = some .local) (hd : (x == ("__debug__" : Str)) = false) :
    wpAny M A (eval (.Name x pos) (compEnvC scope cl C env)) Q E s := wpAny_Name (wpAny_loadName_local (env := compEnvC scope cl C env) hk hx (ho.ns (N.get hm)) hv h) hd
theorem nameC_C (N : News h₀ L s.heap news) (hc : cl.lookup x = some c) (hm : (c, o) ∈ news) (ho : o.data = .cell (some v)) (h : Q v s) (hk : (compEnvC scope cl C env).scope.kind = .function) (hx : (compEnvC scope cl C env).kindOf x = some .cell) (hd : (x == ("__debug__" : Str)) = false) :
    wpAny M A (eval (.Name x pos) (compEnvC scope cl C env)) Q E s := wpAny_Name (wpAny_loadName_cell (env := compEnvC scope cl C env) hk hx hc ⟨o, N.get hm, ho⟩ h) hd
theorem nameC_K (F : Fr h₀ L s.heap m) (X : K.In h₀) (T : TopRead p loose mg mb h₀) (e : nsIn K mainGlobals x = some (some v)) (h : Q v s) (hg : (compEnvC scope cl C env).globals = mainGlobals) (hk : (compEnvC scope cl C env).scope.kind = .function) (hx : (compEnvC scope cl C env).kindOf x = some .globalImplicit) (hd : (x == ("__debug__" : Str)) = false) :
    wpAny M A (eval (.Name x pos) (compEnvC scope cl C env)) Q E s := Name_function_global hk hx (loadGlobal_global (env := compEnvC scope cl C env) (by rw [hg]; exact T.g.keeps F.keep) (mg_of X T.g e) h) hd
theorem nameC_B (F : Fr h₀ L s.heap m) (X : K.In h₀) (T : TopRead p loose mg mb h₀) (e : nsIn K mainGlobals x = some none) (hv : bootBuiltins x = some v) (hn : x ≠ "__name__") (h : Q v s) (hg : (compEnvC scope cl C env).globals = mainGlobals) (hb : (compEnvC scope cl C env).builtins = builtinsNs) (hk : (compEnvC scope cl C env).scope.kind = .function) (hx : (compEnvC scope cl C env).kindOf x = some .globalImplicit) (hd : (x == ("__debug__" : Str)) = false) :
    wpAny M A (eval (.Name x pos) (compEnvC scope cl C env)) Q E s :=
  Name_function_global hk hx (loadGlobal_builtin (env := compEnvC scope cl C env) (by rw [hg]; exact T.g.keeps F.keep) (mg_none_of X T.g e) (by rw [hb]; exact T.b.keeps F.keep) ((T.builtins x hn).trans hv) h) hd
end

/-- two lists, place by place -/
inductive Al {α β : Type} (R : α → β → Prop) : List α → List β → Prop
  | nil : Al R [] []
  | cons {a b l r} : R a b → Al R l r → Al R (a :: l) (b :: r)
namespace Al
variable {α β : Type} {R R' : α → β → Prop}
theorem length {l : List α} {r : List β} (x : Al R l r) : l.length = r.length := by
  induction x with
  | nil => rfl
  | cons _ _ ih => rw [List.length_cons, List.length_cons, ih]
theorem mono {l : List α} {r : List β} (x : Al R l r) (h : ∀ a b, R a b → R' a b) : Al R' l r := by
  induction x with
  | nil => exact .nil
  | cons a _ ih => exact .cons (h _ _ a) ih
theorem append {l l' : List α} {r r' : List β} (x : Al R l r) (y : Al R l' r') : Al R (l ++ l') (r ++ r') := by
  induction x with
  | nil => exact y
  | cons a _ ih => exact .cons a ih
theorem get {l : List α} {r : List β} (x : Al R l r) : ∀ {i : Nat} {a : α}, l[i]? = some a → ∃ b, r[i]? = some b ∧ R a b := by
  induction x with
  | nil => intro i a h; cases h
  | cons h _ ih =>
    intro i a e
    cases i with
    | zero => cases e; exact ⟨_, rfl, h⟩
    | succ i => exact ih e
theorem get' {l : List α} {r : List β} (x : Al R l r) : ∀ {i : Nat} {b : β}, r[i]? = some b → ∃ a, l[i]? = some a ∧ R a b := by
  induction x with
  | nil => intro i a h; cases h
  | cons h _ ih =>
    intro i a e
    cases i with
    | zero => cases e; exact ⟨_, rfl, h⟩
    | succ i => exact ih e
theorem snoc {l : List α} {r : List β} {a : α} {b : β} (x : Al R l r) (h : R a b) : Al R (l ++ [a]) (r ++ [b]) := x.append (.cons h .nil)
end Al

noncomputable abbrev Has := Addr → Obj → Prop
noncomputable abbrev inL (l : List (Addr × Obj)) : Has := fun a o => (a, o) ∈ l
noncomputable abbrev inH (h : Heap) : Has := fun a o => h.get? a = some o
noncomputable def Has.le (R R' : Has) : Prop := ∀ a o, R a o → R' a o
noncomputable abbrev tupOf (vs : List Value) : Obj := { cls := .type "tuple", data := .seq vs.toArray }
noncomputable abbrev T3 := Str × Int × Int

/-- a row: a tuple of a way and two numbers -/
noncomputable def RowAt (R : Has) (v : Value) (r : T3) : Prop := ∃ a t0 t1 t2, v = .ref a ∧ R a (tupOf [.str r.1 t0, .int r.2.1 t1, .int r.2.2 t2])
theorem RowAt.le {R R' : Has} {v : Value} {r : T3} (x : RowAt R v r) (h : R.le R') : RowAt R' v r := let ⟨a, t0, t1, t2, e, z⟩ := x; ⟨a, t0, t1, t2, e, h _ _ z⟩
/-- an entry's dict -/
noncomputable abbrev entD (w : World) (r : T3) (k0 k1 k2 t0 t1 t2 : Tok) : Obj := dictOf [⟨PyData.keyHash w.params "way", .str "way" k0, .str r.1 t0⟩, ⟨PyData.keyHash w.params "one", .str "one" k1, .int r.2.1 t1⟩, ⟨PyData.keyHash w.params "two", .str "two" k2, .int r.2.2 t2⟩] 3
/-- an entry: an object of the text's class -/
noncomputable def EntAt (w : World) (R : Has) (v : Value) (r : T3) : Prop := ∃ a dx k0 k1 k2 t0 t1 t2, v = .ref a ∧ R a (instObj 78 dx) ∧ R dx (entD w r k0 k1 k2 t0 t1 t2)
theorem EntAt.le {w : World} {R R' : Has} {v : Value} {r : T3} (x : EntAt w R v r) (h : R.le R') : EntAt w R' v r := let ⟨a, dx, k0, k1, k2, t0, t1, t2, e, z, z'⟩ := x; ⟨a, dx, k0, k1, k2, t0, t1, t2, e, h _ _ z, h _ _ z'⟩
noncomputable def IntAt (v : Value) (r : Int) : Prop := ∃ t, v = .int r t

/-- a dict keyed by ints, its values told by V -/
noncomputable def DictAt' {β : Type} (w : World) (V : Value → β → Prop) (R : Has) (d : Addr) (tbl : List (Int × β)) : Prop :=
  ∃ o kvs, R d o ∧ o.IsDictOf (intKind PR w) kvs ∧ (d == sysModules) = false ∧ Al (fun kv r => kv.1 = r.1 ∧ V kv.2 r.2) kvs tbl
theorem DictAt'.le {β : Type} {w : World} {V V' : Value → β → Prop} {R R' : Has} {d : Addr} {tbl : List (Int × β)} (x : DictAt' w V R d tbl) (h : R.le R') (hV : ∀ v r, V v r → V' v r) : DictAt' w V' R' d tbl :=
  let ⟨o, kvs, a, b, c, e⟩ := x; ⟨o, kvs, h _ _ a, b, c, e.mono fun _ _ z => ⟨z.1, hV _ _ z.2⟩⟩

section
variable {β : Type}
noncomputable def gAt (t : List (Int × β)) (k : Int) : Option β := (t.find? fun p => p.1 = k).map (·.2)
noncomputable def gPut (t : List (Int × β)) (k : Int) (v : β) : List (Int × β) := if t.any (fun p => p.1 = k) then t.map (fun p => if p.1 = k then (p.1, v) else p) else t ++ [(k, v)]
noncomputable def gDel (t : List (Int × β)) (k : Int) : List (Int × β) := t.filter fun p => decide (p.1 ≠ k)
variable {V : Value → β → Prop} {kvs : List (Int × Value)} {t : List (Int × β)}
theorem al_at (x : Al (fun kv r => kv.1 = r.1 ∧ V kv.2 r.2) kvs t) (k : Int) : (gAt t k = none → valueAt kvs k = none) ∧ (∀ r, gAt t k = some r → ∃ v, valueAt kvs k = some v ∧ V v r) := by
  induction x with
  | nil => exact ⟨fun _ => rfl, fun r h => by cases h⟩
  | @cons a b l r h _ ih =>
    unfold gAt valueAt at *
    rw [List.find?_cons, List.find?_cons, h.1]
    by_cases e : b.1 = k
    · simp only [e, decide_true]
      refine ⟨fun h' => by simp at h', fun r' h' => ⟨a.2, rfl, ?_⟩⟩
      simp at h'
      exact h' ▸ h.2
    · simp only [e, decide_false]
      exact ih
theorem al_any (x : Al (fun kv r => kv.1 = r.1 ∧ V kv.2 r.2) kvs t) (k : Int) : kvs.any (fun p => decide (p.1 = k)) = t.any (fun p => decide (p.1 = k)) := by
  induction x with
  | nil => rfl
  | cons h _ ih => rw [List.any_cons, List.any_cons, h.1, ih]
theorem al_put (x : Al (fun kv r => kv.1 = r.1 ∧ V kv.2 r.2) kvs t) (k : Int) {v : Value} {r : β} (hv : V v r) : Al (fun kv r => kv.1 = r.1 ∧ V kv.2 r.2) (stored kvs k v) (gPut t k r) := by
  unfold stored gPut
  rw [al_any x k]
  split
  · induction x with
    | nil => exact .nil
    | @cons a b l r' h _ ih =>
      rename_i hany
      have tl : ∀ {l r'}, Al (fun kv r => kv.1 = r.1 ∧ V kv.2 r.2) l r' → Al (fun kv r => kv.1 = r.1 ∧ V kv.2 r.2) (l.map fun kv => if kv.1 = k then (kv.1, v) else kv) (r'.map fun p => if p.1 = k then (p.1, r) else p) := by
        intro l r' y
        induction y with
        | nil => exact .nil
        | cons h' _ ih' =>
          refine .cons ?_ ih'
          dsimp only
          rw [h'.1]
          split
          · exact ⟨rfl, hv⟩
          · exact ⟨h'.1, h'.2⟩
      exact tl (.cons h (by assumption))
  · exact x.snoc ⟨rfl, hv⟩
theorem al_del (x : Al (fun kv r => kv.1 = r.1 ∧ V kv.2 r.2) kvs t) (k : Int) : Al (fun kv r => kv.1 = r.1 ∧ V kv.2 r.2) (without kvs k) (gDel t k) := by
  unfold without gDel
  induction x with
  | nil => exact .nil
  | @cons a b l r' h _ ih =>
    rw [List.filter_cons, List.filter_cons, h.1]
    split
    · exact .cons h ih
    · exact ih
theorem al_keys (x : Al (fun kv r => kv.1 = r.1 ∧ V kv.2 r.2) kvs t) : kvs.map (·.1) = t.map (·.1) := by
  induction x with
  | nil => rfl
  | cons h _ ih => rw [List.map_cons, List.map_cons, h.1, ih]
theorem gPut_length (t : List (Int × β)) (k : Int) (v : β) : (gPut t k v).length ≤ t.length + 1 := by
  unfold gPut
  split
  · rw [List.length_map]; omega
  · rw [List.length_append, List.length_singleton]; omega
end
theorem dictOf_nodup {w : World} {o : Obj} {kvs : List (Int × Value)} (x : o.IsDictOf (intKind PR w) kvs) : (kvs.map (·.1)).Nodup := let ⟨_, _, _, _, _, _, h⟩ := x; h
end
section
open PySem PySem.W PySem.Calls PyProof.Rows
set_option maxRecDepth 100000
set_option maxHeartbeats 4000000

theorem miss_list_keys : typeLookup (.type "list") "keys" = pure none := am_miss_of_fast (by decide +kernel)
section
variable {prog : Program} {w : World} {A : Around} {E : Value → Shared → Prop} {s : Shared}
theorem getAttrQ_miss_list {a : Addr} {o : Obj} {xs : Array Value} {k : Nat} {name : Str} {Q : Option Value → Shared → Prop}
    (hx : s.heap.get? a = some o) (hc : o.cls = .type "list") (hdat : o.data = .seq xs k) (hd : o.dict = none) (hmiss : typeLookup (.type "list") name = pure none) (hname : (["__module__", "__name__", "__qualname__", "__doc__", "__annotations__"] : List Str).contains name = false) (hA : A.handled = none)
    (h : ∀ h' tk, (∀ b o, s.heap.get? b = some o → h'.get? b = some o) → Q none { s with heap := h', toks := tk }) (hsz : name.length + 100 ≤ sizeLine) :
    wpAny (model prog w) A (getAttr? (.ref a) name) Q E s := by
  obtain ⟨c, dct, dat, sl⟩ := o
  simp only at hc hdat hd
  subst hc hdat hd
  obtain ⟨hp, g, d, tk, os⟩ := s
  have hT : ∀ tk', (⟨hp, g, d, tk', os⟩ : Shared).TypeIs (.ref a) "list" := fun _ => ⟨_, hx, rfl⟩
  have f1 := sub_AttributeError
  have f3 := F.slot_list_getattribute.lookup
  have f4 := F.slot_list_getattribute.bind (.ref a)
  have f5 := am_list_getattr_none
  unfold getAttr? getAttrBy? getAttrBy
  repeat (any_goals (first | assumption | exact hT _ | ((with_reducible show wpAny _ _ (call (Value.builtin "list.__getattribute__") _ _) _ _ _); refine call_meets F.slot_list_getattribute (hT _) am_entry_list_getattribute (F.args_list_getattribute_2 _ _) (meets_getattribute_miss_list a xs k sl name _ hmiss hname hsz) ⟨hx, hA, fun h' tk' e hx' => ?_⟩) | wp_step))
  obtain ⟨t', u', he⟩ := hx'.there
  show wpAny _ _ (getattributeRaised _ _ _ _ _ _ _) _ _ _
  unfold getattributeRaised
  repeat (any_goals (first | assumption | wp_step))
  all_goals exact h _ _ hx'.of.keeps
end
end
section
open PySem PySem.W PySem.Calls PyProof.Rows
set_option maxRecDepth 100000
set_option maxHeartbeats 4000000

theorem entry_dict_update_loop : entryFor table "dict.update.loop" = some Builtin.«dict.update.loop» := entryFor_of_tree (by kernel_rfl)
theorem plain_dict_update_loop : plainId "dict.update.loop" = true := by decide +kernel

section
variable {prog : Program} {w : World} {A : Around} {E : Value → Shared → Prop} {s : Shared} {K : Type} [DecidableEq K] {knd : KeyKind prog w K}

/-- a list's item that is a pair -/
noncomputable def PairIn (knd : KeyKind prog w K) (h : Heap) (v : Value) (p : K × Value) : Prop := ∃ a key, v = .ref a ∧ h.get? a = some (tupOf [key, p.2]) ∧ knd.is p.1 key = true
theorem PairIn.keep {h h' : Heap} {v : Value} {p : K × Value} (x : PairIn knd h v p) (d I : Addr) (od oI : Obj) (hd : h.get? d = some od) (hI : h.get? I = some oI) (hdc : od.cls ≠ .type "tuple") (hIc : oI.cls ≠ .type "tuple")
    (k : ∀ b o, b ≠ d → b ≠ I → h.get? b = some o → h'.get? b = some o) : PairIn knd h' v p := by
  obtain ⟨a, key, e, ha, hk⟩ := x
  refine ⟨a, key, e, k _ _ ?_ ?_ ha, hk⟩
  · rintro rfl; rw [hd] at ha; cases ha; exact hdc rfl
  · rintro rfl; rw [hI] at ha; cases ha; exact hIc rfl

theorem dict_loop (hh : A.handled = none) {d I l : Addr} {its : Array Value} (hdI : d ≠ I) (hld : l ≠ d) (hlI : l ≠ I) {R : Result → Shared → Prop} :
    ∀ (n i : Nat) (s : Shared) (kvs pairs : List (K × Value)) (t : Tok), its.size = i + n → s.heap.DictOf knd d kvs → s.heap.IsListIter I l i → s.heap.IsList l its → Al (PairIn knd s.heap) (its.toList.drop i) pairs → kvs.length + n ≤ 100000 →
      (∀ h' tk, h'.DictOf knd d (merged kvs pairs) → (∀ b o, b ≠ d → b ≠ I → s.heap.get? b = some o → h'.get? b = some o) → R (.ok (.ret .none)) { s with heap := h', toks := tk }) →
      codeAny (model prog w) A (.builtin "dict.update.loop" ⟨[.ref d, .ref I, .int i t, .none], []⟩) R s := by
  intro n
  induction n with
  | zero =>
    intro i s kvs pairs t hn hd hit hl hp hsz hR
    refine codeAny_builtin entry_dict_update_loop ?_
    cases hp' : its.toList.drop i with
    | cons x r =>
      have := congrArg List.length hp'
      simp at this; omega
    | nil =>
    rw [hp'] at hp
    cases hp
    have hnone : its[i]? = none := by simp; omega
    unfold Builtin.«dict.update.loop»
    show wpAny _ _ (pyNext (.ref I) >>= _) _ _ _
    refine wpAny_bind (wpAny_pyNext_list_end hh hit hl hnone fun h₁ he₁ => ?_)
    show wpAny _ _ (Builtin.Dict.addKeywords d [] >>= _) _ _ _
    refine wpAny_bind (wpAny_pure (wpAny_pure ?_))
    obtain ⟨o, es, ep, ho, r⟩ := hd
    exact hR h₁ _ ⟨o, es, ep, he₁ d o hdI ho, r⟩ fun b o hbd hbI e => he₁ b o hbI e
  | succ n ih =>
    intro i s kvs pairs t hn hd hit hl hp hsz hR
    refine codeAny_builtin entry_dict_update_loop ?_
    cases hp' : its.toList.drop i with
    | nil =>
      have := congrArg List.length hp'
      simp at this; omega
    | cons x r =>
    rw [hp'] at hp
    cases hp with
    | @cons _ p _ ps hx hr =>
    have hi : its[i]? = some x := by
      have : its.toList[i]? = some x := by
        have z := List.getElem?_drop (xs := its.toList) (i := i) (j := 0)
        rw [hp'] at z
        simpa using z.symm
      simpa using this
    have hr' : its.toList.drop (i + 1) = r := by
      rw [← List.drop_drop, hp']; rfl
    unfold Builtin.«dict.update.loop»
    show wpAny _ _ (pyNext (.ref I) >>= _) _ _ _
    refine wpAny_bind (wpAny_pyNext_list_item hit hl hi fun h₁ hit₁ hs₁ => ?_)
    obtain ⟨oI, hoI, hcI, _⟩ := id hit
    obtain ⟨od, es, ep, hod, hxd, hdd, r₁⟩ := id hd
    obtain ⟨ol, hol, hcl, _⟩ := id hl
    obtain ⟨a, key, rfl, ha, hkey⟩ := id hx
    have haI : a ≠ I := by rintro rfl; rw [hoI] at ha; cases ha; exact absurd hcI (by simp)
    have ha₁ : h₁.get? a = some (tupOf [key, p.2]) := hs₁.extBut a _ haI ha
    have hd₁ : h₁.DictOf knd d kvs := hd.extBut hs₁.extBut hdI
    refine wpAny_bind (wpAny_holding ?_)
    refine wpAny_bind (wpAny_tryCatch ?_)
    unfold Builtin.Dict.pairItems
    refine wpAny_bind (wpAny_typeOf (T := "tuple") ⟨_, ha₁, rfl⟩ ?_)
    rw [if_pos (by decide)]
    refine wpAny_bind (wpAny_seqItems ha₁ rfl ?_)
    refine wpAny_pure ?_
    dsimp only
    refine wpAny_holding (wpAny_dictSet_pairs hkey hd₁ (fun h₂ hd₂ hs₂ => ?_) (by rw [sizeLine_eq]; omega))
    refine wpAny_pure ⟨plainId_quiet plain_dict_update_loop _, ?_⟩
    have hI₂ : h₂.IsListIter I l (i + 1) := hit₁.extBut hs₂.extBut (Ne.symm hdI)
    have hl₁ : h₁.IsList l its := hl.extBut hs₁.extBut hlI
    have hl₂ : h₂.IsList l its := hl₁.extBut hs₂.extBut hld
    have up : ∀ b o, b ≠ d → b ≠ I → s.heap.get? b = some o → h₂.get? b = some o := fun b o h1 h2 e => hs₂.extBut b o h1 (hs₁.extBut b o h2 e)
    have z := stored_length_le kvs p.1 p.2
    refine ih (i + 1) _ _ ps _ (by omega) hd₂ hI₂ hl₂ ?_ (by omega) fun h' tk e1 e2 => hR h' tk (by exact e1) fun b o h1 h2 e => e2 b o h1 h2 (up b o h1 h2 e)
    show Al (PairIn knd h₂) (its.toList.drop (i + 1)) ps
    rw [hr']
    exact hr.mono fun v q y => y.keep d I od oI hod hoI (by rw [hxd.1]; decide) (by rw [hcI]; decide) up
end
end
section
open PySem PySem.W PySem.Calls PyProof.Rows
set_option maxRecDepth 100000
set_option maxHeartbeats 4000000

section
variable {prog : Program} {w : World} {A : Around} {E : Value → Shared → Prop} {s : Shared} {h₀ : Heap} {L : Addr} {m : Str → Option Value} {news : List (Addr × Obj)} {Q : Value → Shared → Prop}

theorem intKind_inv {k : Int} {v : Value} (h : (intKind prog w).is k v = true) : ∃ t, v = .int k t := by
  have h' : Value.isInt k v = true := h
  cases v <;> simp [Value.isInt] at h'
  subst h'; exact ⟨_, rfl⟩
theorem ints_of_keys : ∀ (kvs : List (Int × Value)) (vs : List Value), vs.length = kvs.length → (∀ (j : Nat) (v : Value), vs[j]? = some v → ∃ k x, kvs[j]? = some (k, x) ∧ (intKind prog w).is k v = true) → IntsAre vs (kvs.map (·.1))
  | [], vs, hl, _ => by
    rw [List.length_eq_zero_iff.mp hl]; exact .nil
  | kv :: r, [], hl, _ => by cases hl
  | kv :: r, v :: vs, hl, h => by
    obtain ⟨k, x, e, hk⟩ := h 0 v rfl
    obtain ⟨t, rfl⟩ := intKind_inv hk
    cases e
    exact .cons _ _ (ints_of_keys r vs (by simpa using hl) fun j u hj => by simpa using h (j + 1) u (by simpa using hj))

theorem list_keys {d : Addr} {kvs : List (Int × Value)} (hh : A.handled = none) (F : Fr h₀ L s.heap m) (N : News h₀ L s.heap news) (hd : s.heap.DictOf (intKind prog w) d kvs) (lo : (d == sysModules) = false) (hn : kvs.length ≤ 1000)
    (h : ∀ D c h' tk vs, Fr h₀ L h' m → News h₀ L h' ((D, listOf (List.toArray vs) c) :: news) → (∀ q ∈ news, q.1 < D) → IntsAre vs (kvs.map (·.1)) → Q (.ref D) { s with heap := h', toks := tk }) :
    wpAny (model prog w) A (call (.type "list") [.ref d]) Q E s := by
  obtain ⟨ep, hat⟩ := hd.dictAt
  refine kdl_N (kdl_dict (knd := intKind prog w) (kvs := kvs) (ep := ep) lo) hh F N hat (by rw [sizeLine_eq]; omega) fun D c h' tk vs F' N' l1 hl hv => ?_
  exact h D c h' tk vs F' N' l1 (ints_of_keys kvs vs hl hv)

theorem sorted_keys {d : Addr} {kvs : List (Int × Value)} (hh : A.handled = none) (F : Fr h₀ L s.heap m) (N : News h₀ L s.heap news) (hd : s.heap.DictOf (intKind prog w) d kvs) (lo : (d == sysModules) = false) (hn : kvs.length < 64)
    (h : ∀ D c h' tk vs ns, Fr h₀ L h' m → News h₀ L h' ((D, listOf (List.toArray vs) c) :: news) → (∀ q ∈ news, q.1 < D) → IntsAre vs ns → ns.Perm (kvs.map (·.1)) → ns.Pairwise (· ≤ ·) → Q (.ref D) { s with heap := h', toks := tk }) :
    wpAny (model prog w) A (call (.builtin "sorted") [.ref d]) Q E s := by
  obtain ⟨ep, hat⟩ := hd.dictAt
  refine kdu_sorted (kdl_dict (knd := intKind prog w) (kvs := kvs) (ep := ep) lo) hh F N hat (by rw [sizeLine_eq]; omega) fun D h' tk vs F' N' l1 hl hv => ?_
  have hi := ints_of_keys kvs vs hl hv
  refine ksk_lsort (news' := fun o => (D, o) :: news) F' N' (fun o => .head fun p hp => Nat.ne_of_lt (l1 p hp)) rfl hi (by rw [List.length_map]; exact hn) fun vs' ns' c h'' F'' N'' hi' hl' hp ho _ => ?_
  exact h D c h'' tk vs' ns' F'' N'' l1 hi' hp ho

theorem list_sorted {l : Addr} {vs : List Value} {ns : List Int} (F : Fr h₀ L s.heap m) (N : News h₀ L s.heap news) (hl : s.heap.IsList l vs.toArray) (hi : IntsAre vs ns) (h64 : ns.length < 64)
    (h : ∀ D c h' vs' ns', Fr h₀ L h' m → News h₀ L h' ((D, listOf (List.toArray vs') c) :: news) → (∀ q ∈ news, q.1 < D) → IntsAre vs' ns' → ns'.Perm ns → ns'.Pairwise (· ≤ ·) → Q (.ref D) { s with heap := h' }) :
    wpAny (model prog w) A (call (.builtin "sorted") [.ref l]) Q E s :=
  kso_sorted F N hl hi h64 fun D vs' ns' c h' F' N' l1 hi' _ hp ho _ => h D c h' vs' ns' F' N' l1 hi' hp ho

/-- dict(pairs) -/
theorem dict_pairs {l : Addr} {its : Array Value} {n : Nat} {pairs : List (Int × Value)} (hh : A.handled = none) (F : Fr h₀ L s.heap m) (N : News h₀ L s.heap news) (hbig : h₀.NoLimit) (hl : s.heap.get? l = some (listOf its n)) (hp : Al (PairIn (intKind prog w) s.heap) its.toList pairs) (hsz : its.size ≤ 1000) (hnd : (pairs.map (·.1)).Nodup)
    (h : ∀ d o h' tk, Fr h₀ L h' m → News h₀ L h' ((d, o) :: news) → (∀ q ∈ news, q.1 < d) → (d == sysModules) = false → o.IsDictOf (intKind prog w) pairs → Q (.ref d) { s with heap := h', toks := tk }) :
    wpAny (model prog w) A (call (.type "dict") [.ref l]) Q E s := by
  refine callType_codes (Q₁ := fun obj s₁ => obj = .ref s.heap.objs.size ∧ s₁ = { s with heap := s.heap.push { cls := .type "dict", data := .dict #[] } }) PySem.F.kt_called_dict (PySem.F.kt_typeCall_dict_1 _) PySem.F.entry_dict_init (kt_code_dict_new _ ⟨rfl, rfl⟩) ?_
  rintro obj s₁ ⟨rfl, rfl⟩
  have hnew : (s.heap.push { cls := .type "dict", data := .dict #[] }).DictOf (intKind prog w) s.heap.objs.size [] := Heap.DictOf.new s.heap
  have hl' : (s.heap.push { cls := .type "dict", data := .dict #[] }).get? l = some (listOf its n) := Heap.get?_push_of_some _ hl
  have hlt : l < s.heap.objs.size := Heap.lt_size hl
  refine ⟨hnew.typeIs, PySem.F.args_dict_init_2 _ _, ?_⟩
  unfold Builtin.«dict.__init__»
  refine wpAny_bind ?_
  unfold Builtin.Dict.selfAndRest
  refine wpAny_bind (wpAny_notOrdered_dict hnew.typeIs ?_)
  show wpAny _ _ (pure (s.heap.objs.size, [Value.ref l])) _ _ _
  refine wpAny_pure ?_
  show wpAny _ _ (Builtin.Dict.updateFrom "dict.__init__" s.heap.objs.size (.ref l) [] .none) _ _ _
  unfold Builtin.Dict.updateFrom
  refine wpAny_bind (wpAny_typeOf (T := "list") ⟨_, hl', rfl⟩ ?_)
  rw [if_pos (by decide)]
  refine wpAny_bind (getAttrQ_miss_list hl' rfl rfl rfl miss_list_keys (by decide +kernel) hh (fun h₁ tk₁ hk₁ => ?_) (by decide +kernel))
  show wpAny _ _ (rule _ >>= _) _ _ _
  refine wpAny_bind (wpAny_rule ?_)
  have hl₁ : h₁.IsList l its := ⟨_, hk₁ _ _ hl', rfl, n, rfl⟩
  refine wpAny_bind (wpAny_pyIter_list hl₁ ?_)
  refine wpAny_pure ⟨plainId_quiet plain_dict_update_loop _, ?_⟩
  have hnew₁ : h₁.DictOf (intKind prog w) s.heap.objs.size [] := by
    obtain ⟨o, es, ep, ho, r⟩ := hnew
    exact ⟨o, es, ep, hk₁ _ _ ho, r⟩
  have dlt : s.heap.objs.size < h₁.objs.size := by
    obtain ⟨o, es, ep, ho, r⟩ := hnew₁
    exact Heap.lt_size ho
  have llt : l < h₁.objs.size := Heap.lt_size (hk₁ _ _ hl')
  refine dict_loop (A := A.in1) (knd := intKind prog w) hh (d := s.heap.objs.size) (I := h₁.objs.size) (l := l) (its := its) (Nat.ne_of_lt dlt) (Nat.ne_of_lt hlt) (Nat.ne_of_lt llt) its.size 0 _ [] pairs _ (by omega) (hnew₁.push _) ⟨_, Heap.get?_push_size _ rfl, rfl, rfl⟩ (hl₁.at fun o e => Heap.get?_push_of_some _ e) ?_ (by simp; omega) ?_
  · rw [List.drop_zero]
    refine hp.mono fun v p x => ?_
    obtain ⟨a, key, e, ha, hk⟩ := x
    exact ⟨a, key, e, Heap.get?_push_of_some _ (hk₁ _ _ (Heap.get?_push_of_some _ ha)), hk⟩
  · intro h' tk hd' hk'
    rw [merged_nil_of_nodup pairs hnd] at hd'
    obtain ⟨o', ho', hd''⟩ := Heap.dictOf_iff.mp hd'
    have up : ∀ b o, s.heap.get? b = some o → h'.get? b = some o := fun b o e => hk' b o (Nat.ne_of_lt (Heap.lt_size e)) (Nat.ne_of_lt (Nat.lt_trans (Heap.lt_size e) dlt)) (Heap.get?_push_of_some _ (hk₁ _ _ (Heap.get?_push_of_some _ e)))
    refine ⟨rfl, h _ o' h' tk (F.keeps up) (News.kept_cons F N up (Nat.le_refl _) ho') (fun q hq => Heap.lt_size (N q hq).1) (F.notModules (modules_low hbig)) hd''⟩

/-- dict(d) -/
theorem dict_copyN {d : Addr} {kvs : List (Int × Value)} (F : Fr h₀ L s.heap m) (N : News h₀ L s.heap news) (hbig : h₀.NoLimit) (hd : s.heap.DictOf (intKind prog w) d kvs) (lo : (d == sysModules) = false) (hn : kvs.length ≤ 1000)
    (h : ∀ d' o h', Fr h₀ L h' m → News h₀ L h' ((d', o) :: news) → (∀ q ∈ news, q.1 < d') → (d' == sysModules) = false → o.IsDictOf (intKind prog w) kvs → Q (.ref d') { s with heap := h' }) :
    wpAny (model prog w) A (call (.type "dict") [.ref d]) Q E s := by
  refine kt_call_dict lo hd (by rw [sizeLine_eq]; omega) fun h' hm hs => ?_
  obtain ⟨o', ho', hd'⟩ := Heap.dictOf_iff.mp hm
  have up : ∀ b o, s.heap.get? b = some o → h'.get? b = some o := fun b o e => hs.extBut b o (Nat.ne_of_lt (Heap.lt_size e)) (Heap.get?_push_of_some _ e)
  exact h _ o' h' (F.keeps up) (News.kept_cons F N up (Nat.le_refl _) ho') (fun q hq => Heap.lt_size (N q hq).1) (F.notModules (modules_low hbig)) hd'
end
end
local macro_rules | `(tactic| w_left) => `(tactic| (fail_if_success (have h9 : PassMark := (by with_reducible assumption))))
local macro_rules | `(tactic| k_data) => `(tactic| (w_left; refine Stop.mk ?_))
local macro_rules | `(tactic| kxw_int) => `(tactic| first | with_reducible assumption | decide | (first | (with_reducible refine dle ‹_› ?_; exact rfl) | (with_reducible refine dle2 ‹_› ?_; exact rfl) | (with_reducible refine dlt ‹_› ?_; exact rfl) | (with_reducible refine dlt2 ‹_› ?_; exact rfl) | (with_reducible refine dle0 ‹_› ?_; exact rfl) | omega))
local macro_rules | `(tactic| kxw_bool) => `(tactic| first | assumption | exact And.left ‹_› | exact And.left (And.right ‹_›) | exact And.left (And.right (And.right ‹_›)) | exact And.left (And.right (And.right (And.right ‹_›))) | exact And.left (And.right (And.right (And.right (And.right ‹_›)))) | exact And.left (And.right (And.right (And.right (And.right (And.right ‹_›))))) | exact And.left (And.right (And.right (And.right (And.right (And.right (And.right ‹_›)))))) | exact And.left (And.right (And.right (And.right (And.right (And.right (And.right (And.right ‹_›))))))) | exact And.left (And.right (And.right (And.right (And.right (And.right (And.right (And.right (And.right ‹_›)))))))) | exact And.left (And.right (And.right (And.right (And.right (And.right (And.right (And.right (And.right (And.right ‹_›))))))))) | exact Nat.lt_succ_of_lt ‹_› | exact Nat.lt_succ_self _)
local macro_rules | `(tactic| k_room) => `(tactic| ((try simp only [depth_mark, depth_under_make, depth_under_kw, depth_in1, depth_deeper, depth_caller]); (show _ < 1000); kxw_int))
local macro_rules | `(tactic| k_units) => `(tactic| ((try simp only [units_in1, units_deeper, Around.mark_units, units_caller]); (show _ < 9900); kxw_int))
local macro_rules | `(tactic| k_all) => `(tactic| first | with_reducible assumption | exact List.forall_mem_nil _ | (intro p9 hp9; refine Nat.ne_of_lt ?_; apply_assumption; (repeat' (first | assumption | apply List.Mem.tail)); done))
local macro_rules | `(tactic| k_lt $h) => `(tactic| ((have hk9 := $h); replace $h := allLt_of $h; dsimp only [AllLt] at $h:ident))
local macro_rules | `(tactic| k_mem) => `(tactic| first | with_reducible assumption | with_reducible exact List.Mem.head _ | with_reducible exact List.mem_cons_self | (with_reducible refine List.mem_cons_of_mem _ ?_; k_mem) | (with_reducible refine List.mem_append_left _ ?_; k_mem) | (with_reducible refine List.mem_append_right _ ?_; k_mem))
local macro_rules | `(tactic| walk_at "m call") => `(tactic| ((case k6 | k7 => k_is); (case k8 => k_room); (case k9 => exact BindsTo.of_eq rfl); (case c5 => decide); (case kB => exact locs rfl); (case c2 | c3 | c4 => exact rfl)))
local macro_rules | `(tactic| walk_at "m callC") => `(tactic| ((case k6 | k7 => k_is); (case k8 => k_room); (case k9 => exact BindsTo.of_eq rfl); (case kB => exact rfl); (case kD => decide +kernel); (case c2 | c3 | c4 => exact rfl)))
local macro_rules | `(tactic| walk_at "m walk") => `(tactic| ((repeat' (first | walk1 | (dsimp only; walk1))); all_goals (try with_reducible refine Stop.out ?_)))
local macro_rules | `(tactic| walk_at "m d") => `(tactic| ((try dsimp only); kxw_int))
local macro_rules | `(tactic| walk_at "call ref") => `(tactic| ((with_reducible show wpAny _ _ (call (Value.ref 118) _) _ _ _); k_dflt (refine' draw_call ‹_› ‹_› ‹_› ‹_› ‹_› (by k_updF) (by intro _; k_updF) (by k_ne) (by exact rfl) (by exact rfl) (by walk_at "m d") (by walk_at "m d") (by walk_at "m d") (by walk_at "m d") ?_); (intro h' tk' r' tr' x' h0' h1' F' N'); (try dsimp only at N')))
local macro_rules | `(tactic| walk_at "eval Name") => `(tactic| ((with_reducible show wpAny _ _ (eval (PySem.Expr.Name _ _) (compEnvC _ _ _ _)) _ _ _); k_dflt (first | (refine' nameC_L ?N ?m ?o ?v ?_ ?a ?b ?c; (case a => exact rfl); (case b => kernel_rfl!); (case c => decide); (case N => k_asm); (case m => k_mem); (case o | v => assumption); k_whole) | (refine' nameC_C ?N ?l ?m ?o ?_ ?a ?b ?c; (case a => exact rfl); (case b => kernel_rfl!); (case c => decide); (case N => k_asm); (case l => exact rfl); (case m => k_mem); (case o => assumption); k_whole) | (refine' nameC_K ?F ?X ?T ?e ?_ ?g ?a ?b ?c; (case F | X | T => k_asm); (case g | a => exact rfl); (case b => kernel_rfl!); (case c => decide); (case e => k_is); k_whole) | (refine' nameC_B ?F ?X ?T ?e ?v ?n ?_ ?g ?gb ?a ?b ?c; (case F | X | T => k_asm); (case g | gb | a => exact rfl); (case b => kernel_rfl!); (case c => decide); (case e => k_is); (case v => boot_fast); (case n => decide); k_whole))))
local macro_rules | `(tactic| walk_at "m ints") => `(tactic| first | assumption | (exact .cons _ _ .nil) | (exact .cons _ _ (.cons _ _ (.cons _ _ (.cons _ _ .nil)))) | (exact .cons _ _ (.cons _ _ (.cons _ _ (.cons _ _ (.cons _ _ .nil))))))
local macro_rules | `(tactic| walk_at "m len") => `(tactic| first | assumption | (dsimp only [List.length_cons, List.length_nil]; omega) | omega)
local macro_rules | `(tactic| walk_at "call type:list") => `(tactic| (w_left; (with_reducible show wpAny _ _ (call (Value.type "list") [Value.ref _]) _ _ _); k_dflt (refine' list_keys rfl ‹_› ‹_› (by walk_at "m dict") ‹_› (by kxw_int) ?_); (intro D' c' h' tk' vs' F' N' l1' hi'); (try k_lt l1')))
local macro_rules | `(tactic| walk_at "call type:dict") => `(tactic| (w_left; (with_reducible show wpAny _ _ (call (Value.type "dict") [Value.ref _]) _ _ _); k_dflt (refine' dict_copyN ‹_› ‹_› (by exact Top.nolimit (by assumption)) (by walk_at "m dict") ‹_› (by kxw_int) ?_); (intro d' o' h' F' N' l1' lo' hd'); (try k_lt l1')))
local macro_rules | `(tactic| walk_at "call builtin:sorted") => `(tactic| (w_left; (with_reducible show wpAny _ _ (call (Value.builtin "sorted") [Value.ref _]) _ _ _); k_dflt (refine' list_sorted ‹_› ‹_› (by walk_at "m islist") ‹_› (by kxw_int) ?_); (intro D' c' h' vs' ns' F' N' l1' hi' hp' ho'); (try k_lt l1')))
local macro_rules | `(tactic| walk_at "eval ListComp") => `(tactic| k_data)
local macro_rules | `(tactic| walk_at "pyIter ref") => `(tactic| k_data)
local macro_rules | `(tactic| walk_at "exec While") => `(tactic| k_data)
local macro_rules | `(tactic| walk_at "exec Try") => `(tactic| k_data)
local macro_rules | `(tactic| walk_at "call type:dict") => `(tactic| ((have h9 : PassMark := (by with_reducible assumption)); clear h9; refine Stop.mk ?_))
local macro_rules | `(tactic| walk_at "m all") => `(tactic| (repeat' (first | with_reducible refine allc ?_ ?_ | with_reducible refine alla ?_ ?_ | exact alln)))
local macro_rules | `(tactic| walk_at "m subl") => `(tactic| (walk_at "m all"; all_goals (first | k_mem | (intro p9 hp9; k_mem))))
local macro_rules | `(tactic| k_ne) => `(tactic| first | with_reducible assumption | (with_reducible refine Ne.symm ?_; with_reducible assumption) | (with_reducible refine Nat.ne_of_lt ?_; with_reducible kxw_bool) | (with_reducible refine Nat.ne_of_gt ?_; with_reducible kxw_bool))
section
open PySem PySem.W PySem.Calls PyProof.Rows
set_option maxRecDepth 100000
set_option maxHeartbeats 400000
theorem entry_new {w : World} {fr : Option (List Env)} {gd : Option (List Code)} {dp un : Nat} {s : Shared} {base h₀ : Heap} {outer : List Env} {L : Addr} {m mg mb : Str → Option Value} {mean : ExcName → Option Value} {env : Env} {news : List (Addr × Obj)}
  {a b c : Value} {Q : Value → Shared → Prop} {E : Value → Shared → Prop}
  (B : Below { handled := none, depth := dp, frames := fr, guards := gd, units := un } base outer h₀) (F : Fr h₀ L s.heap m) (X₀ : (hd.heap_39 w.params).In h₀) (TT : Top VW LO mean mg mb h₀)
  (N : News h₀ L s.heap news) (hf : env.frame = some L) (hke : env.scope.kind = .function) (hdp : dp ≤ 820)
  (hQ : ∀ x dx k0 k1 k2 h' tk, Fr h₀ L h' m → News h₀ L h' ((x, instObj 78 dx) :: (dx, dictOf [⟨PyData.keyHash w.params "way", .str "way" k0, a⟩, ⟨PyData.keyHash w.params "one", .str "one" k1, b⟩, ⟨PyData.keyHash w.params "two", .str "two" k2, c⟩] 3) :: news) → (∀ p ∈ news, p.1 < dx) → @LT.lt Nat _ dx x → Q (.ref x) { s with heap := h', toks := tk }) :
  wpAny (model PR w) (({ handled := none, depth := dp, frames := fr, guards := gd, units := un } : Around).deeper env) (call (.ref 78) [a, b, c]) Q E s := by
  refine' call_cls F X₀ N ?k1 ?k2 ?k3 ?_
  case k1 => k_is
  case k2 => k_is
  case k3 => k_is
  intro x dx h' F1 N1 l1 l2
  refine' my_def (binds := [(Str.ofString "self", .ref x), (Str.ofString "way", a), (Str.ofString "one", b), (Str.ofString "two", c)]) B F1 X₀ N1 TT ?kA hf hke ?k6 ?k7 ?k8 ?k9 ?kB ?_ ?c2 ?c3 ?c4 ?c5
  case kA => exact Around.frames_deeper (env := env) B.stack
  case k8 => k_room
  case k6 => k_is
  case k7 => k_is
  case k9 => exact BindsTo.of_eq rfl
  case c5 => decide
  case kB => exact locs rfl
  case c2 => exact rfl
  case c3 => exact rfl
  case c4 => exact rfl
  intro g L' h₁ hG hGs hsz F' N' hlt B' X' T'
  have hxL : @LT.lt Nat _ x L' := hlt (x, _) (.head _)
  have hdL : @LT.lt Nat _ dx L' := hlt (dx, _) (.tail _ (.head _))
  have l2' : @LT.lt Nat _ dx x := l2
  walk_at "m walk"
  refine ⟨rfl, ?_⟩
  rename_i h2 F2 N2
  obtain ⟨FF, NN, _, _⟩ := my_back F1 N1 hG F2 N2 (fun q => by
    obtain ⟨p, hp, e⟩ := List.mem_map.mp q
    exact (N1 p hp).2.1 e) (fun b hb => by
    obtain ⟨p, hp, e⟩ := List.mem_map.mp hb
    exact e ▸ (N1 p hp).2.2)
  exact hQ x dx _ _ _ _ _ FF NN l1 l2
end
local macro_rules | `(tactic| walk_at "call ref") => `(tactic| ((with_reducible show wpAny _ _ (call (Value.ref 78) _) _ _ _); k_dflt (refine' entry_new ‹_› ‹_› ‹_› ‹_› ‹_› (by exact rfl) (by exact rfl) (by walk_at "m d") ?_); (intro x' dx' k0' k1' k2' h' tk' F' N' l1' l2'); (try k_lt l1'); (have l4' : @LT.lt Nat _ dx' x' := l2')))
section
open PySem PySem.W PySem.Calls PyProof.Rows
set_option maxRecDepth 100000
set_option maxHeartbeats 400000
section
variable {prog : Program} {w : World} {A : Around} {E : Value → Shared → Prop} {s : Shared}
theorem item_dict {value slice : PySem.Expr} {d : Addr} {kvs : List (Int × Value)} {k : Int} {t : Tok} {v : Value} {Q : Value → Shared → Prop} (hd : s.heap.DictOf (intKind prog w) d kvs) (hv : valueAt kvs k = some v) (h : Q v { s with toks := s.toks + 1 })
    (hs : subscripted slice false (.ref d) (.int k t) = operate [.ref d, .int k t] (getItem (.ref d) (.int k t)) := by with_unfolding_all rfl) :
    wpAny (model prog w) A (subscriptTail value slice (.ref d) (.int k t)) Q E s :=
  tail_any hd.typeIs slot_dict_getitem.lookup (wpAny_getItem_of (intKind_is _ _ _ _) hd.mapOf hv h) hs
theorem dictOf_fr {h₀ h : Heap} {L d : Addr} {m : Str → Option Value} {kvs : List (Int × Value)} (hd : h₀.DictOf (intKind prog w) d kvs) (F : Fr h₀ L h m) : h.DictOf (intKind prog w) d kvs := by
  obtain ⟨o, es, ep, ho, r⟩ := hd
  exact ⟨o, es, ep, F.keep _ _ ho, r⟩
theorem item_tup {value slice : PySem.Expr} {h₀ : Heap} {L a : Addr} {m : Str → Option Value} {vs : List Value} {k : Int} {t : Tok} {v : Value} {Q : Value → Shared → Prop} (F : Fr h₀ L s.heap m) (ha : h₀.get? a = some (tupOf vs)) (h0 : 0 ≤ k) (h1 : k < 1000) (hv : vs[k.toNat]? = some v) (h : Q v s)
    (hs : subscripted slice false (.ref a) (.int k t) = operate [.ref a, .int k t] (getItem (.ref a) (.int k t)) := by with_unfolding_all rfl) :
    wpAny (model prog w) A (subscriptTail value slice (.ref a) (.int k t)) Q E s := by
  have hlt : k.toNat < vs.length := (List.getElem?_eq_some_iff.mp hv).1
  exact item_tupleT (l := vs) ⟨_, F.keep _ _ ha, rfl, 0, rfl⟩ (by omega) (by omega) (j := k.toNat) (by simp [seqIndex?]; omega) hv h hs
end

theorem inst_fr {h₀ h : Heap} {L x C dx : Addr} {m : Str → Option Value} {od : Obj} (F : Fr h₀ L h m) (h1 : h₀.get? x = some (instObj C dx)) (h2 : h₀.get? dx = some od) :
    W.InstAt h x (instObj C dx) C (some od) := ⟨F.keep _ _ h1, rfl, rfl, F.keep _ _ h2⟩
theorem ints_get {vs : List Value} {ns : List Int} (x : IntsAre vs ns) : ∀ {i : Nat} {v : Value}, vs[i]? = some v → ∃ k t, ns[i]? = some k ∧ v = .int k t := by
  induction x with
  | nil => intro i v h; cases h
  | cons n t _ ih =>
    intro i v e
    cases i with
    | zero => cases e; exact ⟨_, t, rfl, rfl⟩
    | succ i => exact ih e
theorem gAt_of_get {β : Type} {t : List (Int × β)} (hn : (t.map (·.1)).Nodup) : ∀ {j : Nat} {k : Int} {r : β}, t[j]? = some (k, r) → gAt t k = some r := by
  induction t with
  | nil => intro j k r h; cases h
  | cons a l ih =>
    intro j k r e
    rw [List.map_cons, List.nodup_cons] at hn
    unfold gAt
    rw [List.find?_cons]
    cases j with
    | zero => cases e; simp
    | succ j =>
      have e' : l[j]? = some (k, r) := e
      have : a.1 ≠ k := fun q => hn.1 (q ▸ List.mem_map.mpr ⟨_, List.mem_of_getElem? e', rfl⟩)
      simp only [this, decide_false]
      exact ih hn.2 e'
theorem gAt_mem {β : Type} {t : List (Int × β)} {k : Int} {r : β} (h : gAt t k = some r) : (k, r) ∈ t := by
  unfold gAt at h
  cases q : t.find? fun p => decide (p.1 = k) with
  | none => rw [q] at h; cases h
  | some p =>
    rw [q] at h
    have h1 := List.find?_some q
    have h2 := List.mem_of_find?_eq_some q
    simp at h1 h
    subst h1 h
    exact h2
theorem gAt_none {β : Type} {t : List (Int × β)} {k : Int} : gAt t k = none ↔ k ∉ t.map (·.1) := by
  unfold gAt
  rw [Option.map_eq_none_iff, List.find?_eq_none]
  constructor
  · intro h q
    obtain ⟨p, hp, e⟩ := List.mem_map.mp q
    exact h p hp (by simpa using e)
  · intro h p hp q
    exact h (List.mem_map.mpr ⟨p, hp, by simpa using q⟩)
section
variable {prog : Program} {w : World} {A : Around} {E : Value → Shared → Prop} {s : Shared} {vs : List Value} {ns : List Int} {l : Addr} {Q : Value → Shared → Prop}
theorem len_ints (hl : s.heap.IsList l vs.toArray) (hi : IntsAre vs ns) (hf : ns.length ≤ 1000) (h : Q (.int (ns.length : Nat) (s.toks + 1)) { s with toks := s.toks + 1 + 1 }) : wpAny (model prog w) A (call (.builtin "len") [.ref l]) Q E s := by
  have e : vs.toArray.size = ns.length := by rw [List.size_toArray, hi.length]
  refine Calls.call_len_list hl (by omega) ?_
  rw [e]; exact h
theorem item_ints {value slice : PySem.Expr} {k : Int} {u : Tok} (hl : s.heap.IsList l vs.toArray) (hi : IntsAre vs ns) (hf : ns.length ≤ 1000) (h0 : 0 ≤ k) (h1 : k < (ns.length : Int)) (h : ∀ n t, ns[k.toNat]? = some n → Q (.int n t) s)
    (hs : subscripted slice false (.ref l) (.int k u) = operate [.ref l, .int k u] (getItem (.ref l) (.int k u)) := by with_unfolding_all rfl) :
    wpAny (model prog w) A (subscriptTail value slice (.ref l) (.int k u)) Q E s := by
  have e : vs.toArray.size = ns.length := by rw [List.size_toArray, hi.length]
  obtain ⟨v, hv⟩ : ∃ v, vs[k.toNat]? = some v := ⟨_, List.getElem?_eq_getElem (by rw [hi.length]; omega)⟩
  obtain ⟨n, t, hn, rfl⟩ := ints_get hi hv
  have hx : vs.toArray[k.toNat]? = some (.int n t) := by rw [List.getElem?_toArray]; exact hv
  exact tail_any hl.typeIs slot_list_getitem.lookup (wpAny_getItem_list hl h0 (by omega) hx (h n t hn)) hs
theorem isList_fr {h₀ h : Heap} {L : Addr} {m : Str → Option Value} {its : Array Value} (F : Fr h₀ L h m) (hl : h₀.IsList l its) : h.IsList l its := hl.at fun o e => F.keep _ _ e
end
section
variable {prog : Program} {w : World} {A : Around} {E : Value → Shared → Prop} {s : Shared} {d : Addr} {kvs : List (Int × Value)} {k : Int} {t : Tok}
theorem getm_dict {pl : Sem Bool} {Q : Value × List Value → Shared → Prop} (hd : s.heap.DictOf (intKind prog w) d kvs) (h : Q (.builtin "dict.get", [.ref d]) s) : wpAny (model prog w) A (getMethod (.ref d) "get" pl) Q E s := getMethod_builtin hd.typeIs PySem.F.plainAttrs_dict PySem.F.slot_dict_get PySem.F.type_dict_get hd.mapOf.noDict h
theorem get1_dict {Q : Value → Shared → Prop} (hd : s.heap.DictOf (intKind prog w) d kvs) (lo : (d == sysModules) = false) (h : Q ((valueAt kvs k).getD .none) { s with toks := s.toks + 1 }) :
    wpAny (model prog w) A (call (.builtin "dict.get") [.ref d, .int k t]) Q E s := call_meetsIn PySem.F.slot_dict_get hd.typeIs PySem.F.entry_dict_get (PySem.F.args_dict_get_2 _ _) (meets_dict_get (intKind prog w) d (intKind_is _ _ _ _) lo) ⟨_, hd.mapOf, h⟩
theorem get2_dict {Q : Value → Shared → Prop} {x : Value} (hd : s.heap.DictOf (intKind prog w) d kvs) (lo : (d == sysModules) = false) (h : Q ((valueAt kvs k).getD x) { s with toks := s.toks + 1 }) :
    wpAny (model prog w) A (call (.builtin "dict.get") [.ref d, .int k t, x]) Q E s := call_meetsIn PySem.F.slot_dict_get hd.typeIs PySem.F.entry_dict_get (PySem.F.args_dict_get_3 _ _ _) (meets_dict_get_default (intKind prog w) d (intKind_is _ _ _ _) lo x) ⟨_, hd.mapOf, h⟩
theorem in_dict {Q : Value → Shared → Prop} (hd : s.heap.DictOf (intKind prog w) d kvs) (lo : (d == sysModules) = false) (h : Q (.bool (valueAt kvs k).isSome) { s with toks := s.toks + 1 }) :
    wpAny (model prog w) A (compareOp .In (.int k t) (.ref d)) Q E s := wpAny_in_of (intKind_is _ _ _ _) lo hd.mapOf h
theorem notin_dict {Q : Value → Shared → Prop} (hd : s.heap.DictOf (intKind prog w) d kvs) (lo : (d == sysModules) = false) (h : Q (.bool (!(valueAt kvs k).isSome)) { s with toks := s.toks + 1 }) :
    wpAny (model prog w) A (compareOp .NotIn (.int k t) (.ref d)) Q E s := wpAny_notIn_of (intKind_is _ _ _ _) lo hd.mapOf h
theorem len_dict {Q : Value → Shared → Prop} (hd : s.heap.DictOf (intKind prog w) d kvs) (lo : (d == sysModules) = false) (hf : kvs.length ≤ 1000) (h : Q (.int kvs.length (s.toks + 1)) { s with toks := s.toks + 1 + 1 }) :
    wpAny (model prog w) A (call (.builtin "len") [.ref d]) Q E s := call_len_dict lo hd (by omega) h
theorem set_dictN {h₀ : Heap} {L : Addr} {m : Str → Option Value} {news : List (Addr × Obj)} {g : Obj → List (Addr × Obj)} {o : Obj} {v : Value} {Q : Unit → Shared → Prop} (F : Fr h₀ L s.heap m) (N : News h₀ L s.heap news) (U : UpdF d o news g) (hd : o.IsDictOf (intKind prog w) kvs) (hsz : kvs.length ≤ 1000)
    (h : ∀ h' o', Fr h₀ L h' m → News h₀ L h' (g o') → o'.IsDictOf (intKind prog w) (stored kvs k v) → Q () { s with heap := h', toks := s.toks + 1 }) : wpAny (model prog w) A (setItem (.ref d) (.int k t) v) Q E s :=
  kda_set F N U hd (intKind_is _ _ _ _) (by rw [sizeLine_eq]; omega) h
end
theorem al_isSome {β : Type} {V : Value → β → Prop} {kvs : List (Int × Value)} {t : List (Int × β)} (x : Al (fun kv r => kv.1 = r.1 ∧ V kv.2 r.2) kvs t) (k : Int) : (valueAt kvs k).isSome = (gAt t k).isSome := by
  cases q : gAt t k with
  | none => rw [(al_at x k).1 q]; rfl
  | some r => obtain ⟨v, e, _⟩ := (al_at x k).2 r q; rw [e]; rfl
section
variable {prog : Program} {w : World} {A : Around} {E : Value → Shared → Prop} {s : Shared} {d : Addr} {kvs : List (Int × Value)} {k : Int} {t : Tok}
theorem get2_ints {gt : List (Int × Int)} {x : Int} {tx : Tok} {Q : Value → Shared → Prop} (hd : s.heap.DictOf (intKind prog w) d kvs) (lo : (d == sysModules) = false) (al : Al (fun kv r => kv.1 = r.1 ∧ IntAt kv.2 r.2) kvs gt) (h : ∀ t', Q (.int ((gAt gt k).getD x) t') { s with toks := s.toks + 1 }) :
    wpAny (model prog w) A (call (.builtin "dict.get") [.ref d, .int k t, .int x tx]) Q E s := by
  refine get2_dict hd lo ?_
  cases q : gAt gt k with
  | none => rw [(al_at al k).1 q]; have := h tx; rw [q] at this; exact this
  | some r => obtain ⟨v, e, t', rfl⟩ := (al_at al k).2 r q; rw [e]; have := h t'; rw [q] at this; exact this
theorem in_tbl {β : Type} {V : Value → β → Prop} {tb : List (Int × β)} {Q : Value → Shared → Prop} (hd : s.heap.DictOf (intKind prog w) d kvs) (lo : (d == sysModules) = false) (al : Al (fun kv r => kv.1 = r.1 ∧ V kv.2 r.2) kvs tb) (h : Q (.bool (gAt tb k).isSome) { s with toks := s.toks + 1 }) :
    wpAny (model prog w) A (compareOp .In (.int k t) (.ref d)) Q E s := in_dict hd lo (by rw [al_isSome al]; exact h)
theorem notin_tbl {β : Type} {V : Value → β → Prop} {tb : List (Int × β)} {Q : Value → Shared → Prop} (hd : s.heap.DictOf (intKind prog w) d kvs) (lo : (d == sysModules) = false) (al : Al (fun kv r => kv.1 = r.1 ∧ V kv.2 r.2) kvs tb) (h : Q (.bool (!(gAt tb k).isSome)) { s with toks := s.toks + 1 }) :
    wpAny (model prog w) A (compareOp .NotIn (.int k t) (.ref d)) Q E s := notin_dict hd lo (by rw [al_isSome al]; exact h)
end
/-- a list of ints in order -/
noncomputable def srt (l : List Int) : List Int := l.mergeSort (fun a b => decide (a ≤ b))
theorem srt_of {l r : List Int} (hp : l.Perm r) (hs : l.Pairwise (· ≤ ·)) : l = srt r := by
  refine List.Perm.eq_of_pairwise (le := fun a b => a ≤ b) (fun a b _ _ x y => Int.le_antisymm x y) hs ?_ (hp.trans (List.mergeSort_perm _ _).symm)
  exact (List.pairwise_mergeSort (le := fun a b => decide (a ≤ b)) (fun a b c h1 h2 => by simp at *; omega) (fun a b => by simp; omega) r).imp fun h => by simpa using h
theorem srt_perm (r : List Int) : (srt r).Perm r := List.mergeSort_perm _ _
/-- a free number, but 0 -/
noncomputable def freeP (t : List (Int × T3)) (k : Int) : Bool := decide (0 < k) && (match gAt t k with | some r => r.1 == ("free" : Str) | none => false)
theorem freeP_eq {t : List (Int × T3)} {k : Int} {r : T3} (h : gAt t k = some r) : freeP t k = (decide (0 < k) && (r.1 == ("free" : Str))) := by unfold freeP; rw [h]
/-- the numbers of a table that are free, but 0 -/
noncomputable def freeOf (t : List (Int × T3)) : List Int := (srt (t.map (·.1))).filter (freeP t)
theorem filter_take_pos {α : Type} {l : List α} {p : α → Bool} {i : Nat} {k : α} (h : l[i]? = some k) (hp : p k = true) : (l.take (i + 1)).filter p = (l.take i).filter p ++ [k] := by
  rw [List.take_add_one, h, List.filter_append]; simp [hp]
theorem filter_take_neg {α : Type} {l : List α} {p : α → Bool} {i : Nat} {k : α} (h : l[i]? = some k) (hp : p k = false) : (l.take (i + 1)).filter p = (l.take i).filter p := by
  rw [List.take_add_one, h, List.filter_append]; simp [hp]
/-- the table of a free chain: the first n numbers of the line -/
noncomputable def chainT (line : List Int) (gt : List (Int × Int)) : Nat → List (Int × T3)
  | 0 => []
  | n + 1 => gPut (chainT line gt n) (line.getD n 0) (("free" : Str), line.getD (n + 1) 0, if n = 0 then 65535 else (gAt gt (line.getD n 0)).getD 0)
theorem chainT_length (line : List Int) (gt : List (Int × Int)) (n : Nat) : (chainT line gt n).length ≤ n := by
  induction n with
  | zero => exact Nat.le_refl _
  | succ n ih => exact Nat.le_trans (gPut_length _ _ _) (Nat.succ_le_succ ih)
section
variable {prog : Program} {w : World} {A : Around} {E : Value → Shared → Prop} {s : Shared} {d : Addr} {kvs : List (Int × Value)} {k : Int} {t : Tok}
theorem in_tblB {β : Type} {V : Value → β → Prop} {tb : List (Int × β)} {b : Bool} {Q : Value → Shared → Prop} (hd : s.heap.DictOf (intKind prog w) d kvs) (lo : (d == sysModules) = false) (al : Al (fun kv r => kv.1 = r.1 ∧ V kv.2 r.2) kvs tb) (hb : (gAt tb k).isSome = b) (h : Q (.bool b) { s with toks := s.toks + 1 }) :
    wpAny (model prog w) A (compareOp .In (.int k t) (.ref d)) Q E s := in_tbl hd lo al (hb ▸ h)
theorem notin_tblB {β : Type} {V : Value → β → Prop} {tb : List (Int × β)} {b : Bool} {Q : Value → Shared → Prop} (hd : s.heap.DictOf (intKind prog w) d kvs) (lo : (d == sysModules) = false) (al : Al (fun kv r => kv.1 = r.1 ∧ V kv.2 r.2) kvs tb) (hb : (gAt tb k).isSome = b) (h : Q (.bool (!b)) { s with toks := s.toks + 1 }) :
    wpAny (model prog w) A (compareOp .NotIn (.int k t) (.ref d)) Q E s := notin_tbl hd lo al (hb ▸ h)
end
/-- the law's own walk -/
noncomputable def walkF (t : List (Int × T3)) : Nat → List Int → Int → Option (List Int)
  | 0, _, _ => none
  | n + 1, found, here => match gAt t here with
    | some (way, one, _) => if way = ("free" : Str) then (if one = 0 then some found else if one ∈ found then none else walkF t n (found ++ [one]) one) else none
    | none => none
theorem any_mem {l : List Int} {k : Int} (q : (l.any fun x => x == k) = true) : k ∈ l := by simpa using q
theorem any_nmem {l : List Int} {k : Int} (q : (l.any fun x => x == k) = false) : ¬ k ∈ l := by
  intro hm
  rw [List.any_eq_false] at q
  exact q k hm (by simp)
section
variable {prog : Program} {w : World} {A : Around} {E : Value → Shared → Prop} {s : Shared} {d : Addr} {kvs : List (Int × Value)} {k : Int} {t : Tok}
theorem get1_dictB {x : Option Value} {Q : Value → Shared → Prop} (hd : s.heap.DictOf (intKind prog w) d kvs) (lo : (d == sysModules) = false) (hx : valueAt kvs k = x) (h : Q (x.getD .none) { s with toks := s.toks + 1 }) :
    wpAny (model prog w) A (call (.builtin "dict.get") [.ref d, .int k t]) Q E s := get1_dict hd lo (hx ▸ h)
theorem in_keys {ks : List Int} {Q : Value → Shared → Prop} (hd : s.heap.DictOf (intKind prog w) d kvs) (lo : (d == sysModules) = false) (hk : kvs.map (·.1) = ks) (h : Q (.bool (ks.any fun x => x == k)) { s with toks := s.toks + 1 }) :
    wpAny (model prog w) A (compareOp .In (.int k t) (.ref d)) Q E s := by
  refine in_dict hd lo ?_
  have e : (valueAt kvs k).isSome = (ks.any fun x => x == k) := by
    rw [← hk]
    clear hd hk h
    unfold valueAt
    induction kvs with
    | nil => rfl
    | cons a l ih =>
      rw [List.find?_cons, List.map_cons, List.any_cons]
      by_cases q : a.1 = k
      · simp [q]
      · simp only [q, decide_false]
        rw [ih]
        simp [q]
  rw [e]; exact h
end
theorem nodup_le {l r : List Int} (hn : l.Nodup) (hs : ∀ k ∈ l, k ∈ r) : l.length ≤ r.length := by
  induction l generalizing r with
  | nil => exact Nat.zero_le _
  | cons a l ih =>
    rw [List.nodup_cons] at hn
    have ha := hs a (.head _)
    have h1 := ih (r := r.erase a) hn.2 (fun k hk => (List.mem_erase_of_ne (fun q : k = a => hn.1 (by rw [← q]; exact hk))).mpr (hs k (.tail _ hk)))
    rw [List.length_erase_of_mem ha] at h1
    have := List.length_pos_of_mem ha
    rw [List.length_cons]; omega
theorem append_L {prog : Program} {w : World} {A : Around} {E : Value → Shared → Prop} {s : Shared} {h₀ : Heap} {L D : Addr} {m : Str → Option Value} {news news' : List (Addr × Obj)} {vs : List Value} {n : Nat} {x : Value} {Q : Value → Shared → Prop} (F : Fr h₀ L s.heap m) (N : News h₀ L s.heap news) (U : Upd D (listOf vs.toArray n) (listOf (vs ++ [x]).toArray (n + 1)) news news') (hsz : vs.length ≤ 1000)
    (h : ∀ h', Fr h₀ L h' m → News h₀ L h' news' → Q .none { s with heap := h' }) : wpAny (model prog w) A (call (.builtin "list.append") [.ref D, x]) Q E s := by
  have e : (vs ++ [x]).toArray = vs.toArray.push x := by simp
  rw [e] at U
  exact append_K (hsz := by rw [List.size_toArray, sizeLine_eq]; omega) F N U h
theorem al_fr {w : World} {h₀ h : Heap} {L : Addr} {m : Str → Option Value} {kvs : List (Int × Value)} {tbl : List (Int × T3)} (F : Fr h₀ L h m) (x : Al (fun kv r => kv.1 = r.1 ∧ EntAt w (inH h₀) kv.2 r.2) kvs tbl) : Al (fun kv r => kv.1 = r.1 ∧ EntAt w (inH h) kv.2 r.2) kvs tbl :=
  x.mono fun kv r z => ⟨z.1, z.2.le fun a o e => F.keep _ _ e⟩
/-- a list of faults: pairs of a number and something told -/
noncomputable def FaultAt (R : Has) (v : Value) (n : Int) : Prop := ∃ a t x, v = .ref a ∧ R a (tupOf [.int n t, x])
theorem FaultAt.le {R R' : Has} {v : Value} {n : Int} (x : FaultAt R v n) (h : R.le R') : FaultAt R' v n := let ⟨a, t, y, e, z⟩ := x; ⟨a, t, y, e, h _ _ z⟩
/-- what the faults of a table are -/
noncomputable def overP (t : List (Int × T3)) (met : List Int) (k : Int) : Bool := !(met.any fun x => x == k) && (match gAt t k with | some r => (r.2.1 != 0) || (r.2.2 != 65535) | none => false)
noncomputable def zeroF (t : List (Int × T3)) : List Int := match gAt t 0 with | some r => if r.2.2 ≠ 65535 then [0] else [] | none => []
noncomputable def faultsOf (t : List (Int × T3)) : List Int :=
  (if (walkF t (t.length + 1) [] 0).isNone then [0] else []) ++ zeroF t ++ (freeOf t).filter (overP t ((walkF t (t.length + 1) [] 0).getD (freeOf t)))
end
local macro_rules | `(tactic| k_inst) => `(tactic| (exact inst_fr ‹_› ‹_› ‹_›))
local macro_rules | `(tactic| walk_at "subscriptTail") => `(tactic| ((with_reducible show wpAny _ _ (subscriptTail _ _ (Value.ref _) (Value.int _ _)) _ _ _); k_dflt (first | (refine' item_dict (by exact dictOf_fr (by assumption) (by assumption)) ‹_› ?_; k_whole) | (refine' item_tup ‹_› ‹_› (by decide) (by decide) (by rfl) ?_; k_whole))))
local macro_rules | `(tactic| walk_at "m islist") => `(tactic| first | (exact News.isList ‹_› (by k_mem)) | (exact isList_fr ‹_› ‹_›))
local macro_rules | `(tactic| walk_at "call builtin:len") => `(tactic| ((with_reducible show wpAny _ _ (call (Value.builtin "len") [Value.ref _]) _ _ _); k_dflt (refine' len_ints (by walk_at "m islist") ‹_› (by kxw_int) ?_; k_whole)))
local macro_rules | `(tactic| walk_at "subscriptTail") => `(tactic| ((with_reducible show wpAny _ _ (subscriptTail _ _ (Value.ref _) (Value.int _ _)) _ _ _); k_dflt (refine' item_ints (by walk_at "m islist") ‹_› (by kxw_int) (by kxw_int) (by kxw_int) ?_; k_whole); intro n' t' hn'))
local macro_rules | `(tactic| walk_at "m dict") => `(tactic| first | (exact dictOf_fr ‹_› ‹_›) | (exact kda_dict ‹_› (by k_mem) ‹_›))
local macro_rules | `(tactic| walk_at "getMethod ref") => `(tactic| ((with_reducible show wpAny _ _ (getMethod (Value.ref _) (PySem.Str.ofString "get") _) _ _ _); k_dflt (refine' getm_dict (by walk_at "m dict") ?_; k_whole)))
local macro_rules | `(tactic| walk_at "call builtin:dict.get") => `(tactic| ((with_reducible show wpAny _ _ (call (Value.builtin "dict.get") [Value.ref _, Value.int _ _, Value.int _ _]) _ _ _); k_dflt (refine' get2_ints (by walk_at "m dict") ‹_› ‹_› ?_; k_whole); intro t'))
local macro_rules | `(tactic| walk_at "call builtin:len") => `(tactic| ((with_reducible show wpAny _ _ (call (Value.builtin "len") [Value.ref _]) _ _ _); k_dflt (refine' len_dict (by walk_at "m dict") ‹_› (by kxw_int) ?_; k_whole)))
local macro_rules | `(tactic| walk_at "compareOp In int ref") => `(tactic| (k_dflt (refine' in_tbl (by walk_at "m dict") ‹_› ‹_› ?_; k_whole)))
local macro_rules | `(tactic| walk_at "compareOp NotIn int ref") => `(tactic| (k_dflt (refine' notin_tbl (by walk_at "m dict") ‹_› ‹_› ?_; k_whole)))
local macro_rules | `(tactic| walk_at "setItem ref int") => `(tactic| (k_dflt (refine' set_dictN ‹_› ‹_› (by k_updF) ‹_› (by kxw_int) ?_; k_whole); intro h' o' F' N' d'; (try dsimp only at N')))
local macro_rules | `(tactic| walk_at "compareOp In int ref") => `(tactic| (k_dflt (refine' in_tblB (by walk_at "m dict") ‹_› ‹_› ‹_› ?_; k_whole)))
local macro_rules | `(tactic| walk_at "compareOp NotIn int ref") => `(tactic| (k_dflt (refine' notin_tblB (by walk_at "m dict") ‹_› ‹_› ‹_› ?_; k_whole)))
local macro_rules | `(tactic| walk_at "call builtin:dict.get") => `(tactic| ((with_reducible show wpAny _ _ (call (Value.builtin "dict.get") [Value.ref _, Value.int _ _]) _ _ _); k_dflt (refine' get1_dictB (by walk_at "m dict") ‹_› ‹_› ?_; k_whole); (try dsimp only [Option.getD])))
local macro_rules | `(tactic| walk_at "compareOp In int ref") => `(tactic| (k_dflt (refine' in_keys (by walk_at "m dict") ‹_› ‹_› ?_; k_whole)))
local macro_rules | `(tactic| walk_at "call builtin:list.append") => `(tactic| ((with_reducible show wpAny _ _ (call (Value.builtin _) [Value.ref _, _]) _ _ _); k_dflt (refine' append_L ‹_› ‹_› (by k_upd) (by kxw_int) ?_; k_whole); intro h' F' N'))
local macro_rules | `(tactic| walk_at "m al") => `(tactic| first | assumption | (exact al_fr ‹_› ‹_›))
section
open PySem PySem.W PySem.Calls PyProof.Rows
set_option maxRecDepth 100000
set_option maxHeartbeats 400000
local macro_rules | `(tactic| walk_at "subscriptTail") => `(tactic| ((with_reducible show wpAny _ _ (subscriptTail _ _ (Value.ref _) (Value.int _ _)) _ _ _); k_dflt (first | (refine' item_dict (by exact dictOf_fr (by assumption) (by assumption)) ‹_› ?_; k_whole) | (refine' item_tup ‹_› ‹_› (by decide) (by decide) (by rfl) ?_; k_whole))))

theorem entries_call {w : World} {fr : Option (List Env)} {gd : Option (List Code)} {dp un : Nat} {s : Shared} {base h₀ : Heap} {outer : List Env} {L : Addr} {m mg mb : Str → Option Value} {mean : ExcName → Option Value} {env : Env} {news : List (Addr × Obj)}
  {T : Addr} {kvs : List (Int × Value)} {tbl : List (Int × T3)} {Q : Value → Shared → Prop} {E : Value → Shared → Prop}
  (B : Below { handled := none, depth := dp, frames := fr, guards := gd, units := un } base outer h₀) (F : Fr h₀ L s.heap m) (X₀ : (hd.heap_39 w.params).In h₀) (TT : Top VW LO mean mg mb h₀)
  (N : News h₀ L s.heap news)
  (hf : env.frame = some L) (hke : env.scope.kind = .function) (hdp : dp ≤ 790) (hun : un ≤ 7900)
  (hT : s.heap.DictOf (intKind PR w) T kvs) (lo : (T == sysModules) = false) (hrows : Al (fun kv r => kv.1 = r.1 ∧ RowAt (inH s.heap) kv.2 r.2) kvs tbl) (hlen : tbl.length ≤ 60) (hnd : (kvs.map (·.1)).Nodup)
  (hQ : ∀ d out h' tk, Fr h₀ L h' m → News h₀ L h' (out ++ news) → (∀ p ∈ out, ∀ b o, s.heap.get? b = some o → p.1 ≠ b) → DictAt' w (EntAt w (inL out)) (inL out) d tbl → Q (.ref d) { s with heap := h', toks := tk }) :
  wpAny (model PR w) (({ handled := none, depth := dp, frames := fr, guards := gd, units := un } : Around).deeper env) (call (.ref 156) [.ref T]) Q E s := by
  refine' my_callC (binds := [(Str.ofString "table", .ref T)]) B F X₀ News.nil TT hf hke ?k6 ?k7 ?k8 ?k9 ?kB ?kD ?_ ?c2 ?c3 ?c4
  walk_at "m callC"
  intro g L' h₁ tk₁ cells Qb hG hGs hsz F' N' Y' hlt B' X' T' hret hnext
  k_cells Y'
  rename_i o' d1'
  have hTg : g.DictOf (intKind PR w) T kvs := by
    obtain ⟨o, es, ep, ho, r⟩ := hT
    exact ⟨o, es, ep, hG _ _ ho (by simp), r⟩
  simp only [List.append_nil] at N'
  have d1 : o'.data = .cell (some (.ref T)) := d1'
  have hrg : Al (fun kv r => kv.1 = r.1 ∧ RowAt (inH g) kv.2 r.2) kvs tbl := hrows.mono fun kv r z => ⟨z.1, z.2.le fun a o e => hG _ _ e (by simp)⟩
  have hTL : T ≠ L' := by
    rintro rfl
    obtain ⟨o, es, ep, ho, _⟩ := hTg
    exact absurd (Nat.lt_of_lt_of_le (Heap.lt_size ho) F'.above) (Nat.lt_irrefl _)
  have hTc : T ≠ L' + 1 := by
    rintro rfl
    obtain ⟨o, es, ep, ho, _⟩ := hTg
    exact absurd (Nat.lt_of_lt_of_le (Heap.lt_size ho) F'.above) (by omega)
  have hkl : kvs.length = tbl.length := hrg.length
  walk_at "m walk"
  refine comp_eval (cl := [(Str.ofString "table", L' + 1)]) (h₀ := g) (L := L') ?hc ?hk ?hn ?hce ?hx ?_
  case hc => rfl
  case hk => rfl
  case hn => decide
  case hce => decide
  case hx => rfl
  walk_at "m walk"
  refine compAt_keys (knd := intKind PR w) (d := T) (kvs := kvs) (fun i ys nw => ∃ out prs, nw = (L' + 1, o') :: out ∧ (∀ p ∈ out, p.1 ≠ L' + 1) ∧ Al (fun v (p : Int × Value) => ∃ a key, v = .ref a ∧ (a, tupOf [key, p.2]) ∈ out ∧ (intKind PR w).is p.1 key = true) ys prs ∧ Al (fun p (r : Int × T3) => p.1 = r.1 ∧ EntAt w (inL out) p.2 r.2) prs (tbl.take i)) rfl ?hd lo hTL (by omega) (by assumption) N' ?hJ ?turn ?done
  case hd =>
    obtain ⟨o, es, ep, ho, r⟩ := hTg
    exact ⟨o, es, ep, Fr.keep (by assumption) _ _ ho, r⟩
  case hJ => exact ⟨[], [], rfl, (fun _ h => nomatch h), .nil, by rw [List.take_zero]; exact .nil⟩
  case turn =>
    intro I hIT i v ys nw h tk own C oC D ep mC hi hyl hP hJ hoC hv hown hn hfp hDC F1 N1
    obtain ⟨out, prs, rfl, hoff, a1, a2⟩ := hJ
    obtain ⟨k, x, hkx, hkv⟩ := hP
    obtain ⟨tk0, rfl⟩ := intKind_inv hkv
    obtain ⟨r, hr, hkr, ⟨a, t0, t1, t2, rfl, ha⟩⟩ := hrg.get hkx
    obtain ⟨k', r⟩ := r
    obtain ⟨way, one, two⟩ := r
    dsimp only at hkr ha
    subst hkr
    have ha' : g.get? a = some (tupOf [.str way t0, .int one t1, .int two t2]) := ha
    have hva : valueAt kvs k = some (.ref a) := valueAt_of_get hnd hkx
    clear hQ hret hnext hrows hT hG hGs F X₀ TT N B F' N' d1' hlt
    have hCD : @LT.lt Nat _ D C := hDC
    have hI := hfp I (.head _)
    have hT2 := hfp T (.tail _ (.head _))
    have hc2 := hn (L' + 1, o') (.head _)
    show wpAny _ _ (pure true) _ _ _
    refine wpAny_pure ?_
    rw [if_pos rfl]
    have N2 : News g L' h ((C, oC) :: (D, listOf ys.toArray ep) :: (L' + 1, o') :: (own ++ out)) := news_sub N1 (by walk_at "m subl")
    obtain ⟨rest, hrest⟩ : ∃ r, r = own ++ out := ⟨_, rfl⟩
    rw [← hrest] at N2
    clear N1
    walk_at "m walk"
    walk_at "m walk"
    rename_i x1 dx1 k0 k1 k2 h1 tk1 l2 l1 lC l4 D1 h2 F2 N2 hk9 l3
    have hC1 : @LT.lt Nat _ C dx1 := l1 (C, oC) (.head _)
    have hD1 : @LT.lt Nat _ D dx1 := l1 (D, _) (.tail _ (.head _))
    have hc1 : @LT.lt Nat _ (L' + 1) dx1 := l1 (L' + 1, o') (.tail _ (.tail _ (.head _)))
    have hI1 : @LT.lt Nat _ I D := hI.1
    have hx1 : @LT.lt Nat _ dx1 x1 := l2
    have hT1 : @LT.lt Nat _ x1 D1 := l3.1
    subst hrest
    refine CompEnd.intro ((L' + 1, o') :: (D1, tupOf [.int k tk0, .ref x1]) :: (x1, instObj 78 dx1) :: (dx1, entD w (way, one, two) k0 k1 k2 t0 t1 t2) :: out) F2 (news_sub N2 (by walk_at "m subl")) ?_ ⟨(D1, tupOf [.int k tk0, .ref x1]) :: (x1, instObj 78 dx1) :: (dx1, entD w (way, one, two) k0 k1 k2 t0 t1 t2) :: out, prs ++ [(k, .ref x1)], rfl, ?_, ?_, ?_⟩
    · intro p hp
      simp only [List.mem_cons] at hp
      rcases hp with rfl | rfl | rfl | rfl | hp
      · exact hn _ (.head _)
      · exact ⟨Ne.symm (Nat.ne_of_lt (by omega)), Ne.symm (Nat.ne_of_lt (by omega)), Ne.symm (Nat.ne_of_lt (by omega))⟩
      · exact ⟨Ne.symm (Nat.ne_of_lt (by omega)), Ne.symm (Nat.ne_of_lt (by omega)), Ne.symm (Nat.ne_of_lt (by omega))⟩
      · exact ⟨Ne.symm (Nat.ne_of_lt (by omega)), Ne.symm (Nat.ne_of_lt (by omega)), Ne.symm (Nat.ne_of_lt (by omega))⟩
      · exact hn _ (.tail _ hp)
    · intro p hp
      simp only [List.mem_cons] at hp
      rcases hp with rfl | rfl | rfl | hp
      · exact Ne.symm (Nat.ne_of_lt (by omega))
      · exact Ne.symm (Nat.ne_of_lt (by omega))
      · exact Ne.symm (Nat.ne_of_lt (by omega))
      · exact hoff _ hp
    · refine Al.snoc (a1.mono fun v p ⟨a, key, e, hm, hk⟩ => ⟨a, key, e, .tail _ (.tail _ (.tail _ hm)), hk⟩) ⟨D1, .int k tk0, rfl, .head _, hkv⟩
    · rw [List.take_add_one, hr]
      refine Al.snoc (a2.mono fun p r ⟨e, z⟩ => ⟨e, z.le fun a o hm => .tail _ (.tail _ (.tail _ hm))⟩) ⟨rfl, x1, dx1, k0, k1, k2, t0, t1, t2, rfl, .tail _ (.head _), .tail _ (.tail _ (.head _))⟩
  case done =>
    intro D h' tk ep ys nw hJ F1 N1 hne hyl
    obtain ⟨out, prs, rfl, hoff, a1, a2⟩ := hJ
    have pm : PassMark := passMark
    walk_at "m walk"
    clear pm
    have hprs : prs.map (·.1) = kvs.map (·.1) := by
      rw [al_keys a2, hkl, List.take_length, ← al_keys hrows]
    refine dict_pairs (pairs := prs) rfl F1 N1 T'.nolimit (N1.get (.head _)) ?_ ?_ (hprs ▸ hnd) ?_
    · exact a1.mono fun v p ⟨a, key, e, hm, hk⟩ => ⟨a, key, e, N1.get (.tail _ (.tail _ hm)), hk⟩
    · have : ys.length ≤ 1000 := by omega
      exact this
    intro d o h2 tk2 F2 N2 l2 lod hdo
    refine hret _ _ ?_
    obtain ⟨FF, NN, KK, AA⟩ := my_back F N hG F2 N2 (fun q => nomatch q) (fun b q => nomatch q)
    refine hQ d ((d, o) :: (D, _) :: (L' + 1, o') :: out) h2 tk2 FF (fun p hp => ?_) (fun p hp b o' e => AA p hp (fun q => nomatch q) b o' e (fun q => nomatch q)) ?_
    · rcases List.mem_append.mp hp with hp | hp
      · exact NN p hp
      · exact KK p hp (fun q => nomatch q)
    · refine ⟨o, prs, .head _, hdo, lod, ?_⟩
      rw [hkl, List.take_length] at a2
      exact a2.mono fun p r ⟨e, z⟩ => ⟨e, z.le fun a o hm => .tail _ (.tail _ (.tail _ hm))⟩
end
section
open PySem PySem.W PySem.Calls PyProof.Rows
set_option maxRecDepth 100000
set_option maxHeartbeats 400000
theorem numbers_call {w : World} {fr : Option (List Env)} {gd : Option (List Code)} {dp un : Nat} {s : Shared} {base h₀ : Heap} {outer : List Env} {L : Addr} {m mg mb : Str → Option Value} {mean : ExcName → Option Value} {env : Env} {news : List (Addr × Obj)}
  {T : Addr} {kvs : List (Int × Value)} {tbl : List (Int × T3)} {Q : Value → Shared → Prop} {E : Value → Shared → Prop}
  (B : Below { handled := none, depth := dp, frames := fr, guards := gd, units := un } base outer h₀) (F : Fr h₀ L s.heap m) (X₀ : (hd.heap_39 w.params).In h₀) (TT : Top VW LO mean mg mb h₀)
  (N : News h₀ L s.heap news)
  (hf : env.frame = some L) (hke : env.scope.kind = .function) (hdp : dp ≤ 790)
  (hT : s.heap.DictOf (intKind PR w) T kvs) (lo : (T == sysModules) = false) (hrows : Al (fun kv r => kv.1 = r.1 ∧ EntAt w (inH s.heap) kv.2 r.2) kvs tbl) (hlen : tbl.length ≤ 60) (hnd : (kvs.map (·.1)).Nodup)
  (hQ : ∀ d out h' tk vs c, Fr h₀ L h' m → News h₀ L h' (out ++ news) → (∀ p ∈ out, ∀ b o, s.heap.get? b = some o → p.1 ≠ b) → (∀ q ∈ news, ∀ p ∈ out, p.1 ≠ q.1) → (d, listOf vs.toArray c) ∈ out → IntsAre vs (freeOf tbl) → Q (.ref d) { s with heap := h', toks := tk }) :
  wpAny (model PR w) (({ handled := none, depth := dp, frames := fr, guards := gd, units := un } : Around).deeper env) (call (.ref 92) [.ref T]) Q E s := by
  refine' my_callC (binds := [(Str.ofString "entries", .ref T)]) B F X₀ News.nil TT hf hke ?k6 ?k7 ?k8 ?k9 ?kB ?kD ?_ ?c2 ?c3 ?c4
  walk_at "m callC"
  intro g L' h₁ tk₁ cells Qb hG hGs hsz F' N' Y' hlt B' X' T' hret hnext
  k_cells Y'
  rename_i o' d1'
  have hTg : g.DictOf (intKind PR w) T kvs := by
    obtain ⟨o, es, ep, ho, r⟩ := hT
    exact ⟨o, es, ep, hG _ _ ho (by simp), r⟩
  simp only [List.append_nil] at N'
  have d1 : o'.data = .cell (some (.ref T)) := d1'
  have hrg : Al (fun kv r => kv.1 = r.1 ∧ EntAt w (inH g) kv.2 r.2) kvs tbl := hrows.mono fun kv r z => ⟨z.1, z.2.le fun a o e => hG _ _ e (by simp)⟩
  have hTL : T ≠ L' := by
    rintro rfl
    obtain ⟨o, es, ep, ho, _⟩ := hTg
    exact absurd (Nat.lt_of_lt_of_le (Heap.lt_size ho) F'.above) (Nat.lt_irrefl _)
  have hkl : kvs.length = tbl.length := hrg.length
  walk_at "m walk"
  refine comp_eval (cl := [(Str.ofString "entries", L' + 1)]) (h₀ := g) (L := L') ?hc ?hk ?hn ?hce ?hx ?_
  case hc => rfl
  case hk => rfl
  case hn => decide
  case hce => decide
  case hx => rfl
  walk_at "m walk"
  refine sorted_keys rfl F' N' (dictOf_fr hTg F') lo (by omega) ?_
  intro S c h2 tk2 vs ns F2 N2 l2 hi hp ho
  have hns : ns = srt (tbl.map (·.1)) := (srt_of hp ho).trans (by rw [al_keys hrg])
  have hvl : vs.length = tbl.length := by rw [hi.length, hns, (srt_perm _).length_eq, List.length_map]
  have hc2 : @LT.lt Nat _ (L' + 1) S := l2 (L' + 1, o') (.head _)
  have hSL : S ≠ L' := (N2 _ (.head _)).2.1
  refine compAt_list (its := vs.toArray) (fun i ys nw => nw = [(S, listOf vs.toArray c), (L' + 1, o')] ∧ IntsAre ys ((ns.take i).filter (freeP tbl))) rfl (News.isList N2 (.head _)) hSL (by simp; omega) F2 N2 ⟨rfl, by simp; exact .nil⟩ ?turn ?done
  case turn =>
    intro I hIT i v ys nw h tk own C oC D ep mC hi' hyl hP hJ hoC hv hown hn hfp hDC F1 N1
    clear hQ hret hnext hrows hT hG hGs F X₀ TT N B F' N' d1' hlt
    obtain ⟨rfl, a1⟩ := hJ
    obtain ⟨k, tk0, hk, rfl⟩ := ints_get hi (by simpa using hP)
    obtain ⟨kx, hkx, hkk⟩ : ∃ kx, kx ∈ kvs ∧ kx.1 = k := by
      have : k ∈ ns := List.mem_of_getElem? hk
      rw [hns, (srt_perm _).mem_iff, ← al_keys hrg] at this
      exact List.mem_map.mp this
    obtain ⟨j, hj⟩ := List.getElem?_of_mem hkx
    obtain ⟨r, hr, hkr, ⟨a, dx, k0, k1, k2, t0, t1, t2, hae, ha, hdx⟩⟩ := hrg.get hj
    obtain ⟨kk, va⟩ := kx
    dsimp only at hkk hae hkr
    subst hkk hae
    have hva : valueAt kvs kk = some (.ref a) := valueAt_of_get hnd hj
    obtain ⟨k', way, one, two⟩ := r
    dsimp only at hkr
    subst hkr
    have hgr : gAt tbl kk = some (way, one, two) := gAt_of_get (al_keys hrg ▸ hnd) hr
    have ha' : g.get? a = some (instObj 78 dx) := ha
    have hdx' : g.get? dx = some (entD w (way, one, two) k0 k1 k2 t0 t1 t2) := hdx
    have hCD : @LT.lt Nat _ D C := hDC
    have N3 : News g L' h ((C, oC) :: (D, listOf ys.toArray ep) :: (L' + 1, o') :: (S, listOf vs.toArray c) :: own) := news_sub N1 (by walk_at "m subl")
    clear N1 N2
    walk_at "m walk"
    all_goals (refine CompEnd.intro [(S, listOf vs.toArray c), (L' + 1, o')] F1 (news_sub N3 (by walk_at "m subl")) hn ⟨rfl, ?_⟩)
    · rw [filter_take_pos hk (by rw [freeP_eq hgr]; first | (have q : ¬ 0 < kk := by omega); simp [q] | (have q : 0 < kk := by assumption); simp [q]; assumption | simp_all)]
      exact ksk_snoc a1
    all_goals (rw [filter_take_neg hk (by rw [freeP_eq hgr]; first | (have q : ¬ 0 < kk := by omega); simp [q] | (have q : 0 < kk := by assumption); simp [q]; assumption | simp_all)]; exact a1)
  case done =>
    intro D h' tk ep ys nw hJ F1 N1 hne hyl
    obtain ⟨rfl, a1⟩ := hJ
    refine hret _ _ ?_
    obtain ⟨FF, NN, KK, AA⟩ := my_back F N hG F1 N1 (fun q => nomatch q) (fun b q => nomatch q)
    refine hQ D [(D, listOf ys.toArray ep), (S, listOf vs.toArray c), (L' + 1, o')] h' tk ys ep FF (fun p hp => ?_) (fun p hp b o' e => AA p hp (fun q => nomatch q) b o' e (fun q => nomatch q)) (fun q hq p hp => AA p hp (fun q => nomatch q) q.1 q.2 (N q hq).1 (fun q => nomatch q)) (.head _) ?_
    · rcases List.mem_append.mp hp with hp | hp
      · exact NN p hp
      · exact KK p hp (fun q => nomatch q)
    · have : vs.toArray.size = ns.length := by rw [List.size_toArray, hi.length]
      rw [this, List.take_length, hns] at a1
      exact a1
end
local macro_rules | `(tactic| walk_at "call ref") => `(tactic| ((with_reducible show wpAny _ _ (call (Value.ref 92) _) _ _ _); k_dflt (refine' numbers_call ‹_› ‹_› ‹_› ‹_› ‹_› (by exact rfl) (by exact rfl) (by walk_at "m d") (by walk_at "m dict") ‹_› (by walk_at "m al") ‹_› ‹_› ?_); (intro d' out' h' tk' vs' c' F' N' ap' aq' hm' hi')))
section
open PySem PySem.W PySem.Calls PyProof.Rows
set_option maxRecDepth 100000
set_option maxHeartbeats 400000
theorem pen_call {w : World} {fr : Option (List Env)} {gd : Option (List Code)} {dp un : Nat} {s : Shared} {base h₀ : Heap} {outer : List Env} {L : Addr} {m mg mb : Str → Option Value} {mean : ExcName → Option Value} {env : Env} {news : List (Addr × Obj)}
  {S : Addr} {vs : List Value} {ns : List Int} {Q : Value → Shared → Prop} {E : Value → Shared → Prop}
  (B : Below { handled := none, depth := dp, frames := fr, guards := gd, units := un } base outer h₀) (F : Fr h₀ L s.heap m) (X₀ : (hd.heap_39 w.params).In h₀) (TT : Top VW LO mean mg mb h₀)
  (N : News h₀ L s.heap news)
  (hf : env.frame = some L) (hke : env.scope.kind = .function) (hdp : dp ≤ 790) (hun : un ≤ 7900)
  (hS : s.heap.IsList S vs.toArray) (hi : IntsAre vs ns) (hlen : ¬ 63 < ns.length)
  (hQ : ∀ P C pen h' tk, Fr h₀ L h' m → News h₀ L h' ((P, Pen.p pen C) :: (C, Pen.c pen) :: news) → P ≠ C → (∀ b o, s.heap.get? b = some o → P ≠ b ∧ C ≠ b) → Q (.ref P) { s with heap := h', toks := tk }) :
  wpAny (model PR w) (({ handled := none, depth := dp, frames := fr, guards := gd, units := un } : Around).deeper env) (call (.ref 111) [.ref S]) Q E s := by
  refine' my_call (binds := [(Str.ofString "script", .ref S)]) B F X₀ News.nil TT hf hke ?k6 ?k7 ?k8 ?k9 ?kB ?_ ?c2 ?c3 ?c4 ?c5
  walk_at "m call"
  intro g L' h₁ Qb hG hGs hsz F' N' hlt B' X' T' hret hnext
  have hSg : g.IsList S vs.toArray := hS.at fun o e => hG _ o e (by simp)
  clear X₀ TT hlt
  have pm : PassMark := passMark
  repeat' (first | walk1 | (dsimp only; walk1))
  all_goals (try clear pm)
  rename_i D1 ws h2 hI1 hC1 hL1 hk1 l1 e1 e2 g' hI8 hL8 D2 h3 tk3 n12 P h4 F4 N4 hk4 l4
  obtain ⟨FF, NN, KK, AA⟩ := my_back F N hG F4 N4 (fun q => nomatch q) (fun b q => nomatch q)
  have hys : ys.length ≤ 63 := by rw [hL8, List.length_map, List.length_take]; omega
  refine hret _ _ (hQ P D2 ⟨0, tk3, 0, tk3 + 1, ys, 0, ys.length, ⟨_, hI8⟩, hys⟩ _ _ FF (fun p hp => ?_) (Ne.symm (Nat.ne_of_lt l4.1)) (fun b o e => ⟨AA _ (.head _) (fun q => nomatch q) b o e (fun q => nomatch q), AA _ (.tail _ (.head _)) (fun q => nomatch q) b o e (fun q => nomatch q)⟩))
  rcases List.mem_cons.mp hp with rfl | hp
  · exact NN _ (.head _)
  rcases List.mem_cons.mp hp with rfl | hp
  · exact NN _ (.tail _ (.head _))
  · exact KK p hp (fun q => nomatch q)
end
section
open PySem PySem.W PySem.Calls PyProof.Rows
set_option maxRecDepth 100000
set_option maxHeartbeats 1000000
theorem chain_call {w : World} {fr : Option (List Env)} {gd : Option (List Code)} {dp un : Nat} {s : Shared} {base h₀ : Heap} {outer : List Env} {L : Addr} {m mg mb : Str → Option Value} {mean : ExcName → Option Value} {env : Env} {news : List (Addr × Obj)}
  {A G : Addr} {vs : List Value} {ns : List Int} {kvs : List (Int × Value)} {gt : List (Int × Int)} {Q : Value → Shared → Prop} {E : Value → Shared → Prop}
  (B : Below { handled := none, depth := dp, frames := fr, guards := gd, units := un } base outer h₀) (F : Fr h₀ L s.heap m) (X₀ : (hd.heap_39 w.params).In h₀) (T : Top VW LO mean mg mb h₀)
  (N : News h₀ L s.heap news)
  (hf : env.frame = some L) (hke : env.scope.kind = .function) (hdp : dp ≤ 790) (hun : un ≤ 7900) (hA : s.heap.IsList A vs.toArray) (hi : IntsAre vs ns) (hlen : ns.length ≤ 40)
  (hG : s.heap.DictOf (intKind PR w) G kvs) (lo : (G == sysModules) = false) (hgt : Al (fun kv r => kv.1 = r.1 ∧ IntAt kv.2 r.2) kvs gt)
  (hQ : ∀ d out h' tk line, Fr h₀ L h' m → News h₀ L h' (out ++ news) → (∀ p ∈ out, ∀ b o, s.heap.get? b = some o → p.1 ≠ b) → line = 0 :: List.filter (fun a => decide (0 < a)) (srt ns) → DictAt' w (EntAt w (inL out)) (inL out) d (chainT line gt line.length) → Q (.ref d) { s with heap := h', toks := tk }) :
  wpAny (model PR w) (({ handled := none, depth := dp, frames := fr, guards := gd, units := un } : Around).deeper env) (call (.ref 87) [.ref A, .ref G]) Q E s := by
  refine' my_call (binds := [(Str.ofString "numbers", .ref A), (Str.ofString "generations", .ref G)]) B F X₀ News.nil T hf hke ?k6 ?k7 ?k8 ?k9 ?kB ?_ ?c2 ?c3 ?c4 ?c5
  walk_at "m call"
  intro g L' h₁ Qb hG' hGs hsz F' N' hlt B' X' T' hret hnext
  have hAg : g.IsList A vs.toArray := hA.at fun o e => hG' _ o e (by simp)
  have hGg : g.DictOf (intKind PR w) G kvs := by
    obtain ⟨o, es, ep, ho, r⟩ := hG
    exact ⟨o, es, ep, hG' _ _ ho (by simp), r⟩
  have fin : ∀ d out h' tk line mm, Fr g L' h' mm → News g L' h' out → line = 0 :: List.filter (fun a => decide (0 < a)) (srt ns) → DictAt' w (EntAt w (inL out)) (inL out) d (chainT line gt line.length) → Qb (.ret (.ref d)) { s with heap := h', toks := tk } := by
    intro d out h' tk line mm F1 N1 e hd
    obtain ⟨FF, NN, KK, AA⟩ := my_back F N hG' F1 N1 (fun q => nomatch q) (fun b q => nomatch q)
    refine hret _ _ (hQ d out h' tk line FF (fun p hp => ?_) (fun p hp b o' e => AA p hp (fun q => nomatch q) b o' e (fun q => nomatch q)) e hd)
    rcases List.mem_append.mp hp with hp | hp
    · exact NN p hp
    · exact KK p hp (fun q => nomatch q)
  clear hG' hGs N F X₀ T hret hnext hA hlt hQ hG
  dsimp only [List.length_cons, List.length_nil, List.reverse_cons, List.reverse_nil, List.nil_append, List.cons_append] at *
  have hlen2 : ns.length < 64 := by omega
  have pm : PassMark := passMark
  repeat' (first | walk1 | (dsimp only; walk1))
  all_goals (try clear pm)
  k_made
  rename_i l0 h2 hk0 _ D0 v0 n0 c0 h3 F3 N3 i0 e0 p0 o0 b0 p00 hk1 l1 D1 ys h4 tk4 F4 N4 z1 L4 z2 nX NX iX
  refine kmk_add_ints F4 NX (NX.isList (.tail _ (.tail _ (.head _)))) (NX.isList (.head _)) (.cons 0 _ .nil) iX ?_ ?hz
  case hz =>
    have := List.length_filter_le (fun a => decide (0 < a)) n0
    rw [sizeLine_eq, List.length_map]
    have : ([0] : List Int).length = 1 := rfl
    omega
  intro LL us h5 F5 N5 l5 hus
  have N6 := news_sub (l' := [(LL, listOf us.toArray 0)]) N5 (fun p hp => by rw [List.mem_singleton.mp hp]; exact .head _)
  have hn0 : n0 = srt ns := srt_of p0 o0
  rw [List.map_id'', hn0] at hus
  clear N5 F3 N3 F4 N4 L4 NX iX b0 p00 z1 z2 hk0 hk1
  dsimp only
  obtain ⟨line, hline⟩ : ∃ l : List Int, l = [0] ++ List.filter (fun a => decide (0 < a)) (srt ns) := ⟨_, rfl⟩
  rw [← hline] at hus
  have hll : line.length ≤ 41 := by
    have := List.length_filter_le (fun a => decide (0 < a)) (srt ns)
    have h3 := (srt_perm ns).length_eq
    rw [hline, List.length_append, List.length_singleton]; omega
  walk_at "m walk"
  rename_i dF h7 oF loF hsF fsF hiF fiF hkF lF h8 F8 N8 h9 tk9 t1 u1 v1 hr F9 N9 K9
  clear F8 N8 hsF fsF fiF
  refine my_range (n := line.length) (m₀ := _) (fun i m nw => ∃ (lv av : Option Value) (o' : Obj) (kv' : List (Int × Value)) (out : List (Addr × Obj)), m = (fun y : Str => if y = Str.ofString "later" then lv else if y = Str.ofString "at" then av else if y = Str.ofString "found" then some (.ref dF) else if y = Str.ofString "line" then some (.ref LL) else List.lookup y [(Str.ofString "numbers", Value.ref A), (Str.ofString "generations", Value.ref G)].reverse) ∧ nw = (dF, o') :: (LL, listOf us.toArray 0) :: out ∧ (∀ p ∈ out, p.1 ≠ dF ∧ p.1 ≠ LL) ∧ o'.IsDictOf (intKind PR w) kv' ∧ Al (fun kv r => kv.1 = r.1 ∧ EntAt w (inL out) kv.2 r.2) kv' (chainT line gt i)) rfl hr ?hs ?hn F9 N9 ?hJ ?turn ?done
  case hs => exact PySem.small_one (by decide) (by decide) (by omega) (by omega)
  case hn => simp [Builtin.Range.rangeSize]; intro h; simp [h]
  case hJ =>
    refine ⟨none, none, oF, [], [], ?_, rfl, (fun _ h => nomatch h), hiF, .nil⟩
    funext y
    by_cases h1 : y = Str.ofString "later"
    · subst h1; rfl
    · rw [if_neg h1]
      by_cases h2 : y = Str.ofString "at"
      · subst h2; rfl
      · rw [if_neg h2]
  case turn =>
    intro i t m₁ nw h tk I own hi hq91 hnI hown hq92 F1 N1
    obtain ⟨lv, av, o', kv', out, hm, hnw, hoff, hd', al⟩ := hq91
    obtain ⟨oI, hoI⟩ := hq92
    subst hm hnw
    rw [Int.zero_add] at F1
    change Fr g L' h _ at F1
    change News g L' h _ at N1
    obtain ⟨rest, hrest⟩ : ∃ r, r = own ++ out := ⟨_, rfl⟩
    have N2 : News g L' h ((dF, o') :: (LL, listOf us.toArray 0) :: rest) := news_sub N1 (by rw [hrest]; walk_at "m subl")
    have hk2 : ∀ p ∈ (LL, listOf us.toArray 0) :: rest, p.1 ≠ dF := by
      intro p hp
      rcases List.mem_cons.mp hp with rfl | hp
      · exact Nat.ne_of_lt lF.1
      · rcases List.mem_append.mp (hrest ▸ hp) with hp | hp
        · rw [hown p hp]; exact Ne.symm (hnI (dF, _) (.head _))
        · exact (hoff p hp).1
    have hkv : kv'.length ≤ 1000 := by
      rw [al.length]
      exact Nat.le_trans (chainT_length _ _ _) (by omega)
    have finT : ∀ (Qn : Flow → Shared → Prop) x1 dx1 k0 k1 k2 t0 t1 t2 (k a b : Int) h' tk' o1 (va vb : Value), Fr g L' h' (fun y : Str => if y = Str.ofString "later" then some va else if y = Str.ofString "at" then some vb else (fun y : Str => if y = Str.ofString "later" then lv else if y = Str.ofString "at" then av else if y = Str.ofString "found" then some (.ref dF) else if y = Str.ofString "line" then some (.ref LL) else List.lookup y [(Str.ofString "numbers", Value.ref A), (Str.ofString "generations", Value.ref G)].reverse) y) →
        News g L' h' ((x1, instObj 78 dx1) :: (dx1, entD w (("free" : Str), a, b) k0 k1 k2 t0 t1 t2) :: (dF, o1) :: (LL, listOf us.toArray 0) :: rest) → (∀ p ∈ (dF, o') :: (LL, listOf us.toArray 0) :: rest, p.1 < dx1) → @LT.lt Nat _ dx1 x1 → o1.IsDictOf (intKind PR w) (stored kv' k (.ref x1)) → k = line.getD i 0 → a = line.getD (i + 1) 0 → b = (if i = 0 then 65535 else (gAt gt (line.getD i 0)).getD 0) →
        TurnEnd g L' (fun m nw => ∃ (lv av : Option Value) (o' : Obj) (kv' : List (Int × Value)) (out : List (Addr × Obj)), m = (fun y : Str => if y = Str.ofString "later" then lv else if y = Str.ofString "at" then av else if y = Str.ofString "found" then some (.ref dF) else if y = Str.ofString "line" then some (.ref LL) else List.lookup y [(Str.ofString "numbers", Value.ref A), (Str.ofString "generations", Value.ref G)].reverse) ∧ nw = (dF, o') :: (LL, listOf us.toArray 0) :: out ∧ (∀ p ∈ out, p.1 ≠ dF ∧ p.1 ≠ LL) ∧ o'.IsDictOf (intKind PR w) kv' ∧ Al (fun kv r => kv.1 = r.1 ∧ EntAt w (inL out) kv.2 r.2) kv' (chainT line gt (i + 1))) I own { heap := h9, gens := s.gens, drawn := s.drawn, toks := tk9, os := s.os } Qn .next { heap := h', gens := s.gens, drawn := s.drawn, toks := tk', os := s.os } := by
      intro Qn x1 dx1 k0 k1 k2 t0 t1 t2 k a b h' tk' o1 va vb F3 N3 l3 l4 hd3 ek ea eb
      subst ek ea
      have hd1 : @LT.lt Nat _ dF dx1 := l3 (dF, o') (.head _)
      have hl1 : @LT.lt Nat _ LL dx1 := l3 (LL, _) (.tail _ (.head _))
      have hI1 : @LT.lt Nat _ I dx1 := l3 (I, oI) (.tail _ (.tail _ (hrest ▸ List.mem_append_left _ hoI)))
      refine TurnEnd.intro ((dF, o1) :: (LL, listOf us.toArray 0) :: (x1, instObj 78 dx1) :: (dx1, entD w (("free" : Str), line.getD (i + 1) 0, b) k0 k1 k2 t0 t1 t2) :: out) F3 (news_sub N3 (by rw [hrest]; walk_at "m subl")) ?_ ⟨some va, some vb, o1, stored kv' (line.getD i 0) (.ref x1), (x1, instObj 78 dx1) :: (dx1, entD w (("free" : Str), line.getD (i + 1) 0, b) k0 k1 k2 t0 t1 t2) :: out, ?_, rfl, ?_, hd3, ?_⟩
      · intro p hp
        simp only [List.mem_cons] at hp
        rcases hp with rfl | rfl | rfl | rfl | hp
        · exact hnI (dF, o') (.head _)
        · exact hnI (LL, _) (.tail _ (.head _))
        · exact Ne.symm (Nat.ne_of_lt (by omega))
        · exact Ne.symm (Nat.ne_of_lt (by omega))
        · exact hnI p (.tail _ (.tail _ hp))
      · funext y
        by_cases h1 : y = Str.ofString "later"
        · rw [if_pos h1, if_pos h1]
        · rw [if_neg h1, if_neg h1]
          by_cases h2 : y = Str.ofString "at"
          · rw [if_pos h2, if_pos h2]
          · rw [if_neg h2, if_neg h2]; dsimp only; rw [if_neg h1, if_neg h2]
      · intro p hp
        simp only [List.mem_cons] at hp
        rcases hp with rfl | rfl | hp
        · exact ⟨Ne.symm (Nat.ne_of_lt (by omega)), Ne.symm (Nat.ne_of_lt (by omega))⟩
        · exact ⟨Ne.symm (Nat.ne_of_lt (by omega)), Ne.symm (Nat.ne_of_lt (by omega))⟩
        · exact hoff p hp
      · show Al _ _ (gPut _ _ (_, _, if i = 0 then 65535 else (gAt gt (line.getD i 0)).getD 0))
        rw [← eb]
        refine al_put (V := fun v r => EntAt w (inL _) v r) (al.mono fun kv r z => ⟨z.1, z.2.le fun a o hm => .tail _ (.tail _ hm)⟩) _ ⟨x1, dx1, k0, k1, k2, t0, t1, t2, rfl, .head _, .tail _ (.head _)⟩
    clear N1 N9 fin F9
    have hi1 : ((i : Int) + 1).toNat = i + 1 := by omega
    have hi0 : ((i : Int)).toNat = i := by omega
    walk_at "m walk"
    all_goals (refine' finT _ _ _ _ _ _ _ _ _ _ _ _ _ _ _ _ _ ?zF ?zN ?zl ?zl2 ?zd ?zek ?zea ?zeb; (case zF => assumption); (case zN => assumption); (case zl => assumption); (case zl2 => assumption); (case zd => assumption); (case zek => rw [hi0]); (case zea => first | exact congrArg (fun j => line.getD j 0) hi1 | (rw [hi1]; done) | (rw [List.getD_eq_getElem?_getD, List.getElem?_eq_none (by omega)]; rfl)); (case zeb => first | (rw [if_pos (by omega)]; done) | (rw [if_neg (by omega), hi0]; cases gAt gt (line.getD i 0) <;> rfl)))
  case done =>
    rintro m₁ nw h tk ⟨lv, av, o', kv', out, hm, hnw, hoff, hd', al⟩ F1 N1
    subst hm hnw
    change Fr g L' h _ at F1
    change News g L' h _ at N1
    dsimp only
    walk_at "m walk"
    dsimp only
    exact fin dF _ h tk line _ F1 N1 (by rw [hline]; rfl) ⟨o', kv', .head _, hd', loF, al.mono fun kv r z => ⟨z.1, z.2.le fun a o hm => .tail _ (.tail _ hm)⟩⟩
end
section
open PySem PySem.W PySem.Calls PyProof.Rows
set_option maxRecDepth 100000
set_option maxHeartbeats 1000000
theorem News.tail1 {h₀ h : Heap} {L : Addr} {a : Addr × Obj} {l : List (Addr × Obj)} (N : News h₀ L h (a :: l)) : News h₀ L h l := fun p hp => N p (.tail _ hp)
theorem walked_call {w : World} {fr : Option (List Env)} {gd : Option (List Code)} {dp un : Nat} {s : Shared} {base h₀ : Heap} {outer : List Env} {L : Addr} {m mg mb : Str → Option Value} {mean : ExcName → Option Value} {env : Env} {news : List (Addr × Obj)}
  {T : Addr} {kvs : List (Int × Value)} {tbl : List (Int × T3)} {Q : Value → Shared → Prop} {E : Value → Shared → Prop}
  (B : Below { handled := none, depth := dp, frames := fr, guards := gd, units := un } base outer h₀) (F : Fr h₀ L s.heap m) (X₀ : (hd.heap_39 w.params).In h₀) (TT : Top VW LO mean mg mb h₀)
  (N : News h₀ L s.heap news)
  (hf : env.frame = some L) (hke : env.scope.kind = .function) (hdp : dp ≤ 790) (hun : un ≤ 7900)
  (hT : s.heap.DictOf (intKind PR w) T kvs) (lo : (T == sysModules) = false) (hrows : Al (fun kv r => kv.1 = r.1 ∧ RowAt (inH s.heap) kv.2 r.2) kvs tbl) (hlen : tbl.length ≤ 60)
  (hQn : ∀ h' tk, Fr h₀ L h' m → News h₀ L h' news → walkF tbl (tbl.length + 1) [] 0 = none → Q .none { s with heap := h', toks := tk })
  (hQ : ∀ d out h' tk vs c ns, Fr h₀ L h' m → News h₀ L h' (out ++ news) → (∀ p ∈ out, ∀ b o, s.heap.get? b = some o → p.1 ≠ b) → (d, listOf vs.toArray c) ∈ out → IntsAre vs ns → walkF tbl (tbl.length + 1) [] 0 = some ns → Q (.ref d) { s with heap := h', toks := tk }) :
  wpAny (model PR w) (({ handled := none, depth := dp, frames := fr, guards := gd, units := un } : Around).deeper env) (call (.ref 144) [.ref T]) Q E s := by
  refine' my_call (binds := [(Str.ofString "table", .ref T)]) B F X₀ News.nil TT hf hke ?k6 ?k7 ?k8 ?k9 ?kB ?_ ?c2 ?c3 ?c4 ?c5
  walk_at "m call"
  intro g L' h₁ Qb hG hGs hsz F' N' hlt B' X' T' hret hnext
  have hTg : g.DictOf (intKind PR w) T kvs := by
    obtain ⟨o, es, ep, ho, r⟩ := hT
    exact ⟨o, es, ep, hG _ _ ho (by simp), r⟩
  have hrg : Al (fun kv r => kv.1 = r.1 ∧ RowAt (inH g) kv.2 r.2) kvs tbl := hrows.mono fun kv r z => ⟨z.1, z.2.le fun a o e => hG _ _ e (by simp)⟩
  have hkl : kvs.length = tbl.length := hrg.length
  have hkl2 : kvs.length ≤ 1000 := by omega
  have finN : ∀ h' tk mm, Fr g L' h' mm → walkF tbl (tbl.length + 1) [] 0 = none → Qb (.ret .none) { s with heap := h', toks := tk } := by
    intro h' tk mm F1 e
    obtain ⟨FF, NN, KK, AA⟩ := my_back F N hG F1 News.nil (fun q => nomatch q) (fun b q => nomatch q)
    exact hret _ _ (hQn h' tk FF (fun p hp => KK p hp (fun q => nomatch q)) e)
  have finS : ∀ d vs c h' tk mm ns, Fr g L' h' mm → News g L' h' [(d, listOf vs.toArray c)] → IntsAre vs ns → walkF tbl (tbl.length + 1) [] 0 = some ns → Qb (.ret (.ref d)) { s with heap := h', toks := tk } := by
    intro d vs c h' tk mm ns F1 N1 hi e
    obtain ⟨FF, NN, KK, AA⟩ := my_back F N hG F1 N1 (fun q => nomatch q) (fun b q => nomatch q)
    refine hret _ _ (hQ d [(d, listOf vs.toArray c)] h' tk vs c ns FF (fun p hp => ?_) (fun p hp b o' e => AA p hp (fun q => nomatch q) b o' e (fun q => nomatch q)) (.head _) hi e)
    rcases List.mem_append.mp hp with hp | hp
    · exact NN p hp
    · exact KK p hp (fun q => nomatch q)
  clear hQ hQn hret hnext hrows hT hG hGs F X₀ TT N B hlt
  walk_at "m walk"
  rename_i t1 u1 v1 hr F9 N9 K9
  have N10 := Mine.News.tail1 N9
  refine my_range (n := tbl.length + 1) (m₀ := _) (fun i m nw => ∃ (fa : Addr) (vs : List Value) (c : Nat) (found : List Int) (here : Int) (th : Tok) (tv : Option Value), m = (fun y : Str => if y = Str.ofString "found" then some (.ref fa) else if y = Str.ofString "here" then some (.int here th) else if y = Str.ofString "turn" then tv else List.lookup y [(Str.ofString "table", Value.ref T)].reverse) ∧ nw = [(fa, listOf vs.toArray c)] ∧ IntsAre vs found ∧ found.length ≤ i ∧ walkF tbl (tbl.length + 1 - i) found here = walkF tbl (tbl.length + 1) [] 0) rfl hr ?hs ?hn F9 N10 ?hJ ?turn ?done
  case hs => exact PySem.small_one (by decide) (by decide) (by omega) (by omega)
  case hn => rw [PySem.rangeSize_one, if_pos (by omega)]; omega
  case hJ =>
    refine ⟨_, [], 0, [], 0, s.toks + [(Str.ofString "table", Value.ref T)].length, none, ?_, rfl, .nil, Nat.le_refl _, rfl⟩
    funext y
    by_cases h1 : y = Str.ofString "found"
    · subst h1; rfl
    by_cases h2 : y = Str.ofString "here"
    · subst h2; rfl
    by_cases h3 : y = Str.ofString "turn"
    · subst h3; rfl
    simp only [if_neg h1, if_neg h2, if_neg h3]
  case turn =>
    intro i t m₁ nw h tk I own hi hq91 hnI hown hq92 F1 N1
    obtain ⟨fa, vs, c, found, here, th, tv, hm, hnw, hif, hfl, hw⟩ := hq91
    obtain ⟨oI, hoI⟩ := hq92
    subst hm hnw
    change Fr g L' h _ at F1
    change News g L' h _ at N1
    have N2 := news_sub (l' := (fa, listOf vs.toArray c) :: own) N1 (by walk_at "m subl")
    clear N1 N9 F9 N10
    have hsub : tbl.length + 1 - i = (tbl.length + 1 - (i + 1)) + 1 := by omega
    rw [hsub] at hw
    have hfl2 : found.length ≤ 1000 := by omega
    cases hga : gAt tbl here with
    | none =>
      have hb : (gAt tbl here).isSome = false := by rw [hga]; rfl
      have hw2 : none = walkF tbl (tbl.length + 1) [] 0 := by rw [← hw]; unfold walkF; rw [hga]
      clear hga
      walk_at "m walk"
      exact finN _ _ _ F1 hw2.symm
    | some r =>
      obtain ⟨v, hva, a, t0, t1, t2, rfl, ha⟩ := (al_at hrg here).2 r hga
      obtain ⟨way, one, two⟩ := r
      have ha' : g.get? a = some (tupOf [.str way t0, .int one t1, .int two t2]) := ha
      have hb : (gAt tbl here).isSome = true := by rw [hga]; rfl
      have hw2 : (if way = ("free" : Str) then (if one = 0 then some found else if one ∈ found then none else walkF tbl (tbl.length + 1 - (i + 1)) (found ++ [one]) one) else none) = walkF tbl (tbl.length + 1) [] 0 := by rw [← hw]; conv => rhs; unfold walkF; rw [hga]
      clear hga ha
      by_cases hwf : way = ("free" : Str)
      · rw [if_pos hwf] at hw2
        subst hwf
        walk_at "m walk"
        · rw [if_pos (by assumption)] at hw2
          exact finS _ _ _ _ _ _ found (by assumption) (news_sub (l' := [(fa, listOf vs.toArray c)]) (by assumption) (fun p hp => by rw [List.mem_singleton.mp hp]; exact .head _)) hif hw2.symm
        · rw [if_neg (by assumption), if_pos (any_mem (by assumption))] at hw2
          exact finN _ _ _ (by assumption) hw2.symm
        · rw [if_neg (by assumption), if_neg (any_nmem (by assumption))] at hw2
          rename_i D1 ws h1 hI1 hk1 l2 h2 F2 N2
          have hI2 : @LT.lt Nat _ I D1 := hk1 (I, oI) (.tail _ (.tail _ hoI))
          refine TurnEnd.intro [(D1, listOf ws.toArray 0)] F2 (news_sub N2 (by walk_at "m subl")) (fun p hp => ?_) ⟨D1, ws, 0, found ++ [one], one, t1, some (.int (0 + (i : Int)) t), ?_, rfl, hI1, by rw [List.length_append, List.length_singleton]; omega, hw2⟩
          · rw [List.mem_singleton.mp hp]; exact Ne.symm (Nat.ne_of_lt hI2)
          · funext y
            by_cases h1 : y = Str.ofString "found"
            · subst h1; rfl
            by_cases h2 : y = Str.ofString "here"
            · subst h2; rfl
            by_cases h3 : y = Str.ofString "turn"
            · subst h3; rfl
            simp only [if_neg h1, if_neg h2, if_neg h3]
      · have hne : (way != ("free" : Str)) = true := by simpa using hwf
        rw [if_neg hwf] at hw2
        walk_at "m walk"
        all_goals first | exact finN _ _ _ (by assumption) hw2.symm | (exfalso; simp_all; done) 
  case done =>
    rintro m₁ nw h tk ⟨fa, vs, c, found, here, th, tv, hm, hnw, hif, hfl, hw⟩ F1 N1
    subst hm hnw
    change Fr g L' h _ at F1
    dsimp only
    walk_at "m walk"
    dsimp only
    refine finN _ _ _ F1 (hw ▸ ?_)
    rw [Nat.sub_self]
    rfl
end
section
open PySem PySem.W PySem.Calls PyProof.Rows
set_option maxRecDepth 100000
set_option maxHeartbeats 400000
/-- an exception object: its class, its dict, its traceback's head and that one's flight -/
noncomputable def ExcX (h : Heap) (e : Addr) (oc : Value) (dd : Option Addr) (tb : Option (Addr × Value)) : Prop :=
  ∃ oe vs, h.get? e = some oe ∧ oe.cls = oc ∧ oe.dict = dd ∧ oe.data = .fields vs ∧ 1 < vs.size ∧
    match tb with
    | none => vs[1]? = some .none
    | some (T, fl) => vs[1]? = some (.ref T) ∧ T ≠ e ∧ ∃ oT ts, h.get? T = some oT ∧ oT.data = .fields ts ∧ ts[3]? = some fl
/-- the frames may change their slots, the addresses xs may change as they like, the rest stands -/
structure MoveX (fs xs : List Addr) (h h' : Heap) : Prop where
  other : ∀ b o, h.get? b = some o → b ∉ fs → b ∉ xs → h'.get? b = some o
  frame : ∀ b o, h.get? b = some o → b ∈ fs → ∃ sl, h'.get? b = some { o with slots := sl }
theorem MoveX.trans {fs xs : List Addr} {h h₁ h₂ : Heap} (x : MoveX fs xs h h₁) (y : MoveX fs xs h₁ h₂) : MoveX fs xs h h₂ :=
  ⟨fun b o e n n' => y.other b o (x.other b o e n n') n n', fun b o e m => by
    obtain ⟨s1, e1⟩ := x.frame b o e m
    obtain ⟨s2, e2⟩ := y.frame b _ e1 m
    exact ⟨s2, e2⟩⟩
theorem MoveX.mono {fs xs ys : List Addr} {h h' : Heap} (x : MoveX fs xs h h') (s : ∀ b ∈ xs, b ∈ ys ∨ h.get? b = none) : MoveX fs ys h h' :=
  ⟨fun b o e n n' => x.other b o e n (fun m => (s b m).elim n' (fun q => by rw [q] at e; cases e)), x.frame⟩
theorem dict_mapFields (o : Obj) (f) : (o.mapFields f).dict = o.dict := by
  obtain ⟨c, d, dt, sl⟩ := o; cases dt <;> rfl
theorem frames_move {fs xs : List Addr} {h h' base : Heap} {l : List Env} (x : MoveX fs xs h h') (hx : ∀ b ∈ xs, ∀ o, h.get? b = some o → ∃ vs, o.data = .fields vs) (hl : h.FunFrames base l) : h'.FunFrames base l :=
  hl.of_keeps fun b o e n => by
    by_cases m : b ∈ fs
    · obtain ⟨sl, e'⟩ := x.frame b o e m
      exact ⟨_, e', rfl⟩
    · exact ⟨o, x.other b o e m (fun q => let ⟨vs, d⟩ := hx b q o e; n vs d), rfl⟩
section
variable {M : Model} {A : Around} {E : Value → Shared → Prop} {s : Shared} {base : Heap} {env : Env} {outer : List Env} {L e : Addr} {oc : Value} {dd : Option Addr}
theorem entryX {oe : Obj} {vs : Array Value} {head : Value} {hadNext : Bool} {Q : Unit → Shared → Prop}
    (hfr : A.frames = some (env :: outer)) (hl : s.heap.FunFrames base (env :: outer)) (hf : env.frame = some L)
    (he : s.heap.get? e = some oe) (hd : oe.data = .fields vs) (hsz : 1 < vs.size)
    (h : ∀ h' T, s.heap.get? T = none → ExcX h' e oe.cls oe.dict (some (T, rawInt L)) → MoveX ((env :: outer).filterMap (·.frame)) [e] s.heap h' → Q () { s with heap := h' }) :
    wpAny M A (do let a ← frameOf env; let pl ← entryPlaceOf L hadNext; let b ← EntryCells.newEntry head a .none (rawInt L) .none pl; setField (.ref e) 1 b) Q E s := by
  have hene : e ∉ (env :: outer).filterMap (·.frame) := fun hm => by
    obtain ⟨_, o, ho, hnf⟩ := hl.mem hm
    rw [he] at ho; injection ho with ho; subst ho; exact hnf vs hd
  refine wpAny_bind (wpAny_frameOf_fun hfr hl hf fun h₁ hs₁ => ?_)
  refine wpAny_bind (wpAny_entryPlaceOf fun pl hpl => ?_)
  unfold EntryCells.newEntry newFields
  refine wpAny_bind (wpAny_newObj_type ?_ (hpl.sizeOk5 _ _ _ _ _))
  have he₁ : h₁.get? e = some oe := (hs₁.2.1 e hene).trans he
  generalize hTo : ({ cls := .type "traceback", dict := none, data := .fields ([head, .ref L, .none, rawInt L, .none] ++ (if pl.isEmpty then List.replicate 6 Value.none else pl)).toArray } : Obj) = oT
  have he₂ := Heap.get?_push_of_some (h := h₁) oT he₁
  refine wpAny_setField he₂ hd hsz (h _ h₁.objs.size ?_ ?_ ?_)
  · exact Heap.get?_none_of_le (by rw [hs₁.1]; exact Nat.le_refl _)
  · have hTe : h₁.objs.size ≠ e := Nat.ne_of_gt (Heap.lt_size he₁)
    have hd₃ := Obj.data_mapFields hd (·.setIfInBounds 1 (Value.ref h₁.objs.size))
    refine ⟨_, _, Heap.get?_update_self _ he₂ (Obj.isFreed_of_fields hd₃), Obj.cls_mapFields _ _, dict_mapFields _ _, hd₃, by simpa using hsz, by simp [hsz], hTe, oT, ([head, .ref L, .none, rawInt L, .none] ++ (if pl.isEmpty then List.replicate 6 Value.none else pl)).toArray, ?_, by rw [← hTo], by first | (simp; done) | (rcases hpl with rfl | ⟨_, _, _, _, _, _, _, rfl⟩ <;> simp)⟩
    exact (Heap.get?_update_other _ _ (Ne.symm hTe)).trans (Heap.get?_push_size h₁ (by rw [← hTo]; rfl))
  · refine ⟨fun b o hb n n' => ?_, fun b o hb m => ?_⟩
    · rw [Heap.get?_update_other _ _ (fun q : e = b => n' (by rw [q]; exact .head _))]
      exact Heap.get?_push_of_some _ ((hs₁.2.1 b n).trans hb)
    · obtain ⟨sl, hs⟩ := hs₁.2.2 b o hb
      refine ⟨sl, ?_⟩
      rw [Heap.get?_update_other _ _ (fun q : e = b => hene (by rw [q]; exact m))]
      exact Heap.get?_push_of_some _ hs
theorem setX {T : Addr} {fl : Value} {Q : Unit → Shared → Prop} (hx : ExcX s.heap e oc dd (some (T, fl))) (h : ∀ h', ExcX h' e oc dd (some (T, .none)) → (∀ b, b ≠ T → h'.get? b = s.heap.get? b) → Q () { s with heap := h' }) :
    wpAny M A (setFlight (.ref e) none) Q E s := by
  obtain ⟨oe, vs, he, hc, hdd, hd, hsz, h1, hTe, oT, ts, hT, hdT, h3⟩ := hx
  have hsz3 : 3 < ts.size := (Array.getElem?_eq_some_iff.mp h3).1
  unfold setFlight
  refine wpAny_bind (wpAny_field he hd h1 ?_)
  rw [if_pos (show (Value.ref T != Value.none) = true from by simp)]
  refine wpAny_setField hT hdT hsz3 (h _ ⟨oe, vs, ?_, hc, hdd, hd, hsz, h1, hTe, _, _, Heap.get?_update_self _ hT (Obj.isFreed_of_fields (Obj.data_mapFields hdT _)), Obj.data_mapFields hdT _, by simp [hsz3]⟩ fun b hb => Heap.get?_update_other _ _ (Ne.symm hb))
  rw [Heap.get?_update_other _ _ hTe]; exact he
/-- the first note -/
theorem noteX1 {Q : Unit → Shared → Prop} (hfr : A.frames = some (env :: outer)) (hl : s.heap.FunFrames base (env :: outer)) (hf : env.frame = some L) (hx : ExcX s.heap e oc dd none)
    (h : ∀ h' T, s.heap.get? T = none → ExcX h' e oc dd (some (T, rawInt L)) → MoveX ((env :: outer).filterMap (·.frame)) [e] s.heap h' → Q () { s with heap := h' }) :
    wpAny M A (noteFrame (.ref e) env) Q E s := by
  obtain ⟨oe, vs, he, rfl, rfl, hd, hsz, h1⟩ := hx
  unfold noteFrame
  simp only [hf]
  refine wpAny_bind (wpAny_field he hd h1 ?_)
  rw [if_neg (by decide)]
  exact entryX hfr hl hf he hd hsz h
/-- a later note -/
theorem noteX2 {T : Addr} {Q : Unit → Shared → Prop} (hfr : A.frames = some (env :: outer)) (hl : s.heap.FunFrames base (env :: outer)) (hf : env.frame = some L) (hx : ExcX s.heap e oc dd (some (T, .none)))
    (h : ∀ h' T', s.heap.get? T' = none → ExcX h' e oc dd (some (T', rawInt L)) → MoveX ((env :: outer).filterMap (·.frame)) [e, T] s.heap h' → Q () { s with heap := h' }) :
    wpAny M A (noteFrame (.ref e) env) Q E s := by
  obtain ⟨oe, vs, he, rfl, rfl, hd, hsz, h1, hTe, oT, ts, hT, hdT, h3⟩ := hx
  have other : ∀ b, b ≠ T → (s.heap.update T (Obj.mapFields (·.setIfInBounds 3 Value.none))).get? b = s.heap.get? b := fun b hb => Heap.get?_update_other _ _ (Ne.symm hb)
  have frameNe : ∀ b ∈ (env :: outer).filterMap (·.frame), b ≠ T := fun b m q => by
    obtain ⟨_, o, ho, hnf⟩ := hl.mem m
    rw [q, hT] at ho; injection ho with ho; subst ho; exact hnf ts hdT
  unfold noteFrame
  simp only [hf]
  refine wpAny_bind (wpAny_field he hd h1 ?_)
  rw [if_pos (show (Value.ref T != Value.none) = true from by simp)]
  refine wpAny_bind (wpAny_field hT hdT h3 ?_)
  rw [if_neg (show ¬ ((Value.none == rawInt L) = true) from by simp [rawInt])]
  refine wpAny_bind (wpAny_setField hT hdT (Array.getElem?_eq_some_iff.mp h3).1 ?_)
  refine entryX hfr (hl.of_keeps fun b o hb hnf => ⟨o, (other b fun q => by rw [q, hT] at hb; injection hb with hb; subst hb; exact hnf ts hdT).trans hb, rfl⟩) hf ((other e (Ne.symm hTe)).trans he) hd hsz fun h' T' hT' x mv => h h' T' ?_ x ⟨fun b o hb n n' => ?_, fun b o hb m => ?_⟩
  · cases q : s.heap.get? T' with
    | none => rfl
    | some o' =>
      by_cases q2 : T' = T
      · subst q2
        have z := Heap.get?_update_self (Obj.mapFields (·.setIfInBounds 3 Value.none)) hT (Obj.isFreed_of_fields (Obj.data_mapFields hdT _))
        rw [hT'] at z; cases z
      · have z := other T' q2
        rw [hT', q] at z; cases z
  · refine mv.other b o ((other b fun q => n' (q ▸ .tail _ (.head _))).trans hb) n fun q => n' ?_
    rw [List.mem_singleton.mp q]; exact .head _
  · exact mv.frame b o ((other b (frameNe b m)).trans hb) m
/-- an exception that leaves its first frame -/
theorem leaveX {Q : Unit → Shared → Prop} (hfr : A.frames = some (env :: outer)) (hl : s.heap.FunFrames base (env :: outer)) (hf : env.frame = some L) (hx : ExcX s.heap e oc dd none)
    (h : ∀ h' T, s.heap.get? T = none → ExcX h' e oc dd (some (T, .none)) → MoveX ((env :: outer).filterMap (·.frame)) [e] s.heap h' → Q () { s with heap := h' }) :
    wpAny M A (leaving env (.ref e)) Q E s := by
  unfold leaving
  refine wpAny_bind (noteX1 hfr hl hf hx fun h₁ T hT x mv => setX x fun h₂ x₂ k => ?_)
  have ne : ∀ b o, s.heap.get? b = some o → b ≠ T := fun b o hb q => by rw [q, hT] at hb; cases hb
  refine h h₂ T hT x₂ ⟨fun b o hb n n' => (k b (ne b o hb)).trans (mv.other b o hb n n'), fun b o hb m => ?_⟩
  obtain ⟨sl, e'⟩ := mv.frame b o hb m
  exact ⟨sl, (k b (ne b o hb)).trans e'⟩
end
end
section
open PySem PySem.W PySem.Calls PyProof.Rows
set_option maxRecDepth 100000
set_option maxHeartbeats 1000000
section
variable {w : World} {A : Around} {E : Value → Shared → Prop} {R : Result → Shared → Prop} {h : Heap} {g : Array GenState} {d : Drawn} {t : Nat} {os : OsState}
variable {nm q : Str} {C N : Addr} {bs bm : List Value} {hdct : Bool} {sn : List Str} {sub : List Value} {ab : Bool} {col : Option Bool} {dd : Option Addr} {k0 k1 k2 k3 k5 : Option Value}
theorem x_check_new (hB : bm.contains (.type "Exception") = true) {rest : List Value} {Q : Unit → Shared → Prop} (hC : h.get? C = some (excClassObj nm q C N bs bm hdct sn sub ab col dd k0 k1 k2 k3 k5 "Exception.__new__"))
    (hq : Q () ⟨h, g, d, t, os⟩) : wpAny (model PR w) A (checkBuiltinCall "Exception.__new__" ⟨.ref C :: rest, []⟩) Q E ⟨h, g, d, t, os⟩ := by
  have Fn := PySem.F.excBase_Exception
  have hcont : (Value.ref C :: bm).contains (.type "Exception") = true := by rw [List.contains_cons, hB, Bool.or_true]
  have hstar := Fn.noStar
  simp only [checkBuiltinCall, Fn.newKind, Fn.newSplit, Fn.newRow]
  repeat (first | refine wpAny_loadPart_at hC ?_ | (refine wpAny_isSubtype_exc hC ?_; rw [hcont]) | refine wpAny_staticBase_exc hC ?_ | refine wpAny_madeBy_exc hC ?_ | simp only [bne_self_eq_false, Bool.false_eq_true, if_false] | wp_step)
  exact hq
theorem x_new (hB : bm.contains (.type "Exception") = true) (hA : bm.contains (.type "AttributeError") = false) (hN : bm.contains (.type "NameError") = false) {rest : List Value}
    (hC : h.get? C = some (excClassObj nm q C N bs bm hdct sn sub ab col dd k0 k1 k2 k3 k5 "Exception.__new__")) (hrest : rest.length ≤ sizeLine)
    (hq : R (.ok (.ret (.ref (h.objs.size + 1)))) ⟨(h.push { cls := .type "tuple", data := .seq rest.toArray }).push { cls := .ref C, data := .fields #[.ref h.objs.size, .none, .none, .none, .bool false, .none] }, g, d, t, os⟩) :
    codeAny (model PR w) A (.builtin "Exception.__new__" ⟨.ref C :: rest, []⟩) R ⟨h, g, d, t, os⟩ := by
  have Fn := PySem.F.excBase_Exception
  have hends := Fn.ends
  have hcB : (Value.ref C :: bm).contains (.type "Exception") = true := by rw [List.contains_cons, hB, Bool.or_true]
  have hcA : (Value.ref C :: bm).contains (.type "AttributeError") = false := by rw [List.contains_cons, hA]; rfl
  have hcN : (Value.ref C :: bm).contains (.type "NameError") = false := by rw [List.contains_cons, hN]; rfl
  refine codeAny_builtinAt Fn.entry ?_
  unfold Builtin.«BaseException.__new__»
  refine PySem.wpAt_bind ?_
  show PySem.wpAt _ _ _ (stack >>= _) _ _ _
  refine PySem.wpAt_bind (PySem.wpAt_stack fun p below => PySem.wpAt_of_wpAny ?_)
  wp_walk
  refine PySem.wpAt_of_wpAny ?_
  rw [Fn.owner]
  repeat (first | with_reducible refine wpAny_madeHere_exc Fn.canon hC ?_ | with_reducible refine wpAny_loadPart_at hC ?_ | (with_reducible refine wpAny_isSubtype_exc hC ?_; first | rw [hcB] | rw [hcA] | rw [hcN]) | wp_step)
  show R _ _
  rw [Heap.size_push]
  exact hq
end
theorem x_class (w : World) {h : Heap} (X : (hd.heap_39 w.params).In h) : h.get? 52 = some (excClassObj (Str.ofString "CrossFault") (Str.ofString "CrossFault") 52 51 [.ref 39] [.ref 39, .type "Exception", .type "BaseException", .type "object"] true [] [] false none none (some (.ref 43)) none (some (.str (Str.ofString "CrossFault") 229)) (some (.str (Str.ofString "CrossFault") 237)) (some (.bool true)) "Exception.__new__") := X _ _ (by k_is)
theorem x_init (w : World) : findIn (hd.heap_39 w.params) (.ref 52) "__init__" = some (some (.ref 29)) := by k_is
theorem x_setattr1 (w : World) : findIn (hd.heap_39 w.params) (.ref 52) "__setattr__" = some (some (.builtin "object.__setattr__")) := by k_is
theorem x_getattr2 (w : World) : findIn (hd.heap_39 w.params) (.ref 52) "__getattribute__" = some (some (.builtin "BaseException.__getattribute__")) := by k_is
theorem x_what (w : World) : findIn (hd.heap_39 w.params) (.ref 52) "what" = some none := by k_is
theorem x_at (w : World) : findIn (hd.heap_39 w.params) (.ref 52) "at" = some none := by k_is
theorem x_call (w : World) : specialIn (hd.heap_39 w.params) (.ref 52) "__call__" = some (some (.builtin "type.__call__")) := by k_is
end
section
open PySem PySem.W PySem.Calls PyProof.Rows Builtin Builtin.ObjectAttr Builtin.Getset_descriptor
set_option maxRecDepth 100000
set_option maxHeartbeats 1000000
theorem x_typ (w : World) : instIn (hd.heap_39 w.params) (.ref 52) (.type "type") = some true := by k_is
theorem x_fn (w : World) : typeIn (hd.heap_39 w.params) (.ref 29) = some (.type "function") := by k_is
noncomputable abbrev excObj (t : Addr) : Obj := { cls := .ref 52, data := .fields #[.ref t, .none, .none, .none, .bool false, .none] }
noncomputable abbrev tupO (vs : List Value) : Obj := { cls := .type "tuple", data := .seq vs.toArray }
section
variable {w : World} {A : Around} {R : Result → Shared → Prop} {h : Heap} {g : Array GenState} {d : Drawn} {t : Nat} {os : OsState}
theorem cross_core {rest : List Value} (X : (hd.heap_39 w.params).In h) (hrest : rest.length ≤ sizeLine)
    (hq : codeAny (model PR w) (A.under (.builtin "type.__call__" ⟨.ref 52 :: rest, []⟩)) (.call (.ref 29) ⟨.ref (h.objs.size + 1) :: rest, []⟩) (InitBack (h.objs.size + 1) R) ⟨(h.push (tupO rest)).push (excObj h.objs.size), g, d, t, os⟩) :
    codeAny (model PR w) A (.call (.ref 52) ⟨rest, []⟩) R ⟨h, g, d, t, os⟩ := by
  have hC := x_class w X
  have call : Looks (model PR w) h (specialOf (.ref 52) "__call__") (some (.builtin "type.__call__")) := looks_specialIn X (x_call w)
  have typ : Looks (model PR w) h (isInstance (.ref 52) (.type "type")) true := looks_instIn X (x_typ w)
  have hi : Looks (model PR w) h (typeLookup (.ref 52) "__init__") (some (.ref 29)) := looks_findIn X (x_init w)
  have hb : ∀ self, Looks (model PR w) h (bindSpecial (.ref 29) self) (.ref 29, [self]) := fun self => bind_fn X self (x_fn w)
  have made : Looks (model PR w) h (Bind.madeBy (.ref 52)) (some "Exception.__new__") := fun A Q E s k q => by
    obtain ⟨hh, g, d, t, os⟩ := s
    exact wpAny_madeBy_exc (k _ _ hC) q
  have self : Looks (model PR w) h (isSubtype (.ref 52) (.ref 52)) true := fun A Q E s k q => by
    obtain ⟨hh, g, d, t, os⟩ := s
    exact wpAny_isSubtype_exc (k _ _ hC) q
  refine codeAny_of_tree ?_
  show wpAny _ _ (callAny (.ref 52) _) _ _ _
  refine nd_load hC ?_
  show wpAny _ _ (callAny.viaDunder (.ref 52) _) _ _ _
  unfold callAny.viaDunder
  refine wpAny_bind (call.at ?_)
  dsimp only
  rw [tc_bind]
  refine wpAny_bind (wpAny_pure (wpAny_bind (wpAny_pure ?_)))
  refine wpAny_pure (a := Fin.again (.call (.builtin "type.__call__") ⟨.ref 52 :: rest, []⟩)) (And.intro rfl ?_)
  refine codeAny_call_builtin_at (Code.quiet_builtin _ (by decide +kernel)) entry_typeCall (check_slot tc_kind tc_split typ (tc_args _ _ _) ?_)
  unfold Builtin.«type.__call__»
  have hm : Looks (model PR w) h (mroOf (.ref 52)) [.ref 52, .ref 39, .type "Exception", .type "BaseException", .type "object"] := ((Looks.ld (part := none) hC).andThen .now).andThen .now
  repeat (first | with_reducible refine wpAny_call ?_ | lk)
  refine codeAny_call_builtin_code (Code.quiet_builtin _ PySem.F.excBase_Exception.quiet) (x_check_new rfl hC ?_)
  refine x_new rfl rfl rfl hC hrest ?_
  have k : ∀ b o, h.get? b = some o → ((h.push (tupO rest)).push (excObj h.objs.size)).get? b = some o := fun b o e => Heap.get?_push_of_some _ (Heap.get?_push_of_some _ e)
  have hx : ((h.push (tupO rest)).push (excObj h.objs.size)).get? (h.objs.size + 1) = some (excObj h.objs.size) := by heap_get
  have t1 : Looks (model PR w) ((h.push (tupO rest)).push (excObj h.objs.size)) (typeOf (.ref (h.objs.size + 1))) (.ref 52) := (Looks.ld hx).andThen .now
  have s1 := self.keeps k
  have i1 := hi.keeps k
  have b1 := (hb (.ref (h.objs.size + 1))).keeps k
  unfold isInstance callSpecial? specialOf
  repeat (first | with_reducible refine wpAny_call ?_ | lk)
  refine codeAny_mono hq fun r s' z => ?_
  rcases r with e | (v | _ | _ | _) <;> first | exact z | exact z.elim | skip
  obtain ⟨rfl, z⟩ := z
  exact wpAny_pure (wpAny_pure z)
end
end
section
open PySem PySem.W PySem.Calls PyProof.Rows Builtin Builtin.ObjectAttr
set_option maxRecDepth 100000
set_option maxHeartbeats 1000000
theorem x_passes (self : Value) : refuseLoop self "__setattr__" [.ref 52, .ref 39, .type "Exception", .type "BaseException", .type "object"] = pure () := by rw [refuseLoop_ref, refuseLoop_ref]; kernel_rfl
theorem x_hasDict (w : World) : hasDictIn (hd.heap_39 w.params) 52 = true := by k_is
theorem x_isobj (w : World) : mroIn (hd.heap_39 w.params) 52 (.type "object") = some true := by k_is
section
variable {w : World} {A : Around} {E : Value → Shared → Prop} {R : Result → Shared → Prop} {h : Heap} {g : Array GenState} {d : Drawn} {t : Nat} {os : OsState}
theorem x_osa {x : Addr} {ox : Obj} {od : Option Obj} {name : Str} {tk : Tok} {v : Value} (X : (hd.heap_39 w.params).In h) (I : W.InstAt h x ox 52 od) (hn : findIn (hd.heap_39 w.params) (.ref 52) name = some none)
    (hq : wpAny (model PR w) A.in1 (storeInOwnDict (.ref x) (.ref 52) (.str name tk) name v false) (fun fin s' => match fin with | .done f => R (.ok f) s' | .again c' => c'.quiet = true ∧ codeAny (model PR w) A c' R s') (fun e s' => R (.error e) s') ⟨h, g, d, t, os⟩) :
    codeAny (model PR w) A (.call (.builtin "object.__setattr__") ⟨[.ref x, .str name tk, v], []⟩) R ⟨h, g, d, t, os⟩ := by
  have SF := PySem.F.store_object
  have hC := x_class w X
  have sub : Looks (model PR w) h (isInstance (.ref x) (.type "object")) true := I.type.andThen (looks_mroIn X (x_isobj w))
  refine codeAny_call_builtin SF.slot.plain SF.entry (@check_slot (model PR w) _ _ ⟨h, g, d, t, os⟩ "object.__setattr__" "object" "__setattr__" (.ref x) [.str name tk, v] [] _ SF.kind SF.split sub (SF.args (.ref x) (.str name tk) v) ?_)
  have hm : Looks (model PR w) h (mroOf (.ref 52)) [.ref 52, .ref 39, .type "Exception", .type "BaseException", .type "object"] := ((Looks.ld (part := none) hC).andThen .now).andThen .now
  have L3 : Looks (model PR w) h (storeTaker? none) none := .now
  rw [osa_eq, refuse_eq]
  refine wpAny_bind (wpAny_bind (I.type.here (wpAny_bind (hm.here ?_))))
  rw [x_passes]
  refine wpAny_pure (wpAny_bind (I.type.here (wpAny_bind ((looks_findIn X hn).here (wpAny_bind (L3.here ?_))))))
  exact hq
/-- the first name set on an object that has no dict yet -/
theorem x_store1 {x : Addr} {vs : Array Value} {sl : Array (Option Value)} {name : Str} {v : Value} {Q : Unit → Shared → Prop} (X : (hd.heap_39 w.params).In h) (hx : h.get? x = some { cls := .ref 52, data := .fields vs, slots := sl }) (hn : findIn (hd.heap_39 w.params) (.ref 52) name = some none)
    (hq : ∀ h' tk' dx, h.get? dx = none → h'.get? x = some { cls := .ref 52, dict := some dx, data := .fields vs, slots := sl } → h'.Ns1 dx (fun y => if y = name then some v else none) → (∀ b o, b ≠ x → h.get? b = some o → h'.get? b = some o) → Q () ⟨h', g, d, tk', os⟩) :
    wpAny (model PR w) A (setAttr (.ref x) name v) Q E ⟨h, g, d, t, os⟩ := by
  have hC := x_class w X
  refine set_plain X (od := none) ⟨hx, rfl, rfl, trivial⟩ (x_setattr1 w) (x_osa X (od := none) ⟨hx, rfl, rfl, trivial⟩ hn ?_)
  obtain ⟨cd, hcd, hcd2⟩ := any_some (x_hasDict w)
  refine wpAny_bind (wpAny_pure (wpAny_bind (wpAny_bind (wpAny_loadPart hx (wpAny_bind ((looks_clsIn X hcd).here ?_))))))
  rw [hcd2]
  dsimp only
  have hx₁ : (h.push { cls := .type "dict", data := .dict #[] }).get? x = some _ := Heap.get?_push_of_some _ hx
  have hxs : x ≠ h.objs.size := Nat.ne_of_lt (Heap.lt_size hx)
  refine wpAny_bind (wpAny_alloc' ?_)
  refine wpAny_bind (wpAny_update' hx₁ ?_)
  refine wpAny_pure ?_
  have hgd : ((h.push { cls := .type "dict", data := .dict #[] }).update x fun o => { cls := o.cls, dict := some h.objs.size, data := o.data, slots := o.slots }).get? h.objs.size = some { cls := .type "dict", data := .dict #[] } :=
    (Heap.get?_update_ne _ _ _ _ hxs.symm).trans (Heap.get?_push_at rfl rfl)
  have hnd : ((h.push { cls := .type "dict", data := .dict #[] }).update x fun o => { cls := o.cls, dict := some h.objs.size, data := o.data, slots := o.slots }).Ns h.objs.size (fun _ => none) :=
    ⟨_, #[], _, hgd, rfl, fun e he => absurd he (by simp), fun _ => rfl⟩
  show wpAny _ _ (storeInDict h.objs.size _ name v) _ _ _
  unfold storeInDict newKeyGuard
  refine wpAny_bind (wpAny_pure (wpAny_bind (wpAny_nsSet1 (Heap.Ns1.of_empty hnd) fun h' hn' hs => ?_)))
  obtain ⟨oD, esD, epD, hoD, hdD, hcD⟩ := hn'.count (Within.cons name v Within.nil)
  refine wpAny_bind (wpAny_lookBehind hoD (by rw [hdD]; exact pastItsLine_dict (Nat.le_trans hcD (by rw [List.length_cons, List.length_nil, sizeLine_eq]; omega))) ?_)
  wp_walk
  refine hq h' _ h.objs.size (Heap.get?_none_of_le (Nat.le_refl _)) ?_ hn' fun b ob hbx hb => ?_
  · exact (hs.2 x hxs).trans (Heap.get?_update_self _ hx₁ rfl)
  · exact (hs.2 b (Nat.ne_of_lt (Heap.lt_size hb))).trans ((Heap.get?_update_ne _ _ _ _ hbx).trans (Heap.get?_push_of_some _ hb))
/-- a further name set -/
theorem x_store2 {x dx : Addr} {vs : Array Value} {sl : Array (Option Value)} {name : Str} {v : Value} {mA : Str → Option Value} {ns : List Str} {Q : Unit → Shared → Prop} (X : (hd.heap_39 w.params).In h) (hx : h.get? x = some { cls := .ref 52, dict := some dx, data := .fields vs, slots := sl }) (hns : h.Ns1 dx mA) (hw : Within mA ns) (hl : ns.length ≤ 100) (hn : findIn (hd.heap_39 w.params) (.ref 52) name = some none)
    (hq : ∀ h' tk', h'.Ns1 dx (fun y => if y = name then some v else mA y) → (∀ b o, b ≠ dx → h.get? b = some o → h'.get? b = some o) → Q () ⟨h', g, d, tk', os⟩) :
    wpAny (model PR w) A (setAttr (.ref x) name v) Q E ⟨h, g, d, t, os⟩ := by
  have hC := x_class w X
  obtain ⟨od, es, ep, hod, _⟩ := id hns
  refine set_plain X (od := some od) ⟨hx, rfl, rfl, hod⟩ (x_setattr1 w) (x_osa X (od := some od) ⟨hx, rfl, rfl, hod⟩ hn ?_)
  obtain ⟨cd, hcd, hcd2⟩ := any_some (x_hasDict w)
  refine wpAny_bind (wpAny_pure (wpAny_bind (wpAny_bind (wpAny_loadPart hx (wpAny_bind ((looks_clsIn X hcd).here ?_))))))
  rw [hcd2]
  refine wpAny_pure (a := some dx) ?_
  show wpAny _ _ (storeInDict dx _ name v) _ _ _
  unfold storeInDict newKeyGuard
  refine wpAny_bind (wpAny_pure (wpAny_bind (wpAny_nsSet1 hns fun h' hn' hs => ?_)))
  obtain ⟨oD, esD, epD, hoD, hdD, hcD⟩ := hn'.count (Within.cons name v hw)
  refine wpAny_bind (wpAny_lookBehind hoD (by rw [hdD]; exact pastItsLine_dict (Nat.le_trans hcD (by rw [List.length_cons, sizeLine_eq]; omega))) ?_)
  wp_walk
  exact hq h' _ hn' fun b ob hbd hb => (hs.2 b hbd).trans hb
end
end
section
open PySem PySem.W PySem.Calls PyProof.Rows
set_option maxRecDepth 100000
set_option maxHeartbeats 1000000
section
variable {w : World} {A : Around} {E : Value → Shared → Prop} {R : Result → Shared → Prop} {h : Heap} {g : Array GenState} {d : Drawn} {t : Nat} {os : OsState}
variable {nm q : Str} {C N : Addr} {bs bm : List Value} {hdct : Bool} {sn : List Str} {sub : List Value} {ab : Bool} {col : Option Bool} {dd : Option Addr} {k0 k1 k2 k3 k5 : Option Value} {newId : String}
theorem x_check_init (hB : bm.contains (.type "Exception") = true) {M : Model} {e : Addr} {oe : Obj} {rest : List Value} {Q : Unit → Shared → Prop}
    (hC : h.get? C = some (excClassObj nm q C N bs bm hdct sn sub ab col dd k0 k1 k2 k3 k5 newId)) (he : h.get? e = some oe) (hcls : oe.cls = .ref C) (hq : Q () ⟨h, g, d, t, os⟩) :
    wpAny M A (checkBuiltinCall "Exception.__init__" ⟨.ref e :: rest, []⟩) Q E ⟨h, g, d, t, os⟩ := by
  have F := PySem.F.excBase_Exception
  have hcB : (Value.ref C :: bm).contains (.type "Exception") = true := by rw [List.contains_cons, hB, Bool.or_true]
  have hshort := F.noStar
  simp only [checkBuiltinCall, F.initKind, F.initSplit, F.initRow]
  repeat (first | (with_reducible refine wpAny_loadPart_at he ?_; rw [hcls]) | with_reducible refine wpAny_loadPart_at hC ?_ | (with_reducible refine wpAny_isSubtype_exc hC ?_; rw [hcB]) | wp_step)
  refine wpAny_onRaise ?_
  rw [show ∀ (a b : String) (n : Nat), Bind.check ⟨.positional, "*", "Exception", .self, [⟨"args", .varPos, false⟩]⟩ a b n (List.map (fun x => x.fst) ({ pos := Value.ref e :: rest } : Args).kw) = pure () from
    fun a b n => check_star_args _ _ _ _ _ _]
  exact wpAny_pure hq
theorem x_init_call {e T : Addr} {v : Value} {Q : Value → Shared → Prop} (hB : bm.contains (.type "Exception") = true)
    (hC : h.get? 52 = some (excClassObj nm q 52 N bs bm hdct sn sub ab col dd k0 k1 k2 k3 k5 newId)) (he : h.get? e = some (excObj T))
    (hq : ∀ h', h'.get? e = some (excObj h.objs.size) → h'.get? h.objs.size = some (tupO [v]) → (∀ b o, h.get? b = some o → b ≠ e → h'.get? b = some o) → Q .none ⟨h', g, d, t, os⟩) :
    wpAny (model PR w) A (call (.builtin "Exception.__init__") [.ref e, v]) Q E ⟨h, g, d, t, os⟩ := by
  have F := PySem.F.excBase_Exception
  refine wpAny_call (codeAny_call_builtin F.init.plain F.initEntry (x_check_init hB hC he rfl ?_))
  unfold Builtin.«BaseException.__init__»
  have he2 := Heap.get?_push_of_some (tupO [v]) he
  wp_walk
  have hlt := Heap.lt_size he
  refine hq _ ?_ ?_ fun b o hb n => ?_
  · rw [Heap.get?_update_self _ he2 rfl]; rfl
  · rw [Heap.get?_update_other _ _ (Nat.ne_of_lt hlt)]
    exact Heap.get?_push_size _ rfl
  · rw [Heap.get?_update_other _ _ (Ne.symm n)]
    exact Heap.get?_push_of_some _ hb
end
theorem cross_new {w : World} {fr : Option (List Env)} {gd : Option (List Code)} {dp un : Nat} {s : Shared} {base h₀ : Heap} {outer : List Env} {L : Addr} {m mg mb : Str → Option Value} {mean : ExcName → Option Value} {env : Env} {news : List (Addr × Obj)}
  {msg : Str} {tm : Tok} {Q : Value → Shared → Prop} {E : Value → Shared → Prop}
  (B : Below { handled := none, depth := dp, frames := fr, guards := gd, units := un } base outer h₀) (F : Fr h₀ L s.heap m) (X₀ : (hd.heap_39 w.params).In h₀) (TT : Top VW LO mean mg mb h₀)
  (N : News h₀ L s.heap news) (hf : env.frame = some L) (hke : env.scope.kind = .function) (hdp : dp ≤ 820)
  (hQ : ∀ x dx h' tk mA, (∀ b o, s.heap.get? b = some o → h'.get? b = some o) → s.heap.get? x = none → s.heap.get? dx = none → dx ≠ x → ExcX h' x (.ref 52) (some dx) none → h'.Ns1 dx mA → mA (Str.ofString "what") = some (.str msg tm) → Q (.ref x) { s with heap := h', toks := tk }) :
  wpAny (model PR w) (({ handled := none, depth := dp, frames := fr, guards := gd, units := un } : Around).deeper env) (call (.ref 52) [.str msg tm]) Q E s := by
  obtain ⟨hh, gg, dd, tt, oo⟩ := s
  refine wpAny_call (cross_core (X₀.keeps F.keep) (by show 1 ≤ sizeLine; rw [sizeLine_eq]; decide) ?_)
  have F1 : Fr h₀ L ((hh.push (tupO [.str msg tm])).push (excObj hh.objs.size)) m := (F.push _).push _
  have N1 : News h₀ L ((hh.push (tupO [.str msg tm])).push (excObj hh.objs.size)) ((hh.objs.size + 1, excObj hh.objs.size) :: (hh.objs.size, tupO [.str msg tm]) :: news) := by
    have := (N.push F (tupO [.str msg tm])).push (F.push _) (excObj hh.objs.size)
    rwa [Heap.size_push] at this
  have l1 : ∀ p ∈ news, p.1 < hh.objs.size := fun p hp => Heap.lt_size (N p hp).1
  have old : ∀ b o, hh.get? b = some o → b < hh.objs.size := fun b o e => Heap.lt_size e
  have up : ∀ b o, hh.get? b = some o → ((hh.push (tupO [.str msg tm])).push (excObj hh.objs.size)).get? b = some o := fun b o e => Heap.get?_push_of_some _ (Heap.get?_push_of_some _ e)
  generalize hh.objs.size = T at F1 N1 l1 old up ⊢
  obtain ⟨x, hx⟩ : ∃ x, x = T + 1 := ⟨_, rfl⟩
  have l2' : @LT.lt Nat _ T x := by omega
  rw [← hx] at N1 ⊢
  generalize hh2 : (hh.push (tupO [.str msg tm])).push (excObj T) = H at F1 N1 up ⊢
  refine' my_def (binds := [(Str.ofString "self", .ref x), (Str.ofString "what", .str msg tm), (Str.ofString "at", .int (-1) 202)]) B F1 X₀ N1 TT ?kA hf hke ?k6 ?k7 ?k8 ?k9 ?kB ?_ ?c2 ?c3 ?c4 ?c5
  case kA => exact Around.frames_deeper (env := env) B.stack
  case k8 => k_room
  case k6 => k_is
  case k7 => k_is
  case k9 => exact binds_K (X₀.keeps F1.keep) rfl (by k_is) rfl rfl rfl
  case c5 => decide
  case kB => exact locs rfl
  case c2 => exact rfl
  case c3 => exact rfl
  case c4 => exact rfl
  intro g L' h₁ hG hGs hsz F' N' hlt B' X' T'
  have hxL : @LT.lt Nat _ x L' := hlt (x, _) (.head _)
  have hdL : @LT.lt Nat _ T L' := hlt (T, _) (.tail _ (.head _))
  walk_at "m walk"
  refine' method_type (v := .builtin "Exception.__init__") ?F ?X ?m (by decide +kernel) ?e ?h ?_
  case F => assumption
  case X => assumption
  case m => kernel_rfl
  case e => k_is
  case h => k_handed
  walk_at "m walk"
  refine x_init_call rfl (x_class w (X'.keeps F'.keep)) (N'.get (.head _)) fun h2 e2 e3 k2 => ?_
  have hxg := (N' _ (.head _)).2.2
  have keep1 : ∀ b o, H.get? b = some o → h₁.get? b = some o := fun b o e => by
    by_cases m : b ∈ ((x, excObj T) :: (T, tupO [.str msg tm]) :: news).map (·.1)
    · obtain ⟨p, hp, rfl⟩ := List.mem_map.mp m
      have z := (N1 p hp).1
      rw [e] at z
      rw [(N' p hp).1, ← z]
    · exact F'.keep _ _ (hG b o e m)
  have F2 := fr_back F' (fun o e => k2 L' o e (Ne.symm (Nat.ne_of_lt hxL))) (fun b o e => k2 b o (F'.keep b o e) (fun q => by rw [q, hxg] at e; cases e))
  have N2 : News g L' h2 news := fun p hp => ⟨k2 _ _ (N' p (.tail _ (.tail _ hp))).1 (Nat.ne_of_lt (Nat.lt_trans (l1 p hp) l2')), (N' p (.tail _ (.tail _ hp))).2⟩
  have hx0 : hh.get? x = none := by
    cases q : hh.get? x with
    | none => rfl
    | some o => exact absurd (old x o q) (Nat.not_lt.mpr (Nat.le_of_lt l2'))
  (try dsimp only)
  walk_at "m walk"
  refine x_store1 (X'.keeps F2.keep) e2 (x_what w) fun h3 tk3 dx hdx e4 n3 k3 => ?_
  have F3 := fr_back F2 (fun o e => k3 L' o (Ne.symm (Nat.ne_of_lt hxL)) e) (fun b o e => k3 b o (fun q => by rw [q, hxg] at e; cases e) (F2.keep b o e))
  have N3 : News g L' h3 news := fun p hp => ⟨k3 _ _ (Nat.ne_of_lt (Nat.lt_trans (l1 p hp) l2')) (N2 p hp).1, (N2 p hp).2⟩
  (try dsimp only)
  walk_at "m walk"
  refine x_store2 (X'.keeps F3.keep) e4 n3 (Within.cons _ _ Within.nil) (by decide) (x_at w) fun h4 tk4 n4 k4 => ?_
  have hdx0 : ∀ b o, h₁.get? b = some o → b ≠ x → b ≠ dx := fun b o e n q => by
    have := k2 b o e n
    rw [q, hdx] at this; cases this
  have F4 := fr_back F3 (fun o e => k4 L' o (fun q => by
    obtain ⟨_, _, _, z, _⟩ := F2.ns
    rw [q, hdx] at z; cases z) e) (fun b o e => k4 b o (hdx0 b o (F'.keep b o e) (fun q => by rw [q, hxg] at e; cases e)) (F3.keep b o e))
  (try dsimp only)
  walk_at "m walk"
  refine ⟨rfl, ?_⟩
  have hne : dx ≠ x := fun q => by rw [q, e2] at hdx; cases hdx
  have e5 := k4 x _ (Ne.symm hne) e4
  have kAll : ∀ b o, hh.get? b = some o → h4.get? b = some o := fun b o e => by
    have hbx : b ≠ x := fun q => by rw [q, hx0] at e; cases e
    have e6 := keep1 b o (up b o e)
    exact k4 b o (hdx0 b o e6 hbx) (k3 b o hbx (k2 b o e6 hbx))
  refine hQ x dx h4 _ _ kAll hx0 ?_ hne ⟨_, _, e5, rfl, rfl, rfl, Nat.lt_of_sub_pos (Nat.succ_pos _), rfl⟩ n4 rfl
  cases q : hh.get? dx with
  | none => rfl
  | some o =>
    have hbx : dx ≠ x := hne
    have e6 := k2 dx o (keep1 dx o (up dx o q)) hbx
    rw [hdx] at e6; cases e6
end
local macro_rules | `(tactic| walk_at "call ref") => `(tactic| ((with_reducible show wpAny _ _ (call (Value.ref 52) _) _ _ _); k_dflt (refine' cross_new ‹_› ‹_› ‹_› ‹_› ‹_› (by exact rfl) (by exact rfl) (by walk_at "m d") ?_); (intro x' dx' h' tk' mA' kA' hx' hd' hn' hX' hM' hW')))
section
open PySem PySem.W PySem.Calls PyProof.Rows
set_option maxRecDepth 100000
set_option maxHeartbeats 1000000
/-- what a raise needs of the object -/
noncomputable def RaiseEnd (w : World) (E : Value → Shared → Prop) (v : Value) (s₁ : Shared) : Prop :=
  ∃ e dd vs sl, v = .ref e ∧ (hd.heap_39 w.params).In s₁.heap ∧ s₁.heap.get? e = some { cls := .ref 52, dict := dd, data := .fields vs, slots := sl } ∧ vs[1]? = some .none ∧ E (.ref e) s₁
section
variable {w : World} {A : Around} {E : Value → Shared → Prop} {s : Shared} {env : Env}
theorem x_raise {e₀ : PySem.Expr} {pos : Pos} {Q : Flow → Shared → Prop} (hh : A.handled = none)
    (h : wpAny (model PR w) A (eval e₀ env) (RaiseEnd w E) E s) :
    wpAny (model PR w) A (exec (.Raise (some e₀) none pos) env) Q E s := by
  rw [arm_exec_Raise]
  refine wpAny_bind (wpAny_standAt ?_)
  simp only [evalOpt, Option.map]
  have hcB : ([.ref 52, .ref 39, .type "Exception", .type "BaseException", .type "object"] : List Value).contains (.type "BaseException") = true := rfl
  unfold raiseStmt
  refine wpAny_bind (wpAny_bind (wpAny_mono h (fun v s₁ h₁ => wpAny_bind (wpAny_standAt (wpAny_pure ?_))) fun _ _ x => x))
  obtain ⟨e, dd, vs, sl, rfl, X, he, h1, hE⟩ := h₁
  have hC := x_class w X
  obtain ⟨hp, g, d, tk, os⟩ := s₁
  repeat (first | with_reducible refine wpAny_loadPart_at he ?_ | with_reducible refine wpAny_loadPart_at hC ?_ | (with_reducible refine wpAny_isSubtype_exc hC ?_; rw [hcB]) | wp_step)
  rw [h1]
  refine wpAny_pure ?_
  rw [if_neg (by decide)]
  exact wpAny_pure (wpAny_raiseNew_none hh hE)
end
end
local macro_rules | `(tactic| walk_at "exec Raise some none") => `(tactic| ((with_reducible show wpAny _ _ (exec (Stmt.Raise (some (Expr.Call (Expr.Name (PySem.Str.ofString "CrossFault") _) _ _ _)) none _) _) _ _ _); (refine x_raise rfl ?_)))
section
open PySem PySem.W PySem.Calls PyProof.Rows
set_option maxRecDepth 100000
set_option maxHeartbeats 400000
section
variable {w : World} {A₀ A : Around} {s : Shared} {base h₀ : Heap} {outer : List Env} {L : Addr} {m mg mb : Str → Option Value} {mean : ExcName → Option Value} {env : Env} {news : List (Addr × Obj)}
  {Q : Value → Shared → Prop} {E : Value → Shared → Prop} {name qual : Str} {params : Arguments} {body : List Stmt} {scope : Scope} {dV kV doc pm cdv ct oc : Value} {an od : Option Addr} {osl : Array (Option Value)} {f : Addr} {pos : List Value} {binds : List (Str × Value)}
/-- a call of a def that may raise -/
theorem my_callE (B : Below A₀ base outer h₀) (F : Fr h₀ L s.heap m) (X₀ : (hd.heap_39 w.params).In h₀) (N : News h₀ L s.heap news) (T : Top VW LO mean mg mb h₀) (hf : env.frame = some L) (hke : env.scope.kind = .function)
    (ho : (hd.heap_39 w.params).lookup f = some ⟨oc, od, .func (fnOf name qual params body scope dV kV doc pm an cdv ct), osl⟩) (hcd : codeIn (hd.heap_39 w.params) cdv qual = true) (hroom : (A₀.deeper env).depth < recursionLimit)
    (hbind : BindsTo s (fnOf name qual params body scope dV kV doc pm an cdv ct) ⟨pos, []⟩ binds) (hloc : ∀ y ∈ binds, scope.names.lookup y.1 = some .local)
    (h : ∀ g L' h₁ (Qb : Flow → Shared → Prop), (∀ b o, s.heap.get? b = some o → b ∉ news.map (·.1) → g.get? b = some o) → (∀ b o, g.get? b = some o → s.heap.get? b = some o) → g.objs.size = s.heap.objs.size → Fr g L' h₁ (fun y => binds.reverse.lookup y) → News g L' h₁ news → (∀ p ∈ news, p.1 < L') → Below (A₀.deeper env) base (env :: outer) g → (hd.heap_39 w.params).In g → Top VW LO mean mg mb g →
      (∀ v s', Q v s' → Qb (.ret v) s') → (∀ s', Q .none s' → Qb .next s') →
      wpAny (model PR w) ((A₀.deeper env).deeper (envOf qual scope L' f cdv)) (execs body (envOf qual scope L' f cdv)) Qb (fun e s' => wpAny (model PR w) ((A₀.deeper env).deeper (envOf qual scope L' f cdv)) (leaving (envOf qual scope L' f cdv) e) (fun _ s'' => E e s'') (fun e' s'' => E e' s'') s') { s with heap := h₁, toks := s.toks + binds.length })
    (hco : scope.isCoroutine = false) (hgen : scope.isGenerator = false) (hk : scope.kind = .function)
    (hcell : ∀ x ∈ scope.names, x.2 ≠ .cell) : wpAny (model PR w) (A₀.deeper env) (call (.ref f) pos) Q E s :=
  wpAny_call (my_def B F X₀ N T (Around.frames_deeper B.stack) hf hke ho hcd hroom hbind hloc (fun g L' h₁ a1 a2 a3 a4 a5 a6 a7 a8 a9 => wpAny_mono (h g L' h₁ _ a1 a2 a3 a4 a5 a6 a7 a8 a9 (fun _ _ q => q) (fun _ q => q)) (fun _ _ x => x) (fun _ _ x => x)) hco hgen hk hcell)
end
end
section
open PySem PySem.W PySem.Calls PyProof.Rows Builtin Builtin.ObjectAttr
set_option maxRecDepth 100000
set_option maxHeartbeats 1000000
theorem x_isexc (w : World) : mroIn (hd.heap_39 w.params) 52 (.type "BaseException") = some true := by k_is
theorem x_nohook (w : World) : findIn (hd.heap_39 w.params) (.ref 52) "__getattr__" = some none := by k_is
theorem lookIn_ns1 {h : Heap} {dx : Addr} {mA : Str → Option Value} {name : Str} {v : Value} (hM : h.Ns1 dx mA) (hm : mA name = some v) : ∃ od, h.get? dx = some od ∧ lookIn name od = some (some v) := by
  obtain ⟨od, es, ep, hod, hd, hk, hu, hf⟩ := hM
  refine ⟨od, hod, ?_⟩
  have z := (hf name).trans hm
  unfold nsFind findBy at z
  unfold lookIn
  rw [hd]
  dsimp only
  rw [← Array.find?_toList] at z
  cases q : es.toList.find? (fun e => e.key.isStr name) with
  | none => rw [q] at z; cases z
  | some en => rw [q] at z; cases z; rfl
theorem x_get {w : World} {A : Around} {E : Value → Shared → Prop} {x dx : Addr} {ox : Obj} {mA : Str → Option Value} {v : Value} {name : Str} {expr : Bool} {s : Shared} {Q : Value → Shared → Prop} (X : (hd.heap_39 w.params).In s.heap) (hx : s.heap.get? x = some ox) (hc : ox.cls = .ref 52) (hdd : ox.dict = some dx) (hnc : notCls ox = true) (hM : s.heap.Ns1 dx mA) (hm : mA name = some v) (hn : findIn (hd.heap_39 w.params) (.ref 52) name = some none) (hh : handedIn v = true)
    (h : Q v { s with toks := s.toks + 1 }) : wpAny (model PR w) A (getAttr (.ref x) name expr) Q E s := by
  obtain ⟨od, hod, hl⟩ := lookIn_ns1 hM hm
  have I : W.InstAt s.heap x ox 52 (some od) := ⟨hx, hc, hnc, by rw [hdd]; exact hod⟩
  have hf := findObj_own (K := hd.heap_39 w.params) (C := 52) (attr := none) (x_hasDict w) hn rfl hl
  obtain ⟨hp, g, d, t, os⟩ := s
  have L0 := I.type (M := model PR w)
  have L1 := looks_findIn (M := model PR w) X (x_getattr2 w)
  have L2 := looks_find (M := model PR w) X I hf
  unfold getAttr getAttrBy
  refine wpAny_bind (wpAny_mkText (wpAny_holding (wpAny_bind (L0.at (wpAny_bind (L1.at ?_))))))
  dsimp only
  rw [if_neg (by decide)]
  have FX := PySem.F.attr_Exception
  have f3 := FX.ga.bind (.ref x)
  have hx0 : (expr && onTheHeap (Value.builtin "BaseException.__getattribute__")) = false := by cases expr <;> rfl
  have sub : Looks (model PR w) hp (isInstance (.ref x) (.type "BaseException")) true := I.type.andThen (looks_mroIn X (x_isexc w))
  have L3 := looks_findIn (M := model PR w) X (x_nohook w)
  unfold getAttrByItsOwn
  repeat (any_goals (first | assumption | wp_step))
  refine L3.at ?_
  repeat (any_goals (first | assumption | wp_step))
  refine codeAny_call_builtin FX.ga.plain PySem.F.entry_bexc_ga (@check_slot (model PR w) _ _ ⟨hp, g, d, t + 1, os⟩ "BaseException.__getattribute__" "BaseException" "__getattribute__" (.ref x) [.str name _] [] _ (by decide +kernel) (by decide +kernel) sub (PySem.F.args_bexc_ga _ _) ?_)
  unfold Builtin.«object.__getattribute__»
  refine wpAny_bind (wpAny_pure (wpAny_bind (wpAny_pure (wpAny_bind (L0.at (wpAny_bind (L2.at ?_)))))))
  refine wpAny_pure ?_
  show wpAny _ _ (handedOut v) _ _ _
  rw [handedOut_of hh]; exact wpAny_pure h
end
section
open PySem PySem.W PySem.Calls PyProof.Rows
set_option maxRecDepth 100000
set_option maxHeartbeats 1000000
theorem stored_new {kvs : List (Int × Value)} {k : Int} {v : Value} (h : k ∉ kvs.map (·.1)) : stored kvs k v = kvs ++ [(k, v)] := by
  unfold stored
  rw [if_neg]
  intro q
  obtain ⟨p, hp, e⟩ := List.any_eq_true.mp q
  exact h (List.mem_map.mpr ⟨p, hp, by simpa using e⟩)
theorem mem_last {l : List Int} {x k : Int} (h : l.getLast? = some x) (hk : k ∈ l) : k ∈ l.dropLast ∨ k = x := by
  have e : l.dropLast ++ [x] = l := by
    cases l with
    | nil => cases h
    | cons a r =>
      have h2 := List.dropLast_concat_getLast (List.cons_ne_nil a r)
      rw [List.getLast?_eq_some_getLast (List.cons_ne_nil a r)] at h
      rw [← Option.some.inj h]; exact h2
  rw [← e] at hk
  rcases List.mem_append.mp hk with q | q
  · exact .inl q
  · exact .inr (List.mem_singleton.mp q)
theorem chainof_call {w : World} {fr : Option (List Env)} {gd : Option (List Code)} {dp un : Nat} {s : Shared} {base h₀ : Heap} {outer : List Env} {L : Addr} {m mg mb : Str → Option Value} {mean : ExcName → Option Value} {env : Env} {news : List (Addr × Obj)}
  {T : Addr} {kvs : List (Int × Value)} {tbl : List (Int × T3)} {Q : Value → Shared → Prop} {E : Value → Shared → Prop}
  (B : Below { handled := none, depth := dp, frames := fr, guards := gd, units := un } base outer h₀) (F : Fr h₀ L s.heap m) (X₀ : (hd.heap_39 w.params).In h₀) (TT : Top VW LO mean mg mb h₀)
  (N : News h₀ L s.heap news)
  (hf : env.frame = some L) (hke : env.scope.kind = .function) (hdp : dp ≤ 790) (hun : un ≤ 7900)
  (hT : s.heap.DictOf (intKind PR w) T kvs) (lo : (T == sysModules) = false) (hrows : Al (fun kv r => kv.1 = r.1 ∧ EntAt w (inH s.heap) kv.2 r.2) kvs tbl) (hlen : tbl.length ≤ 60) (hbd : ∀ p ∈ tbl, 0 ≤ p.2.2.1 ∧ p.2.2.1 < 1000000)
  (hQ : ∀ d out h' tk vs c ns, Fr h₀ L h' m → News h₀ L h' (out ++ news) → (∀ p ∈ out, ∀ b o, s.heap.get? b = some o → p.1 ≠ b) → (d, listOf vs.toArray c) ∈ out → IntsAre vs ns → walkF tbl (tbl.length + 1) [] 0 = some ns → Q (.ref d) { s with heap := h', toks := tk })
  (hE : ∀ e Tb dx h' tk mA msg tm, MoveX ((env :: outer).filterMap (·.frame)) [] s.heap h' → s.heap.get? e = none → s.heap.get? Tb = none → s.heap.get? dx = none → dx ≠ e → dx ≠ Tb → ExcX h' e (.ref 52) (some dx) (some (Tb, .none)) → h'.Ns1 dx mA → mA (Str.ofString "what") = some (.str msg tm) → walkF tbl (tbl.length + 1) [] 0 = none → E (.ref e) { s with heap := h', toks := tk }) :
  wpAny (model PR w) (({ handled := none, depth := dp, frames := fr, guards := gd, units := un } : Around).deeper env) (call (.ref 99) [.ref T]) Q E s := by
  refine' my_callE (binds := [(Str.ofString "entries", .ref T)]) B F X₀ News.nil TT hf hke ?k6 ?k7 ?k8 ?k9 ?kB ?_ ?c2 ?c3 ?c4 ?c5
  walk_at "m call"
  intro g L' h₁ Qb hG hGs hsz F' N' hlt B' X' T' hret hnext
  have hTg : g.DictOf (intKind PR w) T kvs := by
    obtain ⟨o, es, ep, ho, r⟩ := hT
    exact ⟨o, es, ep, hG _ _ ho (by simp), r⟩
  have hrg : Al (fun kv r => kv.1 = r.1 ∧ EntAt w (inH g) kv.2 r.2) kvs tbl := hrows.mono fun kv r z => ⟨z.1, z.2.le fun a o e => hG _ _ e (by simp)⟩
  have hkl : kvs.length = tbl.length := hrg.length
  have leaveE : ∀ (sc : Scope) e dx h2 tk mA msg tm, sc.kind = .function → ExcX h2 e (.ref 52) (some dx) none → dx ≠ e → s.heap.get? e = none → s.heap.get? dx = none → dx ≠ L' → (∀ b o, s.heap.get? b = some o → h2.get? b = some o) → (∃ o, h2.get? L' = some o ∧ ∀ vs, o.data ≠ .fields vs) → h2.Ns1 dx mA → mA (Str.ofString "what") = some (.str msg tm) → walkF tbl (tbl.length + 1) [] 0 = none →
      wpAny (model PR w) ((({ handled := none, depth := dp, frames := fr, guards := gd, units := un } : Around).deeper env).deeper (envOf "chain_of" sc L' 99 (.ref 98))) (leaving (envOf "chain_of" sc L' 99 (.ref 98)) (.ref e)) (fun _ s'' => E (.ref e) s'') (fun e' s'' => E e' s'') { s with heap := h2, toks := tk } := by
    intro sc e dx h2 tk mA msg tm hsc hx hne he0 hd0 hdL hk hL2 hM hW hw
    have hLs : ∀ o, s.heap.get? L' = some o → False := fun o e => absurd (Nat.lt_of_lt_of_le (Heap.lt_size e) (hsz ▸ F'.above)) (Nat.lt_irrefl _)
    have hLb : base.get? L' = none := by
      cases q : base.get? L' with
      | none => rfl
      | some o => exact (hLs o (hGs _ _ (B'.stays _ _ q))).elim
    have fl : h2.FunFrames base (envOf "chain_of" sc L' 99 (.ref 98) :: env :: outer) :=
      ⟨by show sc.kind ≠ .module; rw [hsc]; decide, ⟨L', _, rfl, hLb, hL2.choose_spec⟩, B'.frames.of_keeps fun b o q _ => ⟨o, hk b o (hGs b o q), rfl⟩⟩
    refine leaveX (Around.frames_deeper B'.stack) fl rfl hx fun h' Tb hTb hx' mv => ?_
    have inG : ∀ b ∈ (env :: outer).filterMap (·.frame), ∃ o, s.heap.get? b = some o := fun b hb => by
      obtain ⟨_, o, ho, _⟩ := B'.frames.mem hb
      exact ⟨o, hGs b o ho⟩
    have hTs : s.heap.get? Tb = none := by
      cases q : s.heap.get? Tb with
      | none => rfl
      | some o => rw [hk _ _ q] at hTb; cases hTb
    obtain ⟨od, es, ep, hod, hr⟩ := hM
    refine hE e Tb dx h' tk mA msg tm ⟨fun b o q n _ => mv.other b o (hk b o q) (fun m => ?_) (fun m => ?_), fun b o q m => mv.frame b o (hk b o q) (.tail _ m)⟩ he0 hTs hd0 hne (fun q => by rw [← q, hod] at hTb; cases hTb) hx' ⟨od, es, ep, mv.other _ _ hod (fun m => ?_) (fun m => hne (List.mem_singleton.mp m)), hr⟩ hW hw
    · rcases List.mem_cons.mp m with rfl | m
      · exact hLs o q
      · exact n m
    · rw [List.mem_singleton.mp m, he0] at q; cases q
    · rcases List.mem_cons.mp m with q | m
      · exact hdL q
      · obtain ⟨o, ho⟩ := inG _ m
        rw [hd0] at ho; cases ho
  have finS : ∀ d vs c h' tk mm ns, Fr g L' h' mm → News g L' h' [(d, listOf vs.toArray c)] → IntsAre vs ns → walkF tbl (tbl.length + 1) [] 0 = some ns → Qb (.ret (.ref d)) { s with heap := h', toks := tk } := by
    intro d vs c h' tk mm ns F1 N1 hi e
    obtain ⟨FF, NN, KK, AA⟩ := my_back F N hG F1 N1 (fun q => nomatch q) (fun b q => nomatch q)
    refine hret _ _ (hQ d [(d, listOf vs.toArray c)] h' tk vs c ns FF (fun p hp => ?_) (fun p hp b o' e => AA p hp (fun q => nomatch q) b o' e (fun q => nomatch q)) (.head _) hi e)
    rcases List.mem_append.mp hp with hp | hp
    · exact NN p hp
    · exact KK p hp (fun q => nomatch q)
  have sub : ∀ b o, s.heap.get? b = some o → g.get? b = some o := fun b o e => hG b o e (by simp)
  clear hQ hE hret hnext hrows hT hG hGs F X₀ TT N B hlt
  generalize hEb : (fun e s' => wpAny (model PR w) _ (leaving _ e) (fun _ s'' => E e s'') (fun e' s'' => E e' s'') s') = Eb
  have hPass : ∀ A', A' = (({ handled := none, depth := dp, frames := fr, guards := gd, units := un } : Around).deeper env).deeper _ → PassesOwn (model PR w) A' _ Eb := fun A' e => by
    rw [← hEb, e]; exact PassesOwn.leaving
  walk_at "m walk"
  have closeR : ∀ x dx h' tk mA msg tm hh (mm : Str → Option Value), Fr g L' hh mm → (∀ b o, hh.get? b = some o → h'.get? b = some o) → hh.get? x = none → hh.get? dx = none → dx ≠ x → ExcX h' x (.ref 52) (some dx) none → h'.Ns1 dx mA → mA (Str.ofString "what") = some (.str msg tm) → walkF tbl (tbl.length + 1) [] 0 = none →
      RaiseEnd w Eb (.ref x) { s with heap := h', toks := tk } := by
    intro x dx h' tk mA msg tm hh mm F1 kA hx0 hd0 hne hX hM hW hw
    obtain ⟨oe, vs, he, hc, hdd, hda, hsz, h1⟩ := id hX
    obtain ⟨oc, od, oda, osl⟩ := oe
    dsimp only at hc hdd hda
    subst hc hdd hda
    refine ⟨x, some dx, vs, osl, rfl, (X'.keeps F1.keep).keeps kA, he, h1, ?_⟩
    obtain ⟨oL, es, ep, hoL, hoLd, _⟩ := id F1.ns
    have up : ∀ b o, s.heap.get? b = some o → hh.get? b = some o := fun b o e => F1.keep b o (sub b o e)
    have nn : ∀ b, hh.get? b = none → s.heap.get? b = none := fun b e => by
      cases q : s.heap.get? b with
      | none => rfl
      | some o => rw [up b o q] at e; cases e
    rw [← hEb]
    exact leaveE _ x dx h' tk mA msg tm rfl hX hne (nn _ hx0) (nn _ hd0) (fun q => by rw [q, hoL] at hd0; cases hd0) (fun b o e => kA b o (up b o e)) ⟨oL, kA _ _ hoL, fun vs q => by rw [hoLd] at q; cases q⟩ hM hW hw
  refine' While_inv2 (n₀ := tbl.length + 1) (fun n m nw => ∃ (dL dK : Addr) (vs : List Value) (c : Nat) (kv' : List (Int × Value)) (oK : Obj) (found : List Int) (here : Int) (th : Tok) (ev : Option Value), m = (fun y : Str => if y = Str.ofString "entry" then ev else if y = Str.ofString "here" then some (.int here th) else if y = Str.ofString "known" then some (.ref dK) else if y = Str.ofString "found" then some (.ref dL) else List.lookup y [(Str.ofString "entries", Value.ref T)].reverse) ∧ nw = [(dK, oK), (dL, listOf vs.toArray c)] ∧ dL ≠ dK ∧ (dK == sysModules) = false ∧ IntsAre vs found ∧ oK.IsDictOf (intKind PR w) kv' ∧ kv'.map (·.1) = 0 :: found ∧ (0 :: found).Nodup ∧ (0 :: found).getLast? = some here ∧ (∀ k ∈ (0 :: found).dropLast, k ∈ tbl.map (·.1)) ∧ n + found.length = tbl.length + 1 ∧ (0 ≤ here ∧ here < 1000000) ∧ walkF tbl n found here = walkF tbl (tbl.length + 1) [] 0) ?wF ?wN ?hJ ?turn ?hE
  case wF => assumption
  case wN => assumption
  case hE => exact hPass _ rfl
  case hJ =>
    refine ⟨_, _, [], 0, [(0, .bool true)], _, [], 0, tk + 1 + 1 + 1, none, ?_, rfl, ?_, by assumption, .nil, by assumption, rfl, by simp, rfl, (fun k hk => nomatch hk), by simp, by decide, rfl⟩
    · funext y
      by_cases h1 : y = Str.ofString "entry"
      · subst h1; rfl
      rw [if_neg h1]
    · k_ne
  case turn =>
    intro n m₁ nw h tk F1 N1 hq91
    obtain ⟨dL, dK, vs, c, kv', oK, found, here, th, ev, hm, hnw, hLK, loK, hif, hoK, hkk, hnd, hlast, hsub, hn, ⟨hb0, hb1⟩, hw⟩ := hq91
    subst hm hnw
    have hfl : found.length ≤ tbl.length := by
      have := nodup_le (List.Nodup.sublist (List.dropLast_sublist _) hnd) hsub
      rw [List.length_dropLast, List.length_cons, List.length_map] at this
      omega
    obtain ⟨n', rfl⟩ : ∃ n', n = n' + 1 := ⟨n - 1, by omega⟩
    have hfl2 : found.length ≤ 1000 := by omega
    have hkv : kv'.length ≤ 1000 := by
      have := congrArg List.length hkk
      rw [List.length_map, List.length_cons] at this; omega
    have hvl : vs.length ≤ 1000 := by rw [hif.length]; omega
    have hk2 : ∀ p ∈ [(dL, listOf vs.toArray c)], p.1 ≠ dK := fun p hp => by rw [List.mem_singleton.mp hp]; exact hLK
    have hLKn : @Ne Nat dL dK := hLK
    clear leaveE
    cases hga : gAt tbl here with
    | none =>
      have hva : valueAt kvs here = none := (al_at hrg here).1 hga
      have hw2 : none = walkF tbl (tbl.length + 1) [] 0 := by rw [← hw]; unfold walkF; rw [hga]
      clear hga
      walk_at "m walk"
      refine' closeR _ _ _ _ _ _ _ _ _ ?cF1 ?cA1 ?c11 ?c21 ?c31 ?c41 ?c51 ?c61 ?c71
      case cA1 => assumption
      case cF1 => assumption
      case c11 => assumption
      case c21 => assumption
      case c31 => assumption
      case c41 => assumption
      case c51 => assumption
      case c61 => assumption
      exact hw2.symm
    | some r =>
      obtain ⟨v, hva, a, dx, k0, k1, k2, t0, t1, t2, rfl, ha, hdx⟩ := (al_at hrg here).2 r hga
      have hbd' := hbd _ (gAt_mem hga)
      obtain ⟨way, one, two⟩ := r
      have ha' : g.get? a = some (instObj 78 dx) := ha
      have hdx' : g.get? dx = some (dictOf [⟨PyData.keyHash w.params "way", .str "way" k0, .str way t0⟩, ⟨PyData.keyHash w.params "one", .str "one" k1, .int one t1⟩, ⟨PyData.keyHash w.params "two", .str "two" k2, .int two t2⟩] 3) := hdx
      have hw2 : (if way = ("free" : Str) then (if one = 0 then some found else if one ∈ found then none else walkF tbl n' (found ++ [one]) one) else none) = walkF tbl (tbl.length + 1) [] 0 := by rw [← hw]; conv => rhs; unfold walkF; rw [hga]
      have hkey : here ∈ tbl.map (·.1) := List.mem_map.mpr ⟨_, gAt_mem hga, rfl⟩
      obtain ⟨ho0, ho1⟩ := hbd'
      dsimp only at ho0 ho1
      clear hga ha hdx hbd
      by_cases hwf : way = ("free" : Str)
      · rw [if_pos hwf] at hw2
        subst hwf
        walk_at "m walk"
        · rw [if_pos (by assumption)] at hw2
          exact finS _ _ _ _ _ _ found (by assumption) (news_sub (l' := [(dL, listOf vs.toArray c)]) (by assumption) (fun p hp => by rw [List.mem_singleton.mp hp]; exact .tail _ (.head _))) hif hw2.symm
        · refine' closeR _ _ _ _ _ _ _ _ _ ?cF2 ?cA2 ?c12 ?c22 ?c32 ?c42 ?c52 ?c62 ?c72
          case cA2 => assumption
          case cF2 => assumption
          case c12 => assumption
          case c22 => assumption
          case c32 => assumption
          case c42 => assumption
          case c52 => assumption
          case c62 => assumption
          rw [← hw2, if_neg (by assumption), if_pos]
          have q : ((0 :: found).any fun x => x == one) = true := by assumption
          have q2 := any_mem q
          exact (List.mem_cons.mp q2).resolve_left (by assumption)
        · have q2 : ¬ one ∈ 0 :: found := any_nmem (by assumption)
          have q3 : ¬ one ∈ found := fun q => q2 (List.mem_cons_of_mem _ q)
          rw [if_neg (fun q => q2 (by rw [q]; exact .head _)), if_neg q3] at hw2
          have hst : stored kv' one (.bool true) = kv' ++ [(one, .bool true)] := stored_new (by rw [hkk]; exact q2)
          refine ⟨_, _, _, _, n', rfl, by assumption, by assumption, Nat.lt_succ_self _, dL, dK, vs ++ [.int one t1], c + 1, stored kv' one (.bool true), _, found ++ [one], one, t1, some (.ref a), ?_, rfl, hLK, loK, ksk_snoc hif, by assumption, ?_, ?_, ?_, ?_, ?_, ⟨ho0, ho1⟩, hw2⟩
          · funext y
            by_cases h1 : y = Str.ofString "entry"
            · subst h1; rfl
            by_cases h2 : y = Str.ofString "here"
            · subst h2; rfl
            simp only [if_neg h1, if_neg h2]
          · rw [hst, List.map_append, hkk]; rfl
          · show ((0 :: found) ++ [one]).Nodup
            rw [List.nodup_append]
            exact ⟨hnd, by simp, fun a ha b hb e => q2 (by rw [← List.mem_singleton.mp hb, ← e]; exact ha)⟩
          · show ((0 :: found) ++ [one]).getLast? = some one
            exact List.getLast?_concat
          · intro k hk
            have hk' : k ∈ ((0 :: found) ++ [one]).dropLast := hk
            rw [List.dropLast_concat] at hk'
            rcases mem_last hlast hk' with q | q
            · exact hsub k q
            · rw [q]; exact hkey
          · rw [List.length_append, List.length_singleton]; omega
      · have hne : (way != ("free" : Str)) = true := by simpa using hwf
        rw [if_neg hwf] at hw2
        walk_at "m walk"
        · refine' closeR _ _ _ _ _ _ _ _ _ ?cF3 ?cA3 ?c13 ?c23 ?c33 ?c43 ?c53 ?c63 ?c73
          case cA3 => assumption
          case cF3 => assumption
          case c13 => assumption
          case c23 => assumption
          case c33 => assumption
          case c43 => assumption
          case c53 => assumption
          case c63 => assumption
          exact hw2.symm
end
section
open PySem PySem.W PySem.Calls PyProof.Rows
set_option maxRecDepth 100000
set_option maxHeartbeats 1000000
theorem x_name (w : World) : nsIn (hd.heap_39 w.params) mainGlobals (Str.ofString "CrossFault") = some (some (.ref 52)) := by k_is
theorem MoveX.then {fs xs : List Addr} {G h h' : Heap} (x : MoveX fs [] G h) (y : MoveX fs xs h h') (hx : ∀ b ∈ xs, G.get? b = none) : MoveX fs [] G h' :=
  ⟨fun b o e n _ => y.other b o (x.other b o e n (fun q => nomatch q)) n (fun m => by rw [hx b m] at e; cases e), fun b o e m => by
    obtain ⟨s1, e1⟩ := x.frame b o e m
    obtain ⟨s2, e2⟩ := y.frame b _ e1 m
    exact ⟨s2, e2⟩⟩
theorem MoveX.same {fs : List Addr} {G h h' : Heap} {T : Addr} (x : MoveX fs [] G h) (hT : G.get? T = none) (k : ∀ b, b ≠ T → h'.get? b = h.get? b) : MoveX fs [] G h' := by
  have ne : ∀ b o, G.get? b = some o → b ≠ T := fun b o e q => by rw [q, hT] at e; cases e
  refine ⟨fun b o e n n' => (k b (ne b o e)).trans (x.other b o e n n'), fun b o e m => ?_⟩
  obtain ⟨sl, e'⟩ := x.frame b o e m
  exact ⟨sl, (k b (ne b o e)).trans e'⟩
theorem MoveX.slots {fs : List Addr} {G h : Heap} (x : MoveX fs [] G h) : G.UpToSlots h := fun b o e _ => by
  by_cases m : b ∈ fs
  · exact x.frame b o e m
  · exact ⟨o.slots, x.other b o e m (fun q => nomatch q)⟩
theorem MoveX.frames {fs : List Addr} {G h base : Heap} {l : List Env} (x : MoveX fs [] G h) (hl : G.FunFrames base l) : h.FunFrames base l := frames_move x (fun _ q => nomatch q) hl
section
variable {w : World} {A₀ : Around} {E : Value → Shared → Prop} {s' : Shared} {base g G : Heap} {outer : List Env} {L a e Tb dx : Addr} {m : Str → Option Value} {name : Str} {scope : Scope} {cd : Value}
  {n : Str} {b₀ : Stmt} {suite : List Stmt} {pos np : Pos} {rest : List ExceptHandler} {Q : Flow → Shared → Prop} {news : List (Addr × Obj)} {mean : ExcName → Option Value} {mg mb : Str → Option Value} {mA : Str → Option Value}
/-- the ground of a frame whose outer frames got slots -/
theorem x_ground {h : Heap} (K : Below A₀ base outer g) (F : Fr g L G m) (N : News g L G news) (mv : MoveX ((envOf name scope L a cd :: outer).filterMap (·.frame)) [] G h) :
    ∃ g', KtsTurn (outer.filterMap (·.frame)) g g' ∧ Fr g' L h m ∧ Below A₀ base outer g' ∧ News g' L h news := by
  have hB : ∀ b o, G.get? b = some o → b ∉ (envOf name scope L a cd :: outer).filterMap (·.frame) → (hideAll G ((envOf name scope L a cd :: outer).filterMap (·.frame))).get? b = some o := fun b o e n => hideAll_get _ e n
  have hS : (hideAll G ((envOf name scope L a cd :: outer).filterMap (·.frame))).StaysIn h := fun b o e => by
    have e' := of_hideAll _ e
    refine mv.other b o e' (fun m => ?_) (fun q => nomatch q)
    rw [hideAll_none _ m] at e; cases e
  obtain ⟨g', T, F', K'⟩ := kts_ground K F hB hS mv.slots
  refine ⟨g', T, F', K', fun p hp => ⟨mv.other _ _ (N p hp).1 (fun m => ?_) (fun q => nomatch q), (N p hp).2.1, T.none_ _ (N p hp).2.2⟩⟩
  rcases kts_mem m with q | q
  · exact (N p hp).2.1 q
  · obtain ⟨_, o, ho, _⟩ := K.frames.mem q
    rw [(N p hp).2.2] at ho; cases ho
theorem x_lands (K : Below A₀ base outer g) (F : Fr g L G m) (N : News g L G news) (hk : scope.kind = .function)
    (mv : MoveX ((envOf name scope L a cd :: outer).filterMap (·.frame)) [] G s'.heap) (he : G.get? e = none) (hTb : G.get? Tb = none) (hx : ExcX s'.heap e (.ref 52) (some dx) (some (Tb, .none))) (hM : s'.heap.Ns1 dx mA) (hdG : G.get? dx = none) (hde : dx ≠ e) (hdT : dx ≠ Tb)
    {R : Unit → Shared → Prop}
    (k : ∀ h' g' Tb', KtsTurn (outer.filterMap (·.frame)) g g' → Fr g' L h' m → Below A₀ base outer g' → News g' L h' news → G.get? Tb' = none → MoveX ((envOf name scope L a cd :: outer).filterMap (·.frame)) [] G h' → ExcX h' e (.ref 52) (some dx) (some (Tb', .none)) → h'.Ns1 dx mA → dx ≠ Tb' → R () { s' with heap := h' }) :
    wpAny (model PR w) (A₀.deeper (envOf name scope L a cd)) (noteFrame (.ref e) (envOf name scope L a cd)) (fun _ s₂ => wpAny (model PR w) (A₀.deeper (envOf name scope L a cd)) (setFlight (.ref e) none) R E s₂) E s' := by
  have K' := K.push (name := name) (a := a) (cd := cd) F hk
  obtain ⟨od, es, ep, hod, hr⟩ := hM
  have hdf : dx ∉ (envOf name scope L a cd :: outer).filterMap (·.frame) := fun q => by
    obtain ⟨_, o, ho, _⟩ := K'.frames.mem q
    rw [hdG] at ho; cases ho
  refine noteX2 (K'.stack) (mv.frames K'.frames) rfl hx fun h4 T4 hT4 x4 mv4 => ?_
  have mvG4 := mv.then mv4 (fun b hb => by
    rcases List.mem_cons.mp hb with rfl | hb
    · exact he
    · rw [List.mem_singleton.mp hb]; exact hTb)
  have hT4G : G.get? T4 = none := by
    cases q : G.get? T4 with
    | none => rfl
    | some o =>
      by_cases m : T4 ∈ (envOf name scope L a cd :: outer).filterMap (·.frame)
      · obtain ⟨sl, e'⟩ := mv.frame _ _ q m
        rw [hT4] at e'; cases e'
      · have e' := mv.other _ _ q m (fun z => nomatch z)
        rw [hT4] at e'; cases e'
  have hod4 := mv4.other _ _ hod hdf (fun q => by
    rcases List.mem_cons.mp q with q | q
    · exact hde q
    · exact hdT (List.mem_singleton.mp q))
  have hdT4 : dx ≠ T4 := fun q => by rw [q, hT4] at hod; cases hod
  refine setX x4 fun h5 x5 k5 => ?_
  have mvG5 := mvG4.same hT4G k5
  obtain ⟨g', T', F', K5, N5⟩ := x_ground K F N mvG5
  exact k h5 g' T4 T' F' K5 N5 hT4G mvG5 x5 ⟨od, es, ep, (k5 _ hdT4).trans hod4, hr⟩ hdT4
theorem caughtX0 (K : Below A₀ base outer g) (F : Fr g L G m) (N : News g L G news) (XB : (hd.heap_39 w.params).In base) (TB : Top VW LO mean mg mb base)
    (mv : MoveX ((envOf name scope L a cd :: outer).filterMap (·.frame)) [] G s'.heap) (he : G.get? e = none) (hTb : G.get? Tb = none) (hx : ExcX s'.heap e (.ref 52) (some dx) (some (Tb, .none))) (hM : s'.heap.Ns1 dx mA) (hdG : G.get? dx = none) (hde : dx ≠ e) (hdT : dx ≠ Tb)
    (k : ∀ h' g', KtsTurn (outer.filterMap (·.frame)) g g' → Fr g' L h' m → Below A₀ base outer g' → News g' L h' news → (hd.heap_39 w.params).In g' → Top VW LO mean mg mb g' → wpAny (model PR w) ((A₀.deeper (envOf name scope L a cd)).mark (some (.ref e))) (execs (b₀ :: suite) (envOf name scope L a cd)) Q E { s' with heap := h' })
    (hk : scope.kind = .function := by rfl) (hkn : (envOf name scope L a cd).kindOf (Str.ofString "CrossFault") = some .globalImplicit := by rfl)
    (hE : PassesOwnAt (model PR w) ((A₀.deeper (envOf name scope L a cd)).mark (some (.ref e))) (A₀.deeper (envOf name scope L a cd)) (envOf name scope L a cd) E := by passes_own) :
    wpAny (model PR w) (A₀.deeper (envOf name scope L a cd)) (noteFrame (.ref e) (envOf name scope L a cd))
      (fun _ s₂ => wpAny (model PR w) (A₀.deeper (envOf name scope L a cd)) (setFlight (.ref e) none) (fun _ s₃ =>
        wpAny (model PR w) (A₀.deeper (envOf name scope L a cd)) (handleBy (.ref e) (envOf name scope L a cd) (.ExceptHandler (some (.Name (Str.ofString "CrossFault") np)) none (b₀ :: suite) pos :: rest)) Q E s₃) E s₂) E s' := by
  refine x_lands K F N hk mv he hTb hx hM hdG hde hdT fun h5 g5 T5 t5 F5 K5 N5 hT5 mv5 x5 n5 hdT5 => ?_
  have X5 : (hd.heap_39 w.params).In g5 := XB.keeps K5.stays
  have P5 : TopRead VW LO mg mb g5 := topRead_of (TB.keeps K5.stays)
  obtain ⟨ob, vs, hob, hobc, _⟩ := id x5
  refine wpAny_handleBy_cons (codeAny_handlers_test (name_K F5 X5 P5 (x_name w) ?_ hk hkn (by decide))) (by intro q; cases q)
  refine wpAny_excMatches_sub_self (x_class w (X5.keeps F5.keep)) hob hobc rfl (codeAny_handlers_suite ?_)
  refine setX x5 fun h6 x6 k6 => ?_
  have mv6 := mv5.same hT5 k6
  obtain ⟨g6, T6, F6, K6, N6⟩ := x_ground K F N mv6
  exact wpAny_passesOwnAt hE (k h6 g6 T6 F6 K6 N6 (XB.keeps K6.stays) (TB.keeps K6.stays))
theorem caughtXB (K : Below A₀ base outer g) (F : Fr g L G m) (N : News g L G news) (XB : (hd.heap_39 w.params).In base) (TB : Top VW LO mean mg mb base)
    (mv : MoveX ((envOf name scope L a cd :: outer).filterMap (·.frame)) [] G s'.heap) (he : G.get? e = none) (hTb : G.get? Tb = none) (hx : ExcX s'.heap e (.ref 52) (some dx) (some (Tb, .none))) (hM : s'.heap.Ns1 dx mA) (hdG : G.get? dx = none) (hde : dx ≠ e) (hdT : dx ≠ Tb)
    (k : ∀ h' g' tk oe ox, KtsTurn (outer.filterMap (·.frame)) g g' → Fr g' L h' (fun y => if y = n then some (.ref e) else m y) → Below A₀ base outer g' → News g' L h' ((e, oe) :: (dx, ox) :: news) → oe.cls = .ref 52 → oe.dict = some dx → (∃ vs, oe.data = .fields vs) → (∃ es ep, ox.data = .dict es ep) → h'.Ns1 dx mA → (hd.heap_39 w.params).In g' → Top VW LO mean mg mb g' →
      wpAny (model PR w) ((A₀.deeper (envOf name scope L a cd)).mark (some (.ref e))) (execs (b₀ :: suite) (envOf name scope L a cd))
        (fun f s₄ => wpAny (model PR w) (A₀.deeper (envOf name scope L a cd)) (do bindName (envOf name scope L a cd) n .none; unbindBehindTheSuite (envOf name scope L a cd) n pos) (fun _ s₅ => Q f s₅) E s₄)
        (AsSuiteRaised (model PR w) ((A₀.deeper (envOf name scope L a cd)).mark (some (.ref e))) (envOf name scope L a cd) n pos (notedBy (model PR w) ((A₀.deeper (envOf name scope L a cd)).mark (some (.ref e))) (envOf name scope L a cd) (cameBackBy (model PR w) (A₀.deeper (envOf name scope L a cd)) (envOf name scope L a cd) E)))
        { s' with heap := h', toks := tk })
    (hk : scope.kind = .function := by rfl) (hlo : (envOf name scope L a cd).kindOf n = some .local := by rfl) (hkn : (envOf name scope L a cd).kindOf (Str.ofString "CrossFault") = some .globalImplicit := by rfl) :
    wpAny (model PR w) (A₀.deeper (envOf name scope L a cd)) (noteFrame (.ref e) (envOf name scope L a cd))
      (fun _ s₂ => wpAny (model PR w) (A₀.deeper (envOf name scope L a cd)) (setFlight (.ref e) none) (fun _ s₃ =>
        wpAny (model PR w) (A₀.deeper (envOf name scope L a cd)) (handleBy (.ref e) (envOf name scope L a cd) (.ExceptHandler (some (.Name (Str.ofString "CrossFault") np)) (some n) (b₀ :: suite) pos :: rest)) Q E s₃) E s₂) E s' := by
  refine x_lands K F N hk mv he hTb hx hM hdG hde hdT fun h5 g5 T5 t5 F5 K5 N5 hT5 mv5 x5 n5 hdT5 => ?_
  have X5 : (hd.heap_39 w.params).In g5 := XB.keeps K5.stays
  have P5 : TopRead VW LO mg mb g5 := topRead_of (TB.keeps K5.stays)
  obtain ⟨ob, vs, hob, hobc, _⟩ := id x5
  refine wpAny_handleBy_cons (codeAny_handlers_test (name_K F5 X5 P5 (x_name w) ?_ hk hkn (by decide))) (by intro q; cases q)
  refine wpAny_excMatches_sub_self (x_class w (X5.keeps F5.keep)) hob hobc rfl (codeAny_handlers_suite_as ?_)
  refine setX x5 fun h6 x6 k6 => ?_
  have mv6 := mv5.same hT5 k6
  obtain ⟨g6, T6, F6, K6, N6⟩ := x_ground K F N mv6
  obtain ⟨oe, ws, hoe, hoc, hod, hoda, _⟩ := x6
  obtain ⟨ox, es, ep, hox, hoxd, hr⟩ := n5
  have hox6 : h6.get? dx = some ox := (k6 _ hdT5).trans hox
  have hgn : ∀ b, G.get? b = none → g6.get? b = none := fun b hb => T6.none_ _ (kts_none F.keep hb)
  have hL6 : ∀ b, G.get? b = none → b ≠ L := fun b hb q => by
    obtain ⟨oL, _, _, z, _⟩ := F.ns
    rw [q, z] at hb; cases hb
  have N7 : News g6 L h6 ((e, oe) :: (dx, ox) :: news) := fun p hp => by
    rcases List.mem_cons.mp hp with rfl | hp
    · exact ⟨hoe, hL6 _ he, hgn _ he⟩
    rcases List.mem_cons.mp hp with rfl | hp
    · exact ⟨hox6, hL6 _ hdG, hgn _ hdG⟩
    · exact N6 p hp
  refine stN F6 N7 (fun h7 F7 N7' => ?_) hk hlo
  exact k h7 g6 _ oe ox T6 F7 K6 N7' hoc hod ⟨_, hoda⟩ ⟨_, _, hoxd⟩ ⟨ox, es, ep, (N7' _ (.tail _ (.head _))).1, hoxd, hr⟩ (XB.keeps K6.stays) (TB.keeps K6.stays)
end
end
section
open PySem PySem.W PySem.Calls PyProof.Rows
set_option maxRecDepth 100000
set_option maxHeartbeats 1000000
theorem my_backX {h₀ g g' h h' : Heap} {L L' : Addr} {m m' : Str → Option Value} {news ns : List (Addr × Obj)} {fs : List Addr} (F : Fr h₀ L h m) (N : News h₀ L h news) (hG : ∀ b o, h.get? b = some o → g.get? b = some o) (hfs : ∀ b ∈ fs, b = L) (T : KtsTurn fs g g') (F' : Fr g' L' h' m') (N' : News g' L' h' ns) :
    Fr h₀ L h' m ∧ News h₀ L h' (ns ++ news) ∧ (∀ p ∈ ns, ∀ b o, h.get? b = some o → p.1 ≠ b) ∧ (∀ b o, h.get? b = some o → b ≠ L → h'.get? b = some o) := by
  obtain ⟨oL, es, ep, hoL, hd, r⟩ := id F.ns
  obtain ⟨sl, hs⟩ := T.up (hG L oL hoL)
  have keep : ∀ b o, h.get? b = some o → b ≠ L → h'.get? b = some o := fun b o e n => F'.keep _ _ (T.other b o (hG b o e) (fun m => n (hfs b m)))
  have h0L : ∀ o, h₀.get? L = some o → False := fun o e => absurd (Nat.lt_of_lt_of_le (Heap.lt_size e) F.above) (Nat.lt_irrefl _)
  have hns : ∀ p ∈ ns, ∀ b o, h.get? b = some o → p.1 ≠ b := fun p hp b o e q => by
    obtain ⟨sl, hs⟩ := T.up (hG b o e)
    have z := (N' p hp).2.2
    rw [q, hs] at z; cases z
  refine ⟨⟨⟨_, es, ep, F'.keep _ _ hs, hd, r⟩, fun b o e => keep b o (F.keep b o e) (fun q => h0L o (q ▸ e)), F.above⟩, fun p hp => ?_, hns, keep⟩
  rcases List.mem_append.mp hp with hp | hp
  · refine ⟨(N' p hp).1, fun q => hns p hp L oL hoL q, ?_⟩
    cases q : h₀.get? p.1 with
    | none => rfl
    | some o => exact absurd rfl (hns p hp p.1 o (F.keep _ _ q))
  · exact ⟨keep _ _ (N p hp).1 (N p hp).2.1, (N p hp).2⟩
theorem lchain_call {w : World} {fr : Option (List Env)} {gd : Option (List Code)} {dp un : Nat} {s : Shared} {base h₀ : Heap} {L : Addr} {m mg mb : Str → Option Value} {mean : ExcName → Option Value} {env : Env} {news : List (Addr × Obj)}
  {T : Addr} {kvs : List (Int × Value)} {tbl : List (Int × T3)} {Q : Value → Shared → Prop} {E : Value → Shared → Prop}
  (B : Below { handled := none, depth := dp, frames := fr, guards := gd, units := un } base [] h₀) (F : Fr h₀ L s.heap m) (XB : (hd.heap_39 w.params).In base) (TB : Top VW LO mean mg mb base) (X₀ : (hd.heap_39 w.params).In h₀) (TT : Top VW LO mean mg mb h₀)
  (N : News h₀ L s.heap news)
  (hf : env.frame = some L) (hke : env.scope.kind = .function) (hdp : dp ≤ 780) (hun : un ≤ 7800)
  (hT : s.heap.DictOf (intKind PR w) T kvs) (lo : (T == sysModules) = false) (hrows : Al (fun kv r => kv.1 = r.1 ∧ EntAt w (inH s.heap) kv.2 r.2) kvs tbl) (hlen : tbl.length ≤ 60) (hbd : ∀ p ∈ tbl, 0 ≤ p.2.2.1 ∧ p.2.2.1 < 1000000)
  (hQn : ∀ h' tk, Fr h₀ L h' m → News h₀ L h' news → walkF tbl (tbl.length + 1) [] 0 = none → Q .none { s with heap := h', toks := tk })
  (hQ : ∀ d out h' tk vs c ns, Fr h₀ L h' m → News h₀ L h' (out ++ news) → (∀ p ∈ out, ∀ b o, s.heap.get? b = some o → p.1 ≠ b) → (d, listOf vs.toArray c) ∈ out → IntsAre vs ns → walkF tbl (tbl.length + 1) [] 0 = some ns → Q (.ref d) { s with heap := h', toks := tk }) :
  wpAny (model PR w) (({ handled := none, depth := dp, frames := fr, guards := gd, units := un } : Around).deeper env) (call (.ref 151) [.ref T]) Q E s := by
  refine' my_call (binds := [(Str.ofString "entries", .ref T)]) B F X₀ News.nil TT hf hke ?k6 ?k7 ?k8 ?k9 ?kB ?_ ?c2 ?c3 ?c4 ?c5
  walk_at "m call"
  intro g L' h₁ Qb hG hGs hsz F' N' hlt B' X' T' hret hnext
  have hTg : g.DictOf (intKind PR w) T kvs := by
    obtain ⟨o, es, ep, ho, r⟩ := hT
    exact ⟨o, es, ep, hG _ _ ho (by simp), r⟩
  have hrg : Al (fun kv r => kv.1 = r.1 ∧ EntAt w (inH g) kv.2 r.2) kvs tbl := hrows.mono fun kv r z => ⟨z.1, z.2.le fun a o e => hG _ _ e (by simp)⟩
  have hG' : ∀ b o, s.heap.get? b = some o → g.get? b = some o := fun b o e => hG b o e (fun q => nomatch q)
  have hfs : ∀ b ∈ [env].filterMap (·.frame), b = L := fun b hb => by
    rw [List.filterMap_cons, hf] at hb
    exact List.mem_singleton.mp hb
  have pm : PassMark := passMark
  repeat' (first | walk1 | (dsimp only; walk1))
  all_goals (try clear pm)
  have inH1 : ∀ a o, g.get? a = some o → h₁.get? a = some o := fun a o e => F'.keep _ _ e
  refine chainof_call (m := fun y => [(Str.ofString "entries", Value.ref T)].reverse.lookup y) (news := []) (tbl := tbl) (kvs := kvs) B' F' X' T' News.nil rfl rfl ?d1 ?d2 ?dT lo ?rows hlen hbd ?qS ?qE
  case d1 => exact Nat.le_trans (Nat.succ_le_succ hdp) (by decide)
  case d2 => show un + 3 ≤ 7900; omega
  case dT => exact dictOf_fr hTg F'
  case rows => exact hrg.mono fun kv r z => ⟨z.1, z.2.le fun a o e => inH1 a o e⟩
  case qS =>
    intro d out h' tk vs c ns F1 N1 ap hm hi hw
    rw [List.append_nil] at N1
    obtain ⟨FF, NN, KK, AA⟩ := my_back F N hG F1 N1 (fun q => nomatch q) (fun b q => nomatch q)
    refine hret _ _ (hQ d out h' tk vs c ns FF (fun p hp => ?_) (fun p hp b o' e => AA p hp (fun q => nomatch q) b o' e (fun q => nomatch q)) hm hi hw)
    rcases List.mem_append.mp hp with hp | hp
    · exact NN p hp
    · exact KK p hp (fun q => nomatch q)
  case qE =>
    intro e Tb dx h' tk mA msg tm mv he hTb hdx hde hdT hX hM hW hw
    refine caughtX0 (G := h₁) (g := g) (news := []) B' F' News.nil XB TB mv he hTb hX hM hdx hde hdT fun h6 g6 T6 F6 K6 N6 X6 P6 => ?_
    walk_at "m walk"
    obtain ⟨FF, NN, AA, KK⟩ := my_backX F N hG' hfs T6 F6 N6
    exact hret _ _ (hQn _ _ FF NN hw)
end
section
open PySem PySem.W PySem.Calls PyProof.Rows
set_option maxRecDepth 100000
set_option maxHeartbeats 1000000
theorem news_rot {h₀ h : Heap} {L : Addr} {a b c : Addr × Obj} {r : List (Addr × Obj)} (N : News h₀ L h (a :: b :: c :: r)) : News h₀ L h (b :: c :: a :: r) := news_sub N (by walk_at "m subl")
theorem faults_call {w : World} {fr : Option (List Env)} {gd : Option (List Code)} {dp un : Nat} {s : Shared} {base h₀ : Heap} {L : Addr} {m mg mb : Str → Option Value} {mean : ExcName → Option Value} {env : Env} {news : List (Addr × Obj)}
  {T : Addr} {kvs : List (Int × Value)} {tbl : List (Int × T3)} {Q : Value → Shared → Prop} {E : Value → Shared → Prop}
  (B : Below { handled := none, depth := dp, frames := fr, guards := gd, units := un } base [] h₀) (F : Fr h₀ L s.heap m) (XB : (hd.heap_39 w.params).In base) (TB : Top VW LO mean mg mb base) (X₀ : (hd.heap_39 w.params).In h₀) (TT : Top VW LO mean mg mb h₀)
  (N : News h₀ L s.heap news)
  (hf : env.frame = some L) (hke : env.scope.kind = .function) (hdp : dp ≤ 780) (hun : un ≤ 7800)
  (hT : s.heap.DictOf (intKind PR w) T kvs) (hTL : T ≠ L) (lo : (T == sysModules) = false) (hrows : Al (fun kv r => kv.1 = r.1 ∧ EntAt w (fun a o => s.heap.get? a = some o ∧ a ≠ L) kv.2 r.2) kvs tbl) (hlen : tbl.length ≤ 60) (hnd : (kvs.map (·.1)).Nodup) (hbd : ∀ p ∈ tbl, 0 ≤ p.2.2.1 ∧ p.2.2.1 < 1000000) (hkb : ∀ p ∈ tbl, p.1 < 1000000)
  (hQ : ∀ d out h' tk vs c, Fr h₀ L h' m → News h₀ L h' (out ++ news) → (∀ p ∈ out, ∀ b o, s.heap.get? b = some o → p.1 ≠ b) → (d, listOf vs.toArray c) ∈ out → Al (FaultAt (inL out)) vs (faultsOf tbl) → Q (.ref d) { s with heap := h', toks := tk }) :
  wpAny (model PR w) (({ handled := none, depth := dp, frames := fr, guards := gd, units := un } : Around).deeper env) (call (.ref 106) [.ref T]) Q E s := by
  refine' my_call (binds := [(Str.ofString "entries", .ref T)]) B F X₀ News.nil TT hf hke ?k6 ?k7 ?k8 ?k9 ?kB ?_ ?c2 ?c3 ?c4 ?c5
  walk_at "m call"
  intro g L' h₁ Qb hG hGs hsz F' N' hlt B' X' T' hret hnext
  have hG' : ∀ b o, s.heap.get? b = some o → g.get? b = some o := fun b o e => hG b o e (fun q => nomatch q)
  have hfs : ∀ b ∈ [env].filterMap (·.frame), b = L := fun b hb => by
    rw [List.filterMap_cons, hf] at hb
    exact List.mem_singleton.mp hb
  have gT : ∀ g', KtsTurn ([env].filterMap (·.frame)) g g' → g'.DictOf (intKind PR w) T kvs := fun g' K => by
    obtain ⟨o, es, ep, ho, r⟩ := hT
    exact ⟨o, es, ep, K.other _ _ (hG' _ _ ho) (fun q => hTL (hfs _ q)), r⟩
  have gR : ∀ g', KtsTurn ([env].filterMap (·.frame)) g g' → Al (fun kv r => kv.1 = r.1 ∧ EntAt w (inH g') kv.2 r.2) kvs tbl := fun g' K =>
    hrows.mono fun kv r z => ⟨z.1, z.2.le fun a o e => K.other _ _ (hG' _ _ e.1) (fun q => e.2 (hfs _ q))⟩
  have hTg := gT g KtsTurn.refl
  have hrg := gR g KtsTurn.refl
  walk_at "m walk"
  rename_i l1 hz1 _ _ hz2 tz d1 out1 hA tkA vs1 c1 apA aqA hmA hiA hB FB NB
  have hl1 : ∀ p ∈ out1, p.1 ≠ l1 := aqA (l1, _) (.head _)
  have hd1 : d1 ≠ l1 := hl1 _ hmA
  have NC : News g L' hB ((l1, listOf ([] : List Value).toArray 0) :: (d1, listOf vs1.toArray c1) :: out1) := news_sub NB (by
    intro p hp
    simp only [List.mem_cons, List.mem_append, List.not_mem_nil, or_false] at hp ⊢
    rcases hp with h | h | h
    · right; rw [h]
    · left; rw [h]; exact hmA
    · left; exact h)
  obtain ⟨chain, hchain⟩ : ∃ c, c = walkF tbl (tbl.length + 1) [] 0 := ⟨_, rfl⟩
  obtain ⟨Mid, hMid⟩ : ∃ M : Flow → Shared → Prop, M = (fun f s' => f = .next ∧ ∃ (g' h' : Heap) (tk : Nat) (fv : Option Value) (dF dM : Addr) (vsF : List Value) (cF : Nat) (vsM : List Value) (cM : Nat) (met ns0 : List Int) (outF : List (Addr × Obj)), s' = { s with heap := h', toks := tk } ∧ KtsTurn ([env].filterMap (·.frame)) g g' ∧
      Fr g' L' h' (fun y : Str => if y = Str.ofString "fault" then fv else if y = Str.ofString "met" then some (.ref dM) else if y = Str.ofString "faults" then some (.ref dF) else List.lookup y [(Str.ofString "entries", Value.ref T)].reverse) ∧ Below (({ handled := none, depth := dp, frames := fr, guards := gd, units := un } : Around).deeper env) base [env] g' ∧ News g' L' h' ((dF, listOf vsF.toArray cF) :: (dM, listOf vsM.toArray cM) :: outF) ∧ (hd.heap_39 w.params).In g' ∧ Top VW LO mean mg mb g' ∧ (∀ p ∈ (dM, listOf vsM.toArray cM) :: outF, p.1 ≠ dF) ∧ IntsAre vsM met ∧ Al (FaultAt (inL outF)) vsF ns0 ∧ met = chain.getD (freeOf tbl) ∧ ns0 = (if chain.isNone then [0] else [])) := ⟨_, rfl⟩
  refine wpAny_mono (Q := Mid) ?tr ?cont (fun _ _ x => x)
  case tr =>
    clear hQ hret hnext NB
    have pm : PassMark := passMark
    repeat' (first | walk1 | (dsimp only; walk1))
    all_goals (try clear pm)
    have ET : Al (fun kv r => kv.1 = r.1 ∧ EntAt w (inH hB) kv.2 r.2) kvs tbl := al_fr FB hrg
    refine chainof_call (tbl := tbl) (kvs := kvs) B' FB X' T' NC rfl rfl ?d1 ?d2 (dictOf_fr hTg FB) lo ET hlen hbd ?qS ?qE
    case d1 => exact Nat.le_trans (Nat.succ_le_succ hdp) (by decide)
    case d2 => show un + 3 ≤ 7900; omega
    case qS =>
      intro d out h2 tk2 vs c ns F2 N2 ap hm hi hw
      have hl2 : ∀ p ∈ out, p.1 ≠ l1 := fun p hp => ap p hp l1 _ (NC.get (.head _))
      have N3 : News g L' h2 ((l1, listOf ([] : List Value).toArray 0) :: (d, listOf vs.toArray c) :: (out ++ out1)) := news_sub N2 (by
        intro p hp
        revert hp; revert p; walk_at "m subl")
      clear N2 FB NC
      walk_at "m walk"
      rename_i h3 F3 N4
      rw [hMid]
      refine ⟨rfl, g, _, _, none, l1, d, [], 0, vs, c, ns, [], out ++ out1, rfl, KtsTurn.refl, ?_, B', N4, X', T', ?_, hi, .nil, ?_, ?_⟩
      · have e : (fun y : Str => if y = Str.ofString "met" then some (Value.ref d) else if y = Str.ofString "met" then some (Value.ref d1) else if y = Str.ofString "faults" then some (Value.ref l1) else List.lookup y [(Str.ofString "entries", Value.ref T)].reverse) = (fun y : Str => if y = Str.ofString "fault" then none else if y = Str.ofString "met" then some (.ref d) else if y = Str.ofString "faults" then some (.ref l1) else List.lookup y [(Str.ofString "entries", Value.ref T)].reverse) := by
          funext y
          by_cases h1 : y = Str.ofString "fault"
          · subst h1; rfl
          by_cases h2 : y = Str.ofString "met"
          · subst h2; rfl
          simp only [if_neg h1, if_neg h2]
        rw [← e]; exact F3
      · intro p hp
        rcases List.mem_cons.mp hp with rfl | hp
        · exact hl2 _ hm
        · rcases List.mem_append.mp hp with hp | hp
          · exact hl2 p hp
          · exact hl1 p hp
      · rw [hchain, hw]; rfl
      · rw [hchain, hw]; rfl
    case qE =>
      intro e Tb dx h2 tk2 mA msg tm mv he hTb hdx hde hdT hX hM hW hw
      refine caughtXB (G := hB) (g := g) B' FB NC XB TB mv he hTb hX hM hdx hde hdT fun h6 g6 tk6 oe ox T6 F6 K6 N6 hoc hod hoda hoxd hM6 X6 P6 => ?_
      clear NC FB
      have hk1 : ∀ p ∈ (d1, listOf vs1.toArray c1) :: out1, p.1 ≠ l1 := fun p hp => by
        rcases List.mem_cons.mp hp with rfl | hp
        · exact hd1
        · exact hl1 p hp
      walk_at "m walk"
      obtain ⟨vse, hvse⟩ := hoda
      refine x_get (X6.keeps F6.keep) (N6.get (.head _)) hoc hod (by unfold notCls; rw [hvse]) hM6 hW (x_what w) rfl ?_
      have N7 : News g6 L' h6 ((l1, listOf ([] : List Value).toArray 0) :: (d1, listOf vs1.toArray c1) :: out1) := fun p hp => N6 p (.tail _ (.tail _ hp))
      clear N6
      dsimp only
      walk_at "m walk"
      rename_i D1 _ _ _ hk9 lD _ _ _ h7 v7 F7 N8
      rw [hMid]
      refine ⟨rfl, g6, h7, _, v7, l1, d1, [.ref D1], 1, vs1, c1, freeOf tbl, [0], (D1, tupOf [.int 0 tk6, .str msg tm]) :: out1, rfl, T6, ?_, K6, news_sub N8 ?_, X6, P6, ?_, hiA, .cons ⟨D1, _, _, rfl, .head _⟩ .nil, ?_, ?_⟩
      · have e : (fun y : Str => if y = Str.ofString "fault" then v7 else if y = Str.ofString "fault" then some (Value.ref e) else if y = Str.ofString "met" then some (Value.ref d1) else if y = Str.ofString "faults" then some (Value.ref l1) else List.lookup y [(Str.ofString "entries", Value.ref T)].reverse) = (fun y : Str => if y = Str.ofString "fault" then v7 else if y = Str.ofString "met" then some (.ref d1) else if y = Str.ofString "faults" then some (.ref l1) else List.lookup y [(Str.ofString "entries", Value.ref T)].reverse) := by
          funext y
          by_cases h1 : y = Str.ofString "fault"
          · simp only [if_pos h1]
          · simp only [if_neg h1]
        rw [← e]; exact F7
      · intro p hp
        revert hp; revert p; walk_at "m subl"
      · intro p hp
        simp only [List.mem_cons] at hp
        rcases hp with rfl | rfl | hp
        · exact hd1
        · exact Ne.symm (Nat.ne_of_lt lD.1)
        · exact hl1 p hp
      · rw [hchain, hw]; rfl
      · rw [hchain, hw]; rfl
  case cont =>
    intro f s' hm
    rw [hMid] at hm
    obtain ⟨rfl, g', h2, tk2, fv, dF, dM, vsF, cF, vsM, cM, met, ns0, outF, rfl, KT, F2, K2, N2, X2, P2, hfr, hiM, hal, hmet, hns0⟩ := hm
    have hT2 := gT g' KT
    have hr2 := gR g' KT
    clear hMid FB NC NB X' T' B' hTg hrg
    have hvF : vsF.length ≤ 1 := by
      rw [hal.length, hns0]; split <;> decide
    have hvF2 : vsF.length ≤ 1000 := by omega
    (try dsimp only)
    walk1
    obtain ⟨Mid2, hMid2⟩ : ∃ M : Flow → Shared → Prop, M = (fun f s' => f = .next ∧ ∃ (h3 : Heap) (tk3 : Nat) (vsF' : List Value) (cF' : Nat) (outF' : List (Addr × Obj)), s' = { s with heap := h3, toks := tk3 } ∧
      Fr g' L' h3 (fun y : Str => if y = Str.ofString "fault" then fv else if y = Str.ofString "met" then some (.ref dM) else if y = Str.ofString "faults" then some (.ref dF) else List.lookup y [(Str.ofString "entries", Value.ref T)].reverse) ∧ News g' L' h3 ((dF, listOf vsF'.toArray cF') :: (dM, listOf vsM.toArray cM) :: outF') ∧ (∀ p ∈ (dM, listOf vsM.toArray cM) :: outF', p.1 ≠ dF) ∧ Al (FaultAt (inL outF')) vsF' (ns0 ++ zeroF tbl)) := ⟨_, rfl⟩
    refine wpAny_mono (Q := Mid2) ?t2 ?c2 (fun _ _ x => x)
    case t2 =>
      clear hQ hret hnext
      cases hga : gAt tbl 0 with
      | none =>
        have hb : (gAt tbl 0).isSome = false := by rw [hga]; rfl
        have hz : zeroF tbl = [] := by unfold zeroF; rw [hga]
        clear hga
        walk_at "m walk"
        rw [hMid2]
        exact ⟨rfl, h2, _, vsF, cF, outF, rfl, F2, N2, hfr, by rw [hz, List.append_nil]; exact hal⟩
      | some r =>
        obtain ⟨v, hva, a, dx, k0, k1, k2, t0, t1, t2, rfl, ha, hdx⟩ := (al_at hr2 0).2 r hga
        obtain ⟨way, one, two⟩ := r
        have ha' : g'.get? a = some (instObj 78 dx) := ha
        have hdx' : g'.get? dx = some (dictOf [⟨PyData.keyHash w.params "way", .str "way" k0, .str way t0⟩, ⟨PyData.keyHash w.params "one", .str "one" k1, .int one t1⟩, ⟨PyData.keyHash w.params "two", .str "two" k2, .int two t2⟩] 3) := hdx
        have hb : (gAt tbl 0).isSome = true := by rw [hga]; rfl
        have hz : zeroF tbl = if two ≠ 65535 then [0] else [] := by unfold zeroF; rw [hga]
        clear hga ha hdx
        walk_at "m walk"
        · have hne : two ≠ 65535 := by assumption
          rename_i D1 _ _ _ hk9 lD h3 F3 N3
          rw [hMid2]
          refine ⟨rfl, h3, _, vsF ++ [.ref D1], cF + 1, _, rfl, F3, news_rot N3, ?_, ?_⟩
          · intro p hp
            simp only [List.mem_cons] at hp
            rcases hp with rfl | rfl | hp
            · exact hfr _ (.head _)
            · exact Ne.symm (Nat.ne_of_lt lD.1)
            · exact hfr p (.tail _ hp)
          · rw [hz, if_pos hne]
            exact Al.snoc (hal.mono fun v n z => z.le fun a o hm => .tail _ hm) ⟨D1, _, _, rfl, .head _⟩
        · have he : two = 65535 := by assumption
          rw [hMid2]
          exact ⟨rfl, h2, _, vsF, cF, outF, rfl, F2, N2, hfr, by rw [hz, if_neg (fun q => q he), List.append_nil]; exact hal⟩
    case c2 =>
      intro f s' hm2
      rw [hMid2] at hm2
      obtain ⟨rfl, h3, tk3, vs3, c3, out3, rfl, F3, N3, hfr3, hal3⟩ := hm2
      clear hMid2 F2 N2 hfr hal
      have hv3 : vs3.length ≤ 2 := by
        rw [hal3.length, List.length_append, hns0]
        have : (zeroF tbl).length ≤ 1 := by
          unfold zeroF; split
          · split <;> decide
          · decide
        have : (if chain.isNone then [(0 : Int)] else []).length ≤ 1 := by split <;> decide
        omega
      dsimp only
      walk_at "m walk"
      rename_i d4 out4 h4 tk4 vs4 c4 F4 N4 ap4 aq4 hm4 hi4
      have N5 : News g' L' h4 ((dF, listOf vs3.toArray c3) :: (dM, listOf vsM.toArray cM) :: out3) := news_sub N4 (fun p hp => List.mem_append_right _ hp)
      have h4F : d4 ≠ dF := aq4 _ (.head _) _ hm4
      have hfl : (freeOf tbl).length ≤ 60 := by
        have h1 := List.length_filter_le (freeP tbl) (srt (tbl.map (·.1)))
        rw [(srt_perm _).length_eq, List.length_map] at h1
        exact Nat.le_trans h1 hlen
      obtain ⟨J, hJd⟩ : ∃ J : Nat → (Str → Option Value) → List (Addr × Obj) → Prop, J = (fun i m nw => ∃ (nv ev : Option Value) (vsF : List Value) (cF : Nat) (outF : List (Addr × Obj)), m = (fun y : Str => if y = Str.ofString "entry" then ev else if y = Str.ofString "number" then nv else if y = Str.ofString "fault" then fv else if y = Str.ofString "met" then some (.ref dM) else if y = Str.ofString "faults" then some (.ref dF) else List.lookup y [(Str.ofString "entries", Value.ref T)].reverse) ∧ nw = (dF, listOf vsF.toArray cF) :: (dM, listOf vsM.toArray cM) :: outF ∧ (∀ p ∈ (dM, listOf vsM.toArray cM) :: outF, p.1 ≠ dF) ∧ Al (FaultAt (inL outF)) vsF (ns0 ++ zeroF tbl ++ ((freeOf tbl).take i).filter (overP tbl met)) ∧ vsF.length ≤ 2 + i) := ⟨_, rfl⟩
      refine my_list (its := vs4.toArray) (J) rfl (N4.isList (List.mem_append_left _ hm4)) ((N4 _ (List.mem_append_left _ hm4)).2.1) F4 N5 ?hJ ?turn ?done
      case hJ =>
        rw [hJd]
        refine ⟨none, none, vs3, c3, out3, ?_, rfl, hfr3, by rw [List.take_zero, List.filter_nil, List.append_nil]; exact hal3, hv3⟩
        funext y
        by_cases h1 : y = Str.ofString "entry"
        · subst h1; rfl
        by_cases h2 : y = Str.ofString "number"
        · subst h2; rfl
        simp only [if_neg h1, if_neg h2]
      case turn =>
        intro i v m₁ nw h tk I own hv hJi hnI hown hIl hq91 F1 N1
        obtain ⟨oI, hoI⟩ := hq91
        rw [hJd] at hJi
        obtain ⟨nv, ev, vsF, cF, outF, hm, hnw, hfr, hal, hlF⟩ := hJi
        subst hm hnw
        change Fr g' L' h _ at F1
        change News g' L' h _ at N1
        obtain ⟨k, t0, hk, rfl⟩ := ints_get hi4 (by simpa using hv)
        have hi60 : i < 60 := Nat.lt_of_lt_of_le (List.getElem?_eq_some_iff.mp hk).1 hfl
        have hkm : freeP tbl k = true := (List.mem_filter.mp (List.mem_of_getElem? hk)).2
        have hk0 : 0 < k := by
          unfold freeP at hkm
          rw [Bool.and_eq_true] at hkm
          exact of_decide_eq_true hkm.1
        obtain ⟨r, hga⟩ : ∃ r, gAt tbl k = some r := by
          unfold freeP at hkm
          cases q : gAt tbl k with
          | none => rw [q] at hkm; simp at hkm
          | some r => exact ⟨r, rfl⟩
        have hkb' := hkb _ (gAt_mem hga)
        dsimp only at hkb'
        obtain ⟨v, hva, a, dx, k0, k1, k2, t1, t2, t3, rfl, ha, hdx⟩ := (al_at hr2 k).2 r hga
        obtain ⟨way, one, two⟩ := r
        have ha' : g'.get? a = some (instObj 78 dx) := ha
        have hdx' : g'.get? dx = some (dictOf [⟨PyData.keyHash w.params "way", .str "way" k0, .str way t1⟩, ⟨PyData.keyHash w.params "one", .str "one" k1, .int one t2⟩, ⟨PyData.keyHash w.params "two", .str "two" k2, .int two t3⟩] 3) := hdx
        have hov : overP tbl met k = (!(met.any fun x => x == k) && ((one != 0) || (two != 65535))) := by unfold overP; rw [hga]
        obtain ⟨rest, hrest⟩ : ∃ r, r = own ++ outF := ⟨_, rfl⟩
        have N6 : News g' L' h ((dF, listOf vsF.toArray cF) :: (dM, listOf vsM.toArray cM) :: rest) := news_sub N1 (by rw [hrest]; walk_at "m subl")
        have hfr2 : ∀ p ∈ (dM, listOf vsM.toArray cM) :: rest, p.1 ≠ dF := by
          intro p hp
          rcases List.mem_cons.mp hp with rfl | hp
          · exact hfr _ (.head _)
          · rcases List.mem_append.mp (hrest ▸ hp) with hp | hp
            · rcases hown p hp with q | q
              · rw [q]; exact Ne.symm (hnI (dF, _) (.head _))
              · rw [q]; exact h4F
            · exact hfr p (.tail _ hp)
        have hvF1 : vsF.length ≤ 1000 := by omega
        have hfun : ∀ va vb : Value, (fun y : Str => if y = Str.ofString "entry" then some va else if y = Str.ofString "number" then some vb else (fun y : Str => if y = Str.ofString "entry" then ev else if y = Str.ofString "number" then nv else if y = Str.ofString "fault" then fv else if y = Str.ofString "met" then some (Value.ref dM) else if y = Str.ofString "faults" then some (.ref dF) else List.lookup y [(Str.ofString "entries", Value.ref T)].reverse) y) = (fun y : Str => if y = Str.ofString "entry" then some va else if y = Str.ofString "number" then some vb else if y = Str.ofString "fault" then fv else if y = Str.ofString "met" then some (.ref dM) else if y = Str.ofString "faults" then some (.ref dF) else List.lookup y [(Str.ofString "entries", Value.ref T)].reverse) := fun va vb => by
          funext y
          by_cases h1 : y = Str.ofString "entry"
          · simp only [if_pos h1]
          by_cases h2 : y = Str.ofString "number"
          · simp only [if_neg h1, if_pos h2]
          simp only [if_neg h1, if_neg h2]
        have finS : ∀ (Qn : Flow → Shared → Prop) (va vb : Value) h' tk', Fr g' L' h' (fun y : Str => if y = Str.ofString "entry" then some va else if y = Str.ofString "number" then some vb else (fun y : Str => if y = Str.ofString "entry" then ev else if y = Str.ofString "number" then nv else if y = Str.ofString "fault" then fv else if y = Str.ofString "met" then some (Value.ref dM) else if y = Str.ofString "faults" then some (.ref dF) else List.lookup y [(Str.ofString "entries", Value.ref T)].reverse) y) → News g' L' h' ((dF, listOf vsF.toArray cF) :: (dM, listOf vsM.toArray cM) :: rest) → overP tbl met k = false → TurnEnd g' L' (J (i + 1)) I own { heap := h4, gens := s.gens, drawn := s.drawn, toks := tk4, os := s.os } Qn .next { heap := h', gens := s.gens, drawn := s.drawn, toks := tk', os := s.os } := by
          intro Qn va vb h' tk' F' N' ho
          rw [hfun] at F'
          refine TurnEnd.intro ((dF, listOf vsF.toArray cF) :: (dM, listOf vsM.toArray cM) :: outF) F' (news_sub N' (by rw [hrest]; walk_at "m subl")) hnI ?_
          rw [hJd]
          exact ⟨_, _, vsF, cF, outF, rfl, rfl, hfr, by rw [filter_take_neg hk ho]; exact hal, by omega⟩
        have finA : ∀ (Qn : Flow → Shared → Prop) (va vb : Value) h' tk' D1 tn (x : Value), Fr g' L' h' (fun y : Str => if y = Str.ofString "entry" then some va else if y = Str.ofString "number" then some vb else (fun y : Str => if y = Str.ofString "entry" then ev else if y = Str.ofString "number" then nv else if y = Str.ofString "fault" then fv else if y = Str.ofString "met" then some (Value.ref dM) else if y = Str.ofString "faults" then some (.ref dF) else List.lookup y [(Str.ofString "entries", Value.ref T)].reverse) y) → News g' L' h' ((D1, tupOf [.int k tn, x]) :: (dF, listOf (vsF ++ [Value.ref D1]).toArray (cF + 1)) :: (dM, listOf vsM.toArray cM) :: rest) → (∀ p ∈ (dF, listOf vsF.toArray cF) :: (dM, listOf vsM.toArray cM) :: rest, p.1 < D1) → overP tbl met k = true → TurnEnd g' L' (J (i + 1)) I own { heap := h4, gens := s.gens, drawn := s.drawn, toks := tk4, os := s.os } Qn .next { heap := h', gens := s.gens, drawn := s.drawn, toks := tk', os := s.os } := by
          intro Qn va vb h' tk' D1 tn x F' N' hlt' ho
          rw [hfun] at F'
          have hID : @LT.lt Nat _ I D1 := hlt' (I, oI) (.tail _ (.tail _ (hrest ▸ List.mem_append_left _ hoI)))
          have hFD : @LT.lt Nat _ dF D1 := hlt' (dF, _) (.head _)
          refine TurnEnd.intro ((dF, listOf (vsF ++ [Value.ref D1]).toArray (cF + 1)) :: (dM, listOf vsM.toArray cM) :: (D1, tupOf [.int k tn, x]) :: outF) F' (news_sub N' (by rw [hrest]; walk_at "m subl")) ?_ ?_
          · intro p hp
            simp only [List.mem_cons] at hp
            rcases hp with rfl | rfl | rfl | hp
            · exact hnI (dF, listOf vsF.toArray cF) (.head _)
            · exact hnI (dM, listOf vsM.toArray cM) (.tail _ (.head _))
            · exact Ne.symm (Nat.ne_of_lt hID)
            · exact hnI p (.tail _ (.tail _ hp))
          · rw [hJd]
            refine ⟨_, _, vsF ++ [Value.ref D1], cF + 1, (D1, tupOf [.int k tn, x]) :: outF, rfl, rfl, ?_, ?_, by rw [List.length_append, List.length_singleton]; omega⟩
            · intro p hp
              simp only [List.mem_cons] at hp
              rcases hp with rfl | rfl | hp
              · exact hfr _ (.head _)
              · exact Ne.symm (Nat.ne_of_lt hFD)
              · exact hfr p (.tail _ hp)
            · rw [filter_take_pos hk ho, ← List.append_assoc]
              exact Al.snoc (hal.mono fun v n z => z.le fun a o hm => .tail _ hm) ⟨D1, _, _, rfl, .head _⟩
        clear hga ha hdx N1 N4 N5 F4 hQ hret hnext
        walk_at "m walk"
        · have q : (met.any fun x => x == k) = true := by assumption
          exact finS _ _ _ _ _ (by assumption) (by assumption) (by rw [hov, q]; rfl)
        · have q : (met.any fun x => x == k) = false := by assumption
          have q2 : one ≠ 0 := by assumption
          exact finA _ _ _ _ _ _ _ _ (by assumption) (by assumption) (by assumption) (by rw [hov, q]; simp [q2])
        · have q : (met.any fun x => x == k) = false := by assumption
          have q2 : two ≠ 65535 := by assumption
          exact finA _ _ _ _ _ _ _ _ (by assumption) (by assumption) (by assumption) (by rw [hov, q]; simp [q2])
        · have q1 : one = 0 := by assumption
          have q2 : two = 65535 := by assumption
          exact finS _ _ _ _ _ (by assumption) (by assumption) (by rw [hov, q1, q2]; simp)
      case done =>
        intro m₁ nw h tk hJn F1 N1
        rw [hJd] at hJn
        obtain ⟨nv, ev, vsF, cF, outF, hm, hnw, hfr, hal, hlF⟩ := hJn
        subst hm hnw
        change Fr g' L' h _ at F1
        change News g' L' h _ at N1
        dsimp only
        walk_at "m walk"
        dsimp only
        obtain ⟨FF, NN, AA, KK⟩ := my_backX F N hG' hfs KT F1 N1
        refine hret _ _ (hQ dF _ _ _ vsF cF FF NN AA (.head _) ?_)
        have hsz4 : vs4.toArray.size = (freeOf tbl).length := by rw [List.size_toArray, hi4.length]
        rw [hsz4, List.take_length] at hal
        unfold faultsOf
        rw [← hchain, ← hns0, ← hmet]
        exact hal.mono fun v n z => z.le fun a o hm => .tail _ (.tail _ hm)
end
section
open PySem PySem.W PySem.Calls PyProof.Rows
set_option maxRecDepth 100000
set_option maxHeartbeats 400000
/-- a pick of a list of ints -/
theorem pick_ints {w : World} {fr : Option (List Env)} {gd : Option (List Code)} {dp un : Nat} {s : Shared} {base h₀ : Heap} {outer : List Env} {L : Addr} {m mg mb : Str → Option Value} {mean : ExcName → Option Value} {env : Env} {news : List (Addr × Obj)} {g1 : Obj → List (Addr × Obj)} {g2 : Obj → Obj → List (Addr × Obj)}
  {P C S : Addr} {x : Pen} {vs : List Value} {ns : List Int} {Q : Value → Shared → Prop} {E : Value → Shared → Prop}
  (B : Below { handled := none, depth := dp, frames := fr, guards := gd, units := un } base outer h₀) (F : Fr h₀ L s.heap m) (X₀ : (hd.heap_39 w.params).In h₀) (T : Top VW LO mean mg mb h₀)
  (N : News h₀ L s.heap news) (U1 : UpdF P (x.p C) news g1) (U2 : ∀ o, UpdF C x.c (g1 o) (g2 o)) (hPC : P ≠ C)
  (hf : env.frame = some L) (hke : env.scope.kind = .function) (hdp : dp ≤ 790) (hun : un ≤ 7900) (hS : s.heap.IsList S vs.toArray) (hi : IntsAre vs ns) (hSP : S ≠ P) (hSC : S ≠ C) (hlo : 0 < ns.length) (hhi : ns.length ≤ 1000)
  (hQ : ∀ h' tk r t (x' : Pen), r ∈ ns → Fr h₀ L h' m → News h₀ L h' (g2 (x'.p C) x'.c) → Q (.int r t) { s with heap := h', toks := tk }) :
  wpAny (model PR w) (({ handled := none, depth := dp, frames := fr, guards := gd, units := un } : Around).deeper env) (call (.ref 125) [.ref P, .ref S]) Q E s := by
  have e : vs.toArray.size = ns.length := by rw [List.size_toArray, hi.length]
  refine pick_call B F X₀ T N U1 U2 hPC hf hke hdp hun hS hSP hSC (by omega) (by omega) fun h' tk v i x' hv F' N' => ?_
  obtain ⟨r, t, hr, rfl⟩ := ints_get hi (by simpa using hv)
  exact hQ h' tk r t x' (List.mem_of_getElem? hr) F' N'
theorem truthy_ints {prog : Program} {w : World} {A : Around} {E : Value → Shared → Prop} {s : Shared} {l : Addr} {vs : List Value} {ns : List Int} {Q : Bool → Shared → Prop} (hl : s.heap.IsList l vs.toArray) (hi : IntsAre vs ns) (hz : ns.length ≤ 1000)
    (h : Q (decide (0 < ns.length)) { s with toks := s.toks + 1 + 1 }) : wpAny (model prog w) A (truthy (.ref l)) Q E s := by
  have e : vs.toArray.size = ns.length := by rw [List.size_toArray, hi.length]
  refine wpAny_truthy_list hl (by omega) ?_
  have e2 : (!vs.toArray.isEmpty) = decide (0 < ns.length) := by
    rw [← hi.length]
    cases vs <;> rfl
  rw [e2]; exact h
/-- what holds of a table in a lap -/
noncomputable def GoodT (t : List (Int × T3)) : Prop := ∀ p ∈ t, (0 ≤ p.1 ∧ p.1 < 1000) ∧ (0 ≤ p.2.2.1 ∧ p.2.2.1 < 2000)
theorem GoodT.put {t : List (Int × T3)} (g : GoodT t) {k : Int} {r : T3} (hk : 0 ≤ k ∧ k < 1000) (hr : 0 ≤ r.2.1 ∧ r.2.1 < 2000) : GoodT (gPut t k r) := by
  intro p hp
  unfold gPut at hp
  split at hp
  · obtain ⟨q, hq, e⟩ := List.mem_map.mp hp
    subst e
    split
    · exact ⟨(g q hq).1, hr⟩
    · exact g q hq
  · rcases List.mem_append.mp hp with hp | hp
    · exact g p hp
    · rw [List.mem_singleton.mp hp]; exact ⟨hk, hr⟩
theorem GoodT.del {t : List (Int × T3)} (g : GoodT t) (k : Int) : GoodT (gDel t k) := fun p hp => g p (List.mem_filter.mp hp).1
end
local macro_rules | `(tactic| walk_at "call ref") => `(tactic| ((with_reducible show wpAny _ _ (call (Value.ref 125) _) _ _ _); k_dflt (refine' pick_ints ‹_› ‹_› ‹_› ‹_› ‹_› (by k_updF) (by intro _; k_updF) (by k_ne) (by exact rfl) (by exact rfl) (by walk_at "m d") (by walk_at "m d") (by walk_at "m islist") (by walk_at "m ints") (by k_ne) (by k_ne) (by walk_at "m len") (by walk_at "m len") ?_); (intro h' tk' r' t' x' hr' F' N'); (try dsimp only at N')))
local macro_rules | `(tactic| walk_at "truthy ref") => `(tactic| (k_dflt (refine' truthy_ints (by walk_at "m islist") ‹_› (by kxw_int) ?_; k_whole)))
section
open PySem PySem.W PySem.Calls PyProof.Rows
set_option maxRecDepth 100000
set_option maxHeartbeats 400000
section
variable {prog : Program} {w : World} {A : Around} {E : Value → Shared → Prop} {s : Shared} {d : Addr} {kvs : List (Int × Value)} {k : Int} {t : Tok} {h₀ : Heap} {L : Addr} {m : Str → Option Value} {news : List (Addr × Obj)} {g : Obj → List (Addr × Obj)} {o : Obj}
theorem pop_dict {β : Type} {V : Value → β → Prop} {tb : List (Int × β)} {Q : Value → Shared → Prop} (F : Fr h₀ L s.heap m) (N : News h₀ L s.heap news) (U : UpdF d o news g) (hd : o.IsDictOf (intKind prog w) kvs) (al : Al (fun kv r => kv.1 = r.1 ∧ V kv.2 r.2) kvs tb) (hs : (gAt tb k).isSome = true) (hsz : kvs.length ≤ 1000)
    (h : ∀ v h' o', Fr h₀ L h' m → News h₀ L h' (g o') → o'.IsDictOf (intKind prog w) (without kvs k) → Q v { s with heap := h', toks := s.toks + 1 }) : wpAny (model prog w) A (call (.builtin "dict.pop") [.ref d, .int k t]) Q E s := by
  obtain ⟨r, hr⟩ := Option.isSome_iff_exists.mp hs
  obtain ⟨v, hv, _⟩ := (al_at al k).2 r hr
  exact kob_pop (more := []) F N U hd (intKind_is _ _ _ _) (.inl rfl) rfl (PySem.F.args_dict_pop_2 _ _) hv (by rw [sizeLine_eq]; omega) (h v)
theorem item_row {value slice : PySem.Expr} {R : Has} {tb : List (Int × T3)} {Q : Value → Shared → Prop} (hd : s.heap.DictOf (intKind prog w) d kvs) (al : Al (fun kv r => kv.1 = r.1 ∧ RowAt R kv.2 r.2) kvs tb) (hs : (gAt tb k).isSome = true)
    (h : ∀ a r t0 t1 t2, gAt tb k = some r → R a (tupOf [.str r.1 t0, .int r.2.1 t1, .int r.2.2 t2]) → Q (.ref a) { s with toks := s.toks + 1 })
    (hs2 : subscripted slice false (.ref d) (.int k t) = operate [.ref d, .int k t] (getItem (.ref d) (.int k t)) := by with_unfolding_all rfl) :
    wpAny (model prog w) A (subscriptTail value slice (.ref d) (.int k t)) Q E s := by
  obtain ⟨r, hr⟩ := Option.isSome_iff_exists.mp hs
  obtain ⟨v, hv, a, t0, t1, t2, rfl, ha⟩ := (al_at al k).2 r hr
  exact item_dict hd hv (h a r t0 t1 t2 hr ha) hs2
theorem item_tupR {value slice : PySem.Expr} {g₀ : Heap} {rest : List (Addr × Obj)} {a : Addr} {vs : List Value} {v : Value} {Q : Value → Shared → Prop} (F : Fr g₀ L s.heap m) (N : News g₀ L s.heap news) (hR : g₀.get? a = some (tupOf vs) ∨ (a, tupOf vs) ∈ rest) (hsub : ∀ p ∈ rest, p ∈ news) (h0 : 0 ≤ k) (h1 : k < 1000) (hv : vs[k.toNat]? = some v) (h : Q v s)
    (hs : subscripted slice false (.ref a) (.int k t) = operate [.ref a, .int k t] (getItem (.ref a) (.int k t)) := by with_unfolding_all rfl) :
    wpAny (model prog w) A (subscriptTail value slice (.ref a) (.int k t)) Q E s := by
  have ha : s.heap.get? a = some (tupOf vs) := hR.elim (fun e => F.keep _ _ e) (fun e => (N _ (hsub _ e)).1)
  have hlt : k.toNat < vs.length := (List.getElem?_eq_some_iff.mp hv).1
  exact item_tupleT (l := vs) ⟨_, ha, rfl, 0, rfl⟩ (by omega) (by omega) (j := k.toNat) (by simp [seqIndex?]; omega) hv h hs
end
end
section
open PySem PySem.W PySem.Calls PyProof.Rows
set_option maxRecDepth 100000
set_option maxHeartbeats 4000000
local macro_rules | `(tactic| walk_at "m or") => `(tactic| (with_reducible show wpAny _ _ (eval (PySem.Expr.BoolOp BoolOp.Or _ _) _) _ _ _))
theorem news_drop2 {h₀ h : Heap} {L : Addr} {a b c : Addr × Obj} {r : List (Addr × Obj)} (N : News h₀ L h (a :: b :: c :: r)) : News h₀ L h (a :: r) := news_sub N (by walk_at "m subl")
noncomputable def turnedBase (P T d0 lN : Addr) : Str → Option Value := fun y => if y = Str.ofString "redone" then some (.ref d0) else if y = Str.ofString "numbers" then some (.ref lN) else List.lookup y [(Str.ofString "pen", Value.ref P), (Str.ofString "table", Value.ref T)].reverse
theorem turned_form {m b : Str → Option Value} (h : ∀ y, y ≠ Str.ofString "generation" → y ≠ Str.ofString "goal" → y ≠ Str.ofString "way" → y ≠ Str.ofString "number" → y ≠ Str.ofString "turn" → m y = b y) :
    m = fun y => if y = Str.ofString "generation" then m (Str.ofString "generation") else if y = Str.ofString "goal" then m (Str.ofString "goal") else if y = Str.ofString "way" then m (Str.ofString "way") else if y = Str.ofString "number" then m (Str.ofString "number") else if y = Str.ofString "turn" then m (Str.ofString "turn") else b y := by
  funext y
  by_cases e1 : y = Str.ofString "generation"
  · rw [if_pos e1, e1]
  by_cases e2 : y = Str.ofString "goal"
  · rw [if_neg e1, if_pos e2, e2]
  by_cases e3 : y = Str.ofString "way"
  · rw [if_neg e1, if_neg e2, if_pos e3, e3]
  by_cases e4 : y = Str.ofString "number"
  · rw [if_neg e1, if_neg e2, if_neg e3, if_pos e4, e4]
  by_cases e5 : y = Str.ofString "turn"
  · rw [if_neg e1, if_neg e2, if_neg e3, if_neg e4, if_pos e5, e5]
  rw [if_neg e1, if_neg e2, if_neg e3, if_neg e4, if_neg e5]
  exact h y e1 e2 e3 e4 e5
noncomputable def TurnedJ (w : World) (R : Has) (P C T d0 lN : Addr) (vsN : List Value) (cN n : Nat) (i : Nat) (m : Str → Option Value) (nw : List (Addr × Obj)) : Prop :=
  ∃ (o' : Obj) (kv' : List (Int × Value)) (x' : Pen) (out : List (Addr × Obj)) (tb' : List (Int × T3)),
    (∀ y, y ≠ Str.ofString "generation" → y ≠ Str.ofString "goal" → y ≠ Str.ofString "way" → y ≠ Str.ofString "number" → y ≠ Str.ofString "turn" → m y = turnedBase P T d0 lN y) ∧
    nw = (P, x'.p C) :: (C, x'.c) :: (d0, o') :: (lN, listOf vsN.toArray cN) :: out ∧ (∀ p ∈ out, p.1 ≠ d0 ∧ p.1 ≠ P ∧ p.1 ≠ C ∧ p.1 ≠ lN) ∧ o'.IsDictOf (intKind PR w) kv' ∧
    Al (fun kv r => kv.1 = r.1 ∧ RowAt (fun a o => R a o ∨ (a, o) ∈ out) kv.2 r.2) kv' tb' ∧ GoodT tb' ∧ tb'.length ≤ n + i
section
variable {prog : Program} {w : World} {A : Around} {E : Value → Shared → Prop} {s : Shared} {d : Addr} {kvs : List (Int × Value)}
theorem getm_pop {pl : Sem Bool} {Q : Value × List Value → Shared → Prop} (hd : s.heap.DictOf (intKind prog w) d kvs) (h : Q (.builtin "dict.pop", [.ref d]) s) : wpAny (model prog w) A (getMethod (.ref d) "pop" pl) Q E s := getMethod_builtin hd.typeIs PySem.F.plainAttrs_dict PySem.F.slot_dict_pop PySem.F.type_dict_pop hd.mapOf.noDict h
end
local macro_rules | `(tactic| walk_at "getMethod ref") => `(tactic| ((with_reducible show wpAny _ _ (getMethod (Value.ref _) (PySem.Str.ofString "pop") _) _ _ _); k_dflt (refine' getm_pop (by walk_at "m dict") ?_; k_whole)))
local macro_rules | `(tactic| walk_at "m some") => `(tactic| first | assumption | (simp_all; done))
local macro_rules | `(tactic| walk_at "call builtin:dict.pop") => `(tactic| ((with_reducible show wpAny _ _ (call (Value.builtin "dict.pop") [Value.ref _, Value.int _ _]) _ _ _); k_dflt (refine' pop_dict ‹_› ‹_› (by k_updF) ‹_› ‹_› (by walk_at "m some") (by first | assumption | omega) ?_); (intro v' h' o' F' N' d'; (try dsimp only at N'))))
local macro_rules | `(tactic| walk_at "subscriptTail") => `(tactic| ((with_reducible show wpAny _ _ (subscriptTail _ _ (Value.ref _) (Value.int _ _)) _ _ _); k_dflt (first | (refine' item_row (by walk_at "m dict") ‹_› (by walk_at "m some") ?_; k_whole; intro a' r' t0' t1' t2' hr' hR') | (refine' item_tupR ‹_› ‹_› ‹_› (by intro p hp; simp [hp]) (by decide) (by decide) (by rfl) ?_; k_whole))))
local macro_rules | `(tactic| walk_at "call builtin:max") => `(tactic| ((with_reducible show wpAny _ _ (call (Value.builtin "max") [Value.ref _]) _ _ _); k_dflt (refine' kso_max ‹_› ‹_› (by walk_at "m islist") ‹_› ‹_› (by exact rfl) ?_); (intro h' M' t' tk' F' N' hm' hx')))
theorem turned_call {w : World} {fr : Option (List Env)} {gd : Option (List Code)} {dp un : Nat} {s : Shared} {base h₀ : Heap} {outer : List Env} {L : Addr} {m mg mb : Str → Option Value} {mean : ExcName → Option Value} {env : Env} {news : List (Addr × Obj)} {g1 : Obj → List (Addr × Obj)} {g2 : Obj → Obj → List (Addr × Obj)}
  {P C T : Addr} {R : Has} {x : Pen} {kvs : List (Int × Value)} {tbl : List (Int × T3)} {Q : Value → Shared → Prop} {E : Value → Shared → Prop}
  (B : Below { handled := none, depth := dp, frames := fr, guards := gd, units := un } base outer h₀) (F : Fr h₀ L s.heap m) (X₀ : (hd.heap_39 w.params).In h₀) (TT : Top VW LO mean mg mb h₀)
  (N : News h₀ L s.heap news) (U1 : UpdF P (x.p C) news g1) (U2 : ∀ o, UpdF C x.c (g1 o) (g2 o)) (hPC : P ≠ C)
  (hf : env.frame = some L) (hke : env.scope.kind = .function) (hdp : dp ≤ 780) (hun : un ≤ 7800)
  (hT : s.heap.DictOf (intKind PR w) T kvs) (hTP : T ≠ P) (hTC : T ≠ C) (lo : (T == sysModules) = false) (hR : ∀ a o, R a o → s.heap.get? a = some o ∧ a ≠ P ∧ a ≠ C) (hrows : Al (fun kv r => kv.1 = r.1 ∧ RowAt R kv.2 r.2) kvs tbl) (hlen : tbl.length ≤ 50) (hnd : (kvs.map (·.1)).Nodup) (hgood : GoodT tbl)
  (hQ : ∀ d out h' tk (x' : Pen) tbl', Fr h₀ L h' m → News h₀ L h' (out ++ g2 (x'.p C) x'.c) → (∀ p ∈ out, ∀ b o, s.heap.get? b = some o → p.1 ≠ b) → DictAt' w (RowAt (fun a o => (a, o) ∈ out ∨ R a o)) (inL out) d tbl' → GoodT tbl' → tbl'.length ≤ tbl.length + 3 → Q (.ref d) { s with heap := h', toks := tk }) :
  wpAny (model PR w) (({ handled := none, depth := dp, frames := fr, guards := gd, units := un } : Around).deeper env) (call (.ref 137) [.ref P, .ref T]) Q E s := by
  have mP := N _ (updF_mem U1)
  have mC : (C, x.c) ∈ news := by
    rcases updF_cases U1 (updF_mem (U2 (x.p C))) with q | q
    · exact absurd (congrArg Prod.fst q).symm hPC
    · exact q.1
  have nC := N _ mC
  have N1 : News h₀ L s.heap [(P, x.p C), (C, x.c)] := by
    intro p hp
    simp only [List.mem_cons, List.not_mem_nil, or_false] at hp
    rcases hp with rfl | rfl
    · exact mP
    · exact nC
  refine' my_call (binds := [(Str.ofString "pen", .ref P), (Str.ofString "table", .ref T)]) B F X₀ N1 TT hf hke ?k6 ?k7 ?k8 ?k9 ?kB ?_ ?c2 ?c3 ?c4 ?c5
  walk_at "m call"
  intro g L' h₁ Qb hG hGs hsz F' N' hlt B' X' T' hret hnext
  have hne : @Ne Nat P C := hPC
  have hTg : g.DictOf (intKind PR w) T kvs := by
    obtain ⟨o, es, ep, ho, r⟩ := hT
    exact ⟨o, es, ep, hG _ _ ho (by simp [hTP, hTC]), r⟩
  have hRg : ∀ a o, R a o → g.get? a = some o := fun a o e => hG _ _ (hR a o e).1 (by simp [(hR a o e).2.1, (hR a o e).2.2])
  have hrg : Al (fun kv r => kv.1 = r.1 ∧ RowAt (inH g) kv.2 r.2) kvs tbl := hrows.mono fun kv r z => ⟨z.1, z.2.le fun a o e => hRg a o e⟩
  have hkl : kvs.length = tbl.length := hrg.length
  have hkl2 : kvs.length ≤ 1000 := by omega
  have hkl3 : (kvs.map (·.1)).length < 64 := by rw [List.length_map]; omega
  have hPL : @LT.lt Nat _ P L' := hlt (P, _) (.head _)
  have hCL : @LT.lt Nat _ C L' := hlt (C, _) (.tail _ (.head _))
  have hgP : g.get? P = none := (N' _ (.head _)).2.2
  have hgC : g.get? C = none := (N' _ (.tail _ (.head _))).2.2
  obtain ⟨hlenS⟩ : Nonempty (∀ ns : List Int, ns.Perm (kvs.map (·.1)) → ns.length ≤ 50) := ⟨fun ns hp => by rw [hp.length_eq, List.length_map]; omega⟩
  have hbS : ∀ ns : List Int, ns.Perm (kvs.map (·.1)) → ∀ k ∈ ns, 0 ≤ k ∧ k < 1000 := fun ns hp k hk => by
    have := hp.mem_iff.mp hk
    rw [al_keys hrg] at this
    obtain ⟨q, hq, rfl⟩ := List.mem_map.mp this
    exact (hgood q hq).1
  repeat' ((fail_if_success (walk_at "m or")); (first | walk1 | (dsimp only; walk1)))
  rename_i d0 o0 h0 F0 N0 lo0 hd0 hk0 l0
  obtain ⟨Mid, hMid⟩ : ∃ M : Value → Shared → Prop, M = (fun v s' => ∃ (l : Addr) (c : Nat) (vsN : List Value) (nsN : List Int) (h' : Heap) (tk : Nat), v = .ref l ∧ s' = { s with heap := h', toks := tk } ∧ Fr g L' h' (fun y => List.lookup y [(Str.ofString "pen", Value.ref P), (Str.ofString "table", Value.ref T)].reverse) ∧ News g L' h' [(l, listOf vsN.toArray c), (d0, o0), (P, x.p C), (C, x.c)] ∧ IntsAre vsN nsN ∧ 0 < nsN.length ∧ nsN.length ≤ 50 ∧ (∀ k ∈ nsN, 0 ≤ k ∧ k < 1000) ∧ @LT.lt Nat _ d0 l ∧ @LT.lt Nat _ P l ∧ @LT.lt Nat _ C l) := ⟨_, rfl⟩
  refine wpAny_mono (Q := Mid) ?nums ?rest (fun _ _ x => x)
  case nums =>
    clear hQ hret hnext N N1 F hrows
    walk_at "m walk"
    have hns := hlenS _ (by assumption)
    walk_at "m walk"
    · rename_i D1 c1 h1 tk1 vs1 F1 N1 hi1 q1 l1 D2 c2 h2 vs2 ns2 F2 N2 hi2 hp2 ho2 q2 l2 hpos
      rw [hMid]
      exact ⟨D2, c2, vs2, ns2, _, _, rfl, rfl, F2, news_sub N2 (by walk_at "m subl"), hi2, hpos, hns, hbS ns2 hp2, l2.2.1, l2.2.2.1, l2.2.2.2.1⟩
    · rename_i l3 h3 F3 N3 q3 lt3
      rw [hMid]
      exact ⟨l3, 0, [.int 0 _], [0], _, _, rfl, rfl, F3, news_drop2 N3, .cons _ _ .nil, by decide, by decide, by decide, lt3.2.2.1, lt3.2.2.2.1, lt3.2.2.2.2.1⟩
  case rest =>
    intro v s' hm
    rw [hMid] at hm
    obtain ⟨lN, cN, vsN, nsN, h1, tk1, rfl, rfl, F1, N2, hiN, hpN, hlN, hbN, o1, o2, o3⟩ := hm
    clear hMid F0 N0 F' N'
    (try dsimp only)
    walk_at "m walk"
    rename_i lM h9 F9 N9 hk9 l9 h10 tk10 r10 t10 x10 hr10 F10 N10 h11 tk11 t11 u11 v11 hrange F11 N11 K11
    clear F9 N9 hk9 l9 F10 N10
    have hr0 : 0 ≤ r10 ∧ r10 ≤ 3 := by
      simp only [List.mem_cons, List.not_mem_nil, or_false] at hr10
      omega
    have hPd : @LT.lt Nat _ P d0 := l0.1
    have hCd : @LT.lt Nat _ C d0 := l0.2.1
    refine my_range (n := r10.toNat) (m₀ := _) (news₀ := (P, x10.p C) :: (C, x10.c) :: (d0, o0) :: (lN, listOf vsN.toArray cN) :: []) (TurnedJ w R P C T d0 lN vsN cN tbl.length) rfl hrange ?hs ?hn F11 (news_sub N11 ?hN) ?hJ ?turn ?done
    case hs => exact PySem.small_one (by decide) (by decide) (by omega) (by omega)
    case hn => rw [PySem.rangeSize_one]; split <;> omega
    case hN =>
      intro p hp
      revert hp; revert p; walk_at "m subl"
    case hJ =>
      exact ⟨o0, kvs, x10, [], tbl, fun y _ _ _ _ _ => rfl, rfl, (fun _ h => nomatch h), hd0, hrows.mono fun kv r z => ⟨z.1, z.2.le fun a o e => .inl e⟩, hgood, Nat.le_refl _⟩
    case turn =>
      clear hQ hret hnext N N1 F F11 N11 K11 hrange X₀ TT B hrows hT hG hGs
      intro i t m₁ nw h tk I own hi hq91 hnI hown hq92 F1 N1
      obtain ⟨o', kv', x', out, tb', hmm, hnw, hoff, hd', al, hgood', htb'⟩ := hq91
      obtain ⟨oI, hoI⟩ := hq92
      rw [turned_form hmm] at F1
      generalize m₁ (Str.ofString "generation") = vg at F1
      generalize m₁ (Str.ofString "goal") = vgo at F1
      generalize m₁ (Str.ofString "way") = vw at F1
      generalize m₁ (Str.ofString "number") = vn at F1
      generalize m₁ (Str.ofString "turn") = vt at F1
      unfold turnedBase at F1
      subst hnw
      obtain ⟨rest, hrest⟩ : ∃ r, r = own ++ out := ⟨_, rfl⟩
      change Fr g L' h _ at F1
      change News g L' h _ at N1
      have N2 : News g L' h ((P, x'.p C) :: (C, x'.c) :: (d0, o') :: (lN, listOf vsN.toArray cN) :: rest) := news_sub N1 (by rw [hrest]; walk_at "m subl")
      have hrd : ∀ b, I ≠ b → (∀ p ∈ out, p.1 ≠ b) → ∀ p ∈ rest, p.1 ≠ b := by
        intro b hb ho p hp
        rcases List.mem_append.mp (hrest ▸ hp) with hp | hp
        · rw [hown p hp]; exact hb
        · exact ho p hp
      have qP := hrd P (Ne.symm (hnI (P, x'.p C) (.head _))) fun p hp => (hoff p hp).2.1
      have qC := hrd C (Ne.symm (hnI (C, x'.c) (.tail _ (.head _)))) fun p hp => (hoff p hp).2.2.1
      have qd := hrd d0 (Ne.symm (hnI (d0, o') (.tail _ (.tail _ (.head _))))) fun p hp => (hoff p hp).1
      have qN := hrd lN (Ne.symm (hnI (lN, _) (.tail _ (.tail _ (.tail _ (.head _)))))) fun p hp => (hoff p hp).2.2.2
      have al2 : Al (fun kv r => kv.1 = r.1 ∧ RowAt (fun a o => g.get? a = some o ∨ (a, o) ∈ rest) kv.2 r.2) kv' tb' := al.mono fun kv r z => ⟨z.1, z.2.le fun a o e => e.imp (hRg a o) fun e => hrest ▸ List.mem_append_right _ e⟩
      have hkv' : kv'.length ≤ 1000 := by rw [al.length]; omega
      have hlN2 : nsN.length ≤ 1000 := by omega
      have qI : I ≠ P ∧ I ≠ C ∧ I ≠ d0 ∧ I ≠ lN := ⟨Ne.symm (hnI (P, x'.p C) (.head _)), Ne.symm (hnI (C, x'.c) (.tail _ (.head _))), Ne.symm (hnI (d0, o') (.tail _ (.tail _ (.head _)))), Ne.symm (hnI (lN, _) (.tail _ (.tail _ (.tail _ (.head _)))))⟩
      have hIr : (I, oI) ∈ rest := hrest ▸ List.mem_append_left _ hoI
      have hout : ∀ p ∈ out, p ∈ rest ∧ p.1 ≠ I := fun p hp => ⟨hrest ▸ List.mem_append_right _ hp, hnI p (.tail _ (.tail _ (.tail _ (.tail _ hp))))⟩
      have hownr : ∀ p ∈ own, p ∈ rest := fun p hp => hrest ▸ List.mem_append_left _ hp
      have finT : ∀ (Qn : Flow → Shared → Prop) (m' : Str → Option Value) (h' : Heap) (tk' : Nat) (x'' : Pen) (o'' : Obj) (kv'' : List (Int × Value)) (tb'' : List (Int × T3)) (new nw3 : List (Addr × Obj)), Fr g L' h' m' → News g L' h' nw3 → (∀ y, y ≠ Str.ofString "generation" → y ≠ Str.ofString "goal" → y ≠ Str.ofString "way" → y ≠ Str.ofString "number" → y ≠ Str.ofString "turn" → m' y = turnedBase P T d0 lN y) → (P, x''.p C) ∈ nw3 → (C, x''.c) ∈ nw3 → (d0, o'') ∈ nw3 → (lN, listOf vsN.toArray cN) ∈ nw3 → (∀ p ∈ rest, p ∈ nw3) → (∀ p ∈ new, p ∈ nw3 ∧ p.1 ≠ I ∧ p.1 ≠ d0 ∧ p.1 ≠ P ∧ p.1 ≠ C ∧ p.1 ≠ lN) → o''.IsDictOf (intKind PR w) kv'' → Al (fun kv r => kv.1 = r.1 ∧ RowAt (fun a o => R a o ∨ (a, o) ∈ new ++ out) kv.2 r.2) kv'' tb'' → GoodT tb'' → tb''.length ≤ tbl.length + (i + 1) →
          TurnEnd g L' (TurnedJ w R P C T d0 lN vsN cN tbl.length (i + 1)) I own { heap := h11, gens := s.gens, drawn := s.drawn, toks := tk11, os := s.os } Qn .next { heap := h', gens := s.gens, drawn := s.drawn, toks := tk', os := s.os } := by
        intro Qn m' h' tk' x'' o'' kv'' tb'' new nw3 F3 N3 hm3 a1 a2 a3 a4 a5 a6 a7 a8 a9 a10
        refine TurnEnd.intro ((P, x''.p C) :: (C, x''.c) :: (d0, o'') :: (lN, listOf vsN.toArray cN) :: (new ++ out)) F3 (news_sub N3 fun p hp => ?_) (fun p hp => ?_) ⟨o'', kv'', x'', new ++ out, tb'', hm3, rfl, fun p hp => ?_, a7, a8, a9, a10⟩
        · revert hp; revert p; walk_at "m all"
          · intro p hp; exact a5 p (hownr p hp)
          · exact a1
          · exact a2
          · exact a3
          · exact a4
          · intro p hp; exact (a6 p hp).1
          · intro p hp; exact a5 p (hout p hp).1
        · revert hp; revert p; walk_at "m all"
          · exact Ne.symm qI.1
          · exact Ne.symm qI.2.1
          · exact Ne.symm qI.2.2.1
          · exact Ne.symm qI.2.2.2
          · intro p hp; exact (a6 p hp).2.1
          · intro p hp; exact (hout p hp).2
        · rcases List.mem_append.mp hp with hp | hp
          · exact (a6 p hp).2.2
          · exact hoff p hp
      have finS : ∀ (Qn : Flow → Shared → Prop) (m' : Str → Option Value) (h' : Heap) (tk' : Nat) (x'' : Pen) (o'' : Obj) (nw3 : List (Addr × Obj)) (D2 : Addr) (k a b r2 M : Int) (t0 t1 t2 : Tok), Fr g L' h' m' → News g L' h' nw3 → o''.IsDictOf (intKind PR w) (stored kv' k (.ref D2)) → (D2, tupOf [.str ("free" : Str) t0, .int a t1, .int b t2]) ∈ nw3 → k ∈ nsN → r2 ∈ nsN → M ∈ nsN → a ∈ [0, k, r2, M + 1, 0] → (∀ y, y ≠ Str.ofString "generation" → y ≠ Str.ofString "goal" → y ≠ Str.ofString "way" → y ≠ Str.ofString "number" → y ≠ Str.ofString "turn" → m' y = turnedBase P T d0 lN y) → (P, x''.p C) ∈ nw3 → (C, x''.c) ∈ nw3 → (d0, o'') ∈ nw3 → (lN, listOf vsN.toArray cN) ∈ nw3 → (∀ p ∈ rest, p ∈ nw3) → (∀ p ∈ rest, p.1 < D2) → (@LT.lt Nat _ P D2 ∧ @LT.lt Nat _ C D2 ∧ @LT.lt Nat _ d0 D2 ∧ @LT.lt Nat _ lN D2) →
          TurnEnd g L' (TurnedJ w R P C T d0 lN vsN cN tbl.length (i + 1)) I own { heap := h11, gens := s.gens, drawn := s.drawn, toks := tk11, os := s.os } Qn .next { heap := h', gens := s.gens, drawn := s.drawn, toks := tk', os := s.os } := by
        intro Qn m' h' tk' x'' o'' nw3 D2 k a b r2 M t0 t1 t2 F3 N3 hd3 htp hk hr2 hM ha hm3 a1 a2 a3 a4 a5 l1 l2
        have hI2 : @LT.lt Nat _ I D2 := l1 _ hIr
        have bk := hbN k hk
        have br := hbN r2 hr2
        have bM := hbN M hM
        have ba : 0 ≤ a ∧ a < 2000 := by
          simp only [List.mem_cons, List.not_mem_nil, or_false] at ha
          omega
        refine finT Qn m' h' tk' x'' o'' _ (gPut tb' k (("free" : Str), a, b)) [(D2, tupOf [.str ("free" : Str) t0, .int a t1, .int b t2])] nw3 F3 N3 hm3 a1 a2 a3 a4 a5 ?_ hd3 ?_ (hgood'.put bk ba) ?_
        · intro p hp
          rw [List.mem_singleton.mp hp]
          exact ⟨htp, Ne.symm (Nat.ne_of_lt hI2), Ne.symm (Nat.ne_of_lt l2.2.2.1), Ne.symm (Nat.ne_of_lt l2.1), Ne.symm (Nat.ne_of_lt l2.2.1), Ne.symm (Nat.ne_of_lt l2.2.2.2)⟩
        · exact al_put (V := fun v r => RowAt (fun a' o => R a' o ∨ (a', o) ∈ [(D2, tupOf [.str ("free" : Str) t0, .int a t1, .int b t2])] ++ out) v r) (al.mono fun kv r z => ⟨z.1, z.2.le fun a o e => e.imp id fun e => List.mem_append_right _ e⟩) _ ⟨D2, t0, t1, t2, rfl, .inr (.head _)⟩
        · have := gPut_length tb' k (("free" : Str), a, b)
          omega
      clear N1 hnI
      walk_at "m walk"
      all_goals first
        | (refine' finT _ _ _ _ _ _ _ (gDel tb' _) [] _ ?zF ?zN ?zm ?z1 ?z2 ?z3 ?z4 ?z5 ?z6 ?z7 ?z8 ?z9 ?z10; (case zF => assumption); (case zN => assumption); (case z7 => assumption)
           (case zm => intro y e1 e2 e3 e4 e5; simp only [if_neg e1, if_neg e2, if_neg e3, if_neg e4, if_neg e5]; rfl)
           (case z1 => k_mem); (case z2 => k_mem); (case z3 => k_mem); (case z4 => k_mem); (case z5 => intro p hp; simp [hp]); (case z6 => exact fun _ h => nomatch h)
           (case z8 => exact al_del al _); (case z9 => exact hgood'.del _); (case z10 => exact Nat.le_trans (List.length_filter_le _ _) (by omega)))
        | (refine' finT _ _ _ _ _ _ _ tb' [] _ ?zF ?zN ?zm ?z1 ?z2 ?z3 ?z4 ?z5 ?z6 ?z7 ?z8 ?z9 ?z10; (case zF => assumption); (case zN => assumption); (case z7 => exact hd')
           (case zm => intro y e1 e2 e3 e4 e5; simp only [if_neg e1, if_neg e2, if_neg e3, if_neg e4, if_neg e5]; rfl)
           (case z1 => k_mem); (case z2 => k_mem); (case z3 => k_mem); (case z4 => k_mem); (case z5 => intro p hp; simp [hp]); (case z6 => exact fun _ h => nomatch h)
           (case z8 => exact al); (case z9 => exact hgood'); (case z10 => omega))
        | (refine' finS _ _ _ _ _ _ _ _ _ _ _ _ _ _ _ _ ?zF ?zN ?z7 ?zt ?zk ?za ?zb ?zc ?zm ?z1 ?z2 ?z3 ?z4 ?z5 ?zl1 ?zl2; (case zF => assumption); (case zN => assumption); (case z7 => assumption); (case zt => k_mem)
           (case zc => assumption); (case zk => assumption); (case za => assumption); (case zb => assumption)
           (case zm => intro y e1 e2 e3 e4 e5; simp only [if_neg e1, if_neg e2, if_neg e3, if_neg e4, if_neg e5]; rfl)
           (case z1 => k_mem); (case z2 => k_mem); (case z3 => k_mem); (case z4 => k_mem); (case z5 => intro p hp; simp [hp])
           (case zl1 => rename ∀ (p : Addr × Obj), p ∈ (_ : List (Addr × Obj)) → p.1 < (_ : Addr) => hkD; exact fun p hp => hkD p (by simp [hp])); (case zl2 => refine ⟨?_, ?_, ?_, ?_⟩ <;> omega))
    case done =>
      rintro m₁ nw h tk ⟨o', kv', x', out, tb', hmm, hnw, hoff, hd', al, hgood', htb'⟩ F1 N1
      rw [turned_form hmm] at F1
      unfold turnedBase at F1
      subst hnw
      change Fr g L' h _ at F1
      change News g L' h _ at N1
      have fin : ∀ (h' : Heap) (tk' : Nat) (mm : Str → Option Value), Fr g L' h' mm → News g L' h' ((P, x'.p C) :: (C, x'.c) :: (d0, o') :: (lN, listOf vsN.toArray cN) :: out) → Qb (.ret (.ref d0)) { s with heap := h', toks := tk' } := by
        intro h' tk' mm F3 N3
        have hLm : L ∉ [P, C] := by
          intro q
          simp only [List.mem_cons, List.not_mem_nil, or_false] at q
          rcases q with q | q
          · exact mP.2.1 q.symm
          · exact nC.2.1 q.symm
        have hB0 : ∀ b ∈ [P, C], h₀.get? b = none := by
          intro b hb
          simp only [List.mem_cons, List.not_mem_nil, or_false] at hb
          rcases hb with rfl | rfl
          · exact mP.2.2
          · exact nC.2.2
        obtain ⟨FF, NN, KK, AA⟩ := my_back (md := [P, C]) F N (fun b o e hb => hG b o e (by simpa using hb)) F3 N3 hLm hB0
        have Z := pen_back (oP' := x'.p C) (oC' := x'.c) F N U1 U2 hPC (fun b o e n1 n2 => F3.keep b o (hG b o e (by simp [n1, n2]))) (N3 _ (.head _)).1 (N3 _ (.tail _ (.head _))).1
        refine hret _ _ (hQ d0 ((d0, o') :: out) h' tk' x' tb' FF (news_app (news_sub NN fun p hp => ?_) Z.2) (fun p hp b o e => ?_) ⟨o', kv', .head _, hd', lo0, ?_⟩ hgood' ?_)
        · rcases List.mem_cons.mp hp with rfl | hp
          · exact .tail _ (.tail _ (.head _))
          · exact .tail _ (.tail _ (.tail _ (.tail _ hp)))
        · have hp2 : p ∈ (P, x'.p C) :: (C, x'.c) :: (d0, o') :: (lN, listOf vsN.toArray cN) :: out := by
            rcases List.mem_cons.mp hp with rfl | hp
            · exact .tail _ (.tail _ (.head _))
            · exact .tail _ (.tail _ (.tail _ (.tail _ hp)))
          have hpn : p.1 ≠ P ∧ p.1 ≠ C := by
            rcases List.mem_cons.mp hp with rfl | hp
            · exact ⟨Ne.symm (Nat.ne_of_lt hPd), Ne.symm (Nat.ne_of_lt hCd)⟩
            · exact ⟨(hoff p hp).2.1, (hoff p hp).2.2.1⟩
          by_cases hb : b ∈ [P, C]
          · simp only [List.mem_cons, List.not_mem_nil, or_false] at hb
            rcases hb with rfl | rfl
            · exact hpn.1
            · exact hpn.2
          · exact AA p hp2 (by simp [hpn.1, hpn.2]) b o e hb
        · refine al.mono fun kv r z => ⟨z.1, ?_⟩
          refine z.2.le fun a o e => ?_
          rcases e with e | e
          · exact .inr e
          · exact .inl (.tail _ e)
        · omega
      dsimp only
      walk_at "m walk"
      dsimp only
      exact fin h tk _ F1 N1
end
section
open PySem PySem.W PySem.Calls PyProof.Rows
set_option maxRecDepth 100000
set_option maxHeartbeats 4000000
local macro_rules | `(tactic| kmk_nums) => `(tactic| first | exact kmk_from (by l_ints) (by first | omega | kmk_sign) | exact kmk_upto (by l_ints) (by first | omega | kmk_sign))
/-- a pick of five texts -/
theorem pick_str5 {w : World} {fr : Option (List Env)} {gd : Option (List Code)} {dp un : Nat} {s : Shared} {base h₀ : Heap} {outer : List Env} {L : Addr} {m mg mb : Str → Option Value} {mean : ExcName → Option Value} {env : Env} {news : List (Addr × Obj)} {g1 : Obj → List (Addr × Obj)} {g2 : Obj → Obj → List (Addr × Obj)}
  {P C S : Addr} {x : Pen} {a0 a1 a2 a3 a4 : Str} {t0 t1 t2 t3 t4 : Tok} {Q : Value → Shared → Prop} {E : Value → Shared → Prop}
  (B : Below { handled := none, depth := dp, frames := fr, guards := gd, units := un } base outer h₀) (F : Fr h₀ L s.heap m) (X₀ : (hd.heap_39 w.params).In h₀) (T : Top VW LO mean mg mb h₀)
  (N : News h₀ L s.heap news) (U1 : UpdF P (x.p C) news g1) (U2 : ∀ o, UpdF C x.c (g1 o) (g2 o)) (hPC : P ≠ C)
  (hf : env.frame = some L) (hke : env.scope.kind = .function) (hdp : dp ≤ 790) (hun : un ≤ 7900) (hS : s.heap.IsList S #[.str a0 t0, .str a1 t1, .str a2 t2, .str a3 t3, .str a4 t4]) (hSP : S ≠ P) (hSC : S ≠ C)
  (hQ : ∀ h' tk r t (x' : Pen), r ∈ [a0, a1, a2, a3, a4] → Fr h₀ L h' m → News h₀ L h' (g2 (x'.p C) x'.c) → Q (.str r t) { s with heap := h', toks := tk }) :
  wpAny (model PR w) (({ handled := none, depth := dp, frames := fr, guards := gd, units := un } : Around).deeper env) (call (.ref 125) [.ref P, .ref S]) Q E s := by
  refine pick_call B F X₀ T N U1 U2 hPC hf hke hdp hun hS hSP hSC (Nat.succ_pos _) (Nat.le_of_ble_eq_true rfl) fun h' tk v i x' hv F' N' => ?_
  match i, hv with
  | 0, hv => cases hv; exact hQ h' tk _ _ x' (by simp) F' N'
  | 1, hv => cases hv; exact hQ h' tk _ _ x' (by simp) F' N'
  | 2, hv => cases hv; exact hQ h' tk _ _ x' (by simp) F' N'
  | 3, hv => cases hv; exact hQ h' tk _ _ x' (by simp) F' N'
  | 4, hv => cases hv; exact hQ h' tk _ _ x' (by simp) F' N'
  | n + 5, hv => simp at hv
local macro_rules | `(tactic| walk_at "call ref") => `(tactic| ((with_reducible show wpAny _ _ (call (Value.ref 125) _) _ _ _); k_dflt (refine' pick_str5 ‹_› ‹_› ‹_› ‹_› ‹_› (by k_updF) (by intro _; k_updF) (by k_ne) (by exact rfl) (by exact rfl) (by walk_at "m d") (by walk_at "m d") (by walk_at "m islist") (by k_ne) (by k_ne) ?_); (intro h' tk' r' t' x' hr' F' N'); (try dsimp only at N')))
theorem world_form {m b : Str → Option Value} {nL rD : Addr} (h : ∀ y, y ≠ Str.ofString "number" → y ≠ Str.ofString "way" → m y = if y = Str.ofString "numbers" then some (.ref nL) else if y = Str.ofString "rows" then some (.ref rD) else b y) :
    m = fun y => if y = Str.ofString "way" then m (Str.ofString "way") else if y = Str.ofString "number" then m (Str.ofString "number") else if y = Str.ofString "numbers" then some (.ref nL) else if y = Str.ofString "rows" then some (.ref rD) else b y := by
  funext y
  by_cases e1 : y = Str.ofString "way"
  · rw [if_pos e1, e1]
  by_cases e2 : y = Str.ofString "number"
  · rw [if_neg e1, if_pos e2, e2]
  rw [if_neg e1, if_neg e2]
  exact h y e2 e1
/-- what holds of the numbers and the rows after i turns -/
noncomputable def WorldG (i : Nat) (nums : List Int) (rt : List (Int × T3)) : Prop :=
  nums.Nodup ∧ (∀ k ∈ nums, 0 < k ∧ k < 1 + (i : Int)) ∧ (∀ p ∈ rt, (0 < p.1 ∧ p.1 < 1 + (i : Int)) ∧ p.1 ∉ nums ∧ p.2.1 ≠ ("free" : Str)) ∧ GoodT rt ∧ nums.length ≤ i ∧ rt.length ≤ i
noncomputable def WorldJ (w : World) (P C c0 rD : Addr) (oc : Obj) (base : Str → Option Value) (i : Nat) (m : Str → Option Value) (nw : List (Addr × Obj)) : Prop :=
  ∃ (nL : Addr) (vs : List Value) (c : Nat) (nums : List Int) (oR : Obj) (kv : List (Int × Value)) (rt : List (Int × T3)) (x' : Pen) (out : List (Addr × Obj)),
    (∀ y, y ≠ Str.ofString "number" → y ≠ Str.ofString "way" → m y = if y = Str.ofString "numbers" then some (.ref nL) else if y = Str.ofString "rows" then some (.ref rD) else base y) ∧
    nw = (P, x'.p C) :: (C, x'.c) :: (c0, oc) :: (rD, oR) :: (nL, listOf vs.toArray c) :: out ∧ (∀ p ∈ (nL, listOf vs.toArray c) :: out, p.1 ≠ P ∧ p.1 ≠ C ∧ p.1 ≠ c0 ∧ p.1 ≠ rD) ∧ IntsAre vs nums ∧ oR.IsDictOf (intKind PR w) kv ∧
    Al (fun kv r => kv.1 = r.1 ∧ RowAt (inL out) kv.2 r.2) kv rt ∧ WorldG i nums rt
theorem WorldG.same {i : Nat} {nums : List Int} {rt : List (Int × T3)} (h : WorldG i nums rt) : WorldG (i + 1) nums rt := by
  obtain ⟨a, b, c, d, e, f⟩ := h
  refine ⟨a, fun k hk => ?_, fun p hp => ?_, d, by omega, by omega⟩
  · have := b k hk; omega
  · have := c p hp; exact ⟨by omega, this.2⟩
theorem WorldG.num {i : Nat} {nums : List Int} {rt : List (Int × T3)} {j : Nat} (h : WorldG i nums rt) : WorldG (i + 1) (nums.take j ++ [1 + (i : Int)] ++ nums.drop j) rt := by
  obtain ⟨a, b, c, d, e, f⟩ := h
  have hp : (nums.take j ++ [1 + (i : Int)] ++ nums.drop j).Perm ((1 + (i : Int)) :: nums) := by
    have h1 : (nums.take j ++ [1 + (i : Int)] ++ nums.drop j).Perm ((1 + (i : Int)) :: (nums.take j ++ nums.drop j)) := by
      rw [List.append_assoc]
      exact List.perm_middle
    rwa [List.take_append_drop] at h1
  have hm : ∀ k, k ∈ nums.take j ++ [1 + (i : Int)] ++ nums.drop j ↔ k = 1 + (i : Int) ∨ k ∈ nums := fun k => by rw [hp.mem_iff, List.mem_cons]
  refine ⟨hp.nodup_iff.mpr (List.nodup_cons.mpr ⟨fun q => ?_, a⟩), fun k hk => ?_, fun p hp => ?_, d, ?_, by omega⟩
  · have := b _ q; omega
  · rcases (hm k).mp hk with q | q
    · omega
    · have := b k q; omega
  · have z := c p hp
    refine ⟨by omega, fun q => ?_, z.2.2⟩
    rcases (hm _).mp q with q | q
    · omega
    · exact z.2.1 q
  · rw [hp.length_eq, List.length_cons]; omega
theorem WorldG.row {i : Nat} {nums : List Int} {rt : List (Int × T3)} {way : Str} {a b : Int} (h : WorldG i nums rt) (hw : way ≠ ("free" : Str)) (ha : 0 ≤ a ∧ a < 999) (hi : i < 900) : WorldG (i + 1) nums (gPut rt (1 + (i : Int)) (way, a, b)) := by
  obtain ⟨a1, b1, c1, d1, e1, f1⟩ := h
  have hany : rt.any (fun p => decide (p.1 = 1 + (i : Int))) = false := by
    rw [List.any_eq_false]
    intro p hp
    have := c1 p hp
    simp; omega
  have e : gPut rt (1 + (i : Int)) (way, a, b) = rt ++ [(1 + (i : Int), (way, a, b))] := by
    unfold gPut; rw [hany]; rfl
  refine ⟨a1, fun k hk => ?_, fun p hp => ?_, d1.put ⟨by omega, by omega⟩ ⟨ha.1, Int.lt_trans ha.2 (by decide)⟩, by omega, ?_⟩
  · have := b1 k hk; omega
  · rw [e] at hp
    rcases List.mem_append.mp hp with hp | hp
    · have z := c1 p hp
      exact ⟨by omega, z.2⟩
    · rw [List.mem_singleton.mp hp]
      refine ⟨by dsimp only; omega, fun q => ?_, hw⟩
      have := b1 _ q
      dsimp only at this
      omega
  · rw [e, List.length_append, List.length_singleton]; omega
theorem sne_of {a b : Str} (h : (a == b) = false) : a ≠ b := by simpa using h
/-- a list of pairs of a number and an int, on the way to a dict -/
noncomputable def GensJ (w : World) (P C c0 rD nL : Addr) (oc oR oN : Obj) (nums : List Int) (out : List (Addr × Obj)) (i : Nat) (ys : List Value) (nw : List (Addr × Obj)) : Prop :=
  ∃ (out2 : List (Addr × Obj)) (prs : List (Int × Value)) (gt : List (Int × Int)) (x' : Pen), nw = (P, x'.p C) :: (C, x'.c) :: (c0, oc) :: (rD, oR) :: (nL, oN) :: (out2 ++ out) ∧ (∀ p ∈ out2, p.1 ≠ P ∧ p.1 ≠ C ∧ p.1 ≠ c0) ∧
    Al (fun v (p : Int × Value) => ∃ a key, v = .ref a ∧ (a, tupOf [key, p.2]) ∈ out2 ∧ (intKind PR w).is p.1 key = true) ys prs ∧ (prs.map (·.1)).Sublist (nums.take i) ∧ Al (fun p r => p.1 = r.1 ∧ IntAt p.2 r.2) prs gt
theorem sub_take_skip {l ns : List Int} {i : Nat} (h : l.Sublist (ns.take i)) : l.Sublist (ns.take (i + 1)) := h.trans (List.take_sublist_take_left (Nat.le_succ i))
theorem sub_take_add {l ns : List Int} {i : Nat} {k : Int} (h : l.Sublist (ns.take i)) (hk : ns[i]? = some k) : (l ++ [k]).Sublist (ns.take (i + 1)) := by
  rw [List.take_add_one, hk]
  exact h.append (List.Sublist.refl _)
theorem world_call {w : World} {fr : Option (List Env)} {gd : Option (List Code)} {dp un : Nat} {s : Shared} {base h₀ : Heap} {outer : List Env} {L : Addr} {m mg mb : Str → Option Value} {mean : ExcName → Option Value} {env : Env} {news : List (Addr × Obj)} {g1 : Obj → List (Addr × Obj)} {g2 : Obj → Obj → List (Addr × Obj)}
  {P C : Addr} {x : Pen} {Q : Value → Shared → Prop} {E : Value → Shared → Prop}
  (B : Below { handled := none, depth := dp, frames := fr, guards := gd, units := un } base outer h₀) (F : Fr h₀ L s.heap m) (X₀ : (hd.heap_39 w.params).In h₀) (TT : Top VW LO mean mg mb h₀)
  (N : News h₀ L s.heap news) (U1 : UpdF P (x.p C) news g1) (U2 : ∀ o, UpdF C x.c (g1 o) (g2 o)) (hPC : P ≠ C)
  (hf : env.frame = some L) (hke : env.scope.kind = .function) (hdp : dp ≤ 780) (hun : un ≤ 7800)
  (hQ : ∀ (tp nL gD rD : Addr) (vs : List Value) (c : Nat) (nums : List Int) (gt : List (Int × Int)) (rt : List (Int × T3)) out h' tk (x' : Pen), Fr h₀ L h' m → News h₀ L h' (out ++ g2 (x'.p C) x'.c) → (∀ p ∈ out, ∀ b o, s.heap.get? b = some o → p.1 ≠ b) →
    (tp, tupOf [.ref nL, .ref gD, .ref rD]) ∈ out → (nL, listOf vs.toArray c) ∈ out → IntsAre vs nums → DictAt' w IntAt (inL out) gD gt → DictAt' w (RowAt (inL out)) (inL out) rD rt →
    nums.Nodup → (∀ k ∈ nums, 0 < k ∧ k < 1000) → (∀ p ∈ rt, 0 < p.1 ∧ p.1 ∉ nums ∧ p.2.1 ≠ ("free" : Str)) → GoodT rt → nums.length ≤ 12 → rt.length ≤ 12 → gt.length ≤ 12 → Q (.ref tp) { s with heap := h', toks := tk }) :
  wpAny (model PR w) (({ handled := none, depth := dp, frames := fr, guards := gd, units := un } : Around).deeper env) (call (.ref 130) [.ref P]) Q E s := by
  have mP := N _ (updF_mem U1)
  have mC : (C, x.c) ∈ news := by
    rcases updF_cases U1 (updF_mem (U2 (x.p C))) with q | q
    · exact absurd (congrArg Prod.fst q).symm hPC
    · exact q.1
  have nC := N _ mC
  have N1 : News h₀ L s.heap [(P, x.p C), (C, x.c)] := by
    intro p hp
    simp only [List.mem_cons, List.not_mem_nil, or_false] at hp
    rcases hp with rfl | rfl
    · exact mP
    · exact nC
  refine' my_callC (binds := [(Str.ofString "pen", .ref P)]) B F X₀ N1 TT hf hke ?k6 ?k7 ?k8 ?k9 ?kB ?kD ?_ ?c2 ?c3 ?c4
  walk_at "m callC"
  intro g L' h₁ tk₁ cells Qb hG hGs hsz F' N' Y' hlt B' X' T' hret hnext
  k_cells Y'
  rename_i o' d1'
  have hne : @Ne Nat P C := hPC
  have hPL : @LT.lt Nat _ P L' := hlt (P, _) (.head _)
  have hCL : @LT.lt Nat _ C L' := hlt (C, _) (.tail _ (.head _))
  simp only [List.append_nil, List.cons_append, List.nil_append] at N'
  have d1 : o'.data = .cell (some (.ref P)) := d1'
  generalize bindL _ _ _ = base0 at F'
  clear d1'
  walk_at "m walk"
  rename_i nL0 _ _ _ rD _ oR loR hsR fsR hiR fiR _ l1 D' _ _ l2 _ _ _ _ _ h10 tk10 r10 tr10 x10 hr0 hr9 F10 N10 h11 tk11 t11 u11 v11 hrange F11 N11 K11
  clear F10 N10 N1 hsR fsR fiR
  have hcP : @LT.lt Nat _ P (L' + 1) := by omega
  have hcC : @LT.lt Nat _ C (L' + 1) := by omega
  refine my_range (n := (3 + r10).toNat) (m₀ := _) (news₀ := (P, x10.p C) :: (C, x10.c) :: (L' + 1, o') :: (rD, oR) :: (nL0, listOf ([] : List Value).toArray 0) :: []) (WorldJ w P C (L' + 1) rD o' base0) rfl hrange ?hs ?hn F11 (news_sub N11 ?hN) ?hJ ?turn ?done
  case hs => exact PySem.small_one (by decide) (by decide) (by omega) (by omega)
  case hn => rw [PySem.rangeSize_one]; split <;> omega
  case hN =>
    intro p hp
    revert hp; revert p; walk_at "m subl"
  case hJ =>
    refine ⟨nL0, [], 0, [], oR, [], [], x10, [], fun y _ _ => rfl, rfl, ?_, .nil, hiR, .nil, List.nodup_nil, (fun _ h => nomatch h), (fun _ h => nomatch h), (fun _ h => nomatch h), Nat.le_refl _, Nat.le_refl _⟩
    intro p hp
    rw [List.mem_singleton.mp hp]
    exact ⟨(by (try dsimp only); k_ne), (by (try dsimp only); k_ne), (by (try dsimp only); k_ne), (by (try dsimp only); k_ne)⟩
  case turn =>
    clear hQ hret hnext N F F11 N11 K11 hrange X₀ TT B hG hGs U1 U2 mP mC nC
    intro i t m₁ nw h tk I own hi hq91 hnI hown hq92 F1 N1
    obtain ⟨nL, vs, c, nums, oR, kv, rt, x', out, hmm, hnw, hoff, hiv, hdR, al, hG⟩ := hq91
    obtain ⟨oI, hoI⟩ := hq92
    rw [world_form hmm] at F1
    generalize m₁ (Str.ofString "way") = vw at F1
    generalize m₁ (Str.ofString "number") = vn at F1
    subst hnw
    obtain ⟨rest, hrest⟩ : ∃ r, r = own ++ out := ⟨_, rfl⟩
    change Fr g L' h _ at F1
    change News g L' h _ at N1
    have N2 : News g L' h ((P, x'.p C) :: (C, x'.c) :: (L' + 1, o') :: (rD, oR) :: (nL, listOf vs.toArray c) :: rest) := news_sub N1 (by rw [hrest]; walk_at "m subl")
    have qI : I ≠ P ∧ I ≠ C ∧ I ≠ L' + 1 ∧ I ≠ rD ∧ I ≠ nL := ⟨Ne.symm (hnI (P, x'.p C) (.head _)), Ne.symm (hnI (C, x'.c) (.tail _ (.head _))), Ne.symm (hnI (L' + 1, o') (.tail _ (.tail _ (.head _)))), Ne.symm (hnI (rD, _) (.tail _ (.tail _ (.tail _ (.head _))))), Ne.symm (hnI (nL, _) (.tail _ (.tail _ (.tail _ (.tail _ (.head _))))))⟩
    have hnLo := hoff _ (.head _)
    have hrd : ∀ b, I ≠ b → (∀ p ∈ out, p.1 ≠ b) → ∀ p ∈ rest, p.1 ≠ b := by
      intro b hb ho p hp
      rcases List.mem_append.mp (hrest ▸ hp) with hp | hp
      · rw [hown p hp]; exact hb
      · exact ho p hp
    have qP := hrd P qI.1 fun p hp => (hoff p (.tail _ hp)).1
    have qC := hrd C qI.2.1 fun p hp => (hoff p (.tail _ hp)).2.1
    have qc := hrd (L' + 1) qI.2.2.1 fun p hp => (hoff p (.tail _ hp)).2.2.1
    have qR := hrd rD qI.2.2.2.1 fun p hp => (hoff p (.tail _ hp)).2.2.2
    have eP : @Ne Nat nL P := hnLo.1
    have eC : @Ne Nat nL C := hnLo.2.1
    have ec : @Ne Nat nL (L' + 1) := hnLo.2.2.1
    have eR : @Ne Nat nL rD := hnLo.2.2.2
    have hIr : (I, oI) ∈ rest := hrest ▸ List.mem_append_left _ hoI
    have hkv : kv.length ≤ 1000 := by rw [al.length]; have := hG.2.2.2.2.2; omega
    have hnl : nums.length ≤ 1000 := by have := hG.2.2.2.2.1; omega
    have hnl2 : nums.length ≤ 12 := by have := hG.2.2.2.2.1; omega
    clear N1
    have finW : ∀ (Qn : Flow → Shared → Prop) (m' : Str → Option Value) (h' : Heap) (tk' : Nat) (x'' : Pen) (oR' : Obj) (kv' : List (Int × Value)) (rt' : List (Int × T3)) (nL' : Addr) (vs' : List Value) (c' : Nat) (nums' : List Int) (new nw3 : List (Addr × Obj)), Fr g L' h' m' → News g L' h' nw3 → (∀ y, y ≠ Str.ofString "number" → y ≠ Str.ofString "way" → m' y = if y = Str.ofString "numbers" then some (.ref nL') else if y = Str.ofString "rows" then some (.ref rD) else base0 y) → (P, x''.p C) ∈ nw3 → (C, x''.c) ∈ nw3 → (L' + 1, o') ∈ nw3 → (rD, oR') ∈ nw3 → (nL', listOf vs'.toArray c') ∈ nw3 → (∀ p ∈ rest, p ∈ nw3) → (∀ p ∈ new, p ∈ nw3 ∧ p.1 ≠ I ∧ p.1 ≠ P ∧ p.1 ≠ C ∧ p.1 ≠ L' + 1 ∧ p.1 ≠ rD) → (nL' ≠ I ∧ nL' ≠ P ∧ nL' ≠ C ∧ nL' ≠ L' + 1 ∧ nL' ≠ rD) → IntsAre vs' nums' → oR'.IsDictOf (intKind PR w) kv' → Al (fun kv r => kv.1 = r.1 ∧ RowAt (inL (new ++ out)) kv.2 r.2) kv' rt' → WorldG (i + 1) nums' rt' →
        TurnEnd g L' (WorldJ w P C (L' + 1) rD o' base0 (i + 1)) I own { heap := h11, gens := s.gens, drawn := s.drawn, toks := tk11, os := s.os } Qn .next { heap := h', gens := s.gens, drawn := s.drawn, toks := tk', os := s.os } := by
      intro Qn m' h' tk' x'' oR' kv' rt' nL' vs' c' nums' new nw3 F3 N3 hm3 a1 a2 a3 a4 a5 a6 a7 a8 a9 a10 a11 a12
      refine TurnEnd.intro ((P, x''.p C) :: (C, x''.c) :: (L' + 1, o') :: (rD, oR') :: (nL', listOf vs'.toArray c') :: (new ++ out)) F3 (news_sub N3 fun p hp => ?_) (fun p hp => ?_) ⟨nL', vs', c', nums', oR', kv', rt', x'', new ++ out, hm3, rfl, fun p hp => ?_, a9, a10, a11, a12⟩
      · revert hp; revert p; walk_at "m all"
        · intro p hp; exact a6 p (hrest ▸ List.mem_append_left _ hp)
        · exact a1
        · exact a2
        · exact a3
        · exact a4
        · exact a5
        · intro p hp; exact (a7 p hp).1
        · intro p hp; exact a6 p (hrest ▸ List.mem_append_right _ hp)
      · revert hp; revert p; walk_at "m all"
        · exact Ne.symm qI.1
        · exact Ne.symm qI.2.1
        · exact Ne.symm qI.2.2.1
        · exact Ne.symm qI.2.2.2.1
        · exact a8.1
        · intro p hp; exact (a7 p hp).2.1
        · intro p hp; exact hnI p (.tail _ (.tail _ (.tail _ (.tail _ (.tail _ hp)))))
      · rcases List.mem_cons.mp hp with hp | hp
        · rw [hp]; exact a8.2
        · rcases List.mem_append.mp hp with hp | hp
          · exact (a7 p hp).2.2
          · exact hoff p (.tail _ hp)
    have hi12 : i < 900 := by omega
    clear hnI
    walk_at "m walk"
    · rename_i hk9 l9 h9 F9 N9
      have hI9 : @LT.lt Nat _ I _ := hk9 (I, oI) (by simp [hIr])
      refine finW _ _ _ _ _ _ _ _ _ _ _ _ [] _ F9 N9 ?_ (by k_mem) (by k_mem) (by k_mem) (by k_mem) (.head _) (fun p hp => by simp [hp]) (fun _ h => nomatch h) ⟨(by k_ne), (by k_ne), (by k_ne), (by k_ne), (by k_ne)⟩ (by assumption) hdR al hG.num
      intro y e1 e2
      simp only [if_neg e1, if_neg e2]
      by_cases e3 : y = Str.ofString "numbers"
      · simp only [if_pos e3]
      · simp only [if_neg e1, if_neg e2, if_neg e3]
    · rename_i ra tra xa ha0 ha1 h2 tk2 rb trb xb hb0 hb1 D9 h3 F3 N3 hk9 l9 h9 oR9 F9 N9 d9
      have hI9 : @LT.lt Nat _ I _ := hk9 (I, oI) (by simp [hIr])
      have hT := N9 _ (.head _)
      refine finW _ _ _ _ _ _ _ (gPut rt (1 + (i : Int)) (_, ra, rb)) _ _ _ _ [(D9, tupOf [.str _ _, .int ra tra, .int rb trb])] _ F9 N9 ?_ (by k_mem) (by k_mem) (by k_mem) (by k_mem) (by k_mem) (fun p hp => by simp [hp]) (fun p hp => by rw [List.mem_singleton.mp hp]; exact ⟨.head _, (by (try dsimp only); k_ne), (by (try dsimp only); k_ne), (by (try dsimp only); k_ne), (by (try dsimp only); k_ne), (by (try dsimp only); k_ne)⟩) ⟨Ne.symm qI.2.2.2.2, hnLo⟩ hiv d9 (al_put (V := fun v r => RowAt (inL ([(D9, tupOf [.str _ _, .int ra tra, .int rb trb])] ++ out)) v r) (al.mono fun kv r z => ⟨z.1, z.2.le fun a o e => .tail _ e⟩) _ ⟨_, _, _, _, rfl, .head _⟩) (hG.row (sne_of (by assumption)) ⟨ha0, ha1⟩ hi12)
      intro y e1 e2
      simp only [if_neg e1, if_neg e2]
    · rename_i F9 N9 _ _ _ _
      refine finW _ _ _ _ _ _ _ _ _ _ _ _ [] _ F9 N9 ?_ (by k_mem) (by k_mem) (by k_mem) (by k_mem) (by k_mem) (fun p hp => by simp [hp]) (fun _ h => nomatch h) ⟨Ne.symm qI.2.2.2.2, hnLo⟩ hiv hdR al hG.same
      intro y e1 e2
      simp only [if_neg e1, if_neg e2]
  case done =>
    rintro m₁ nw h tk ⟨nL, vs, c, nums, oR, kv, rt, x', out, hmm, hnw, hoff, hiv, hdR, al, hG'⟩ F1 N1
    rw [world_form hmm] at F1
    subst hnw
    change Fr g L' h _ at F1
    change News g L' h _ at N1
    dsimp only
    have hnl : nums.length ≤ 12 := by have := hG'.2.2.2.2.1; omega
    have hrl : rt.length ≤ 12 := by have := hG'.2.2.2.2.2; omega
    have hvl : vs.length = nums.length := hiv.length
    have hnLo := hoff _ (.head _)
    have eP : @Ne Nat nL P := hnLo.1
    have eC : @Ne Nat nL C := hnLo.2.1
    have ec : @Ne Nat nL (L' + 1) := hnLo.2.2.1
    have eR : @Ne Nat nL rD := hnLo.2.2.2
    have fin : ∀ (h' : Heap) (tk' : Nat) (mm : Str → Option Value) (tp gD : Addr) (oG : Obj) (kvG : List (Int × Value)) (gt : List (Int × Int)) (x'' : Pen) (nw3 : List (Addr × Obj)), Fr g L' h' mm → News g L' h' nw3 → (P, x''.p C) ∈ nw3 → (C, x''.c) ∈ nw3 → (tp, tupOf [.ref nL, .ref gD, .ref rD]) ∈ nw3 → (gD, oG) ∈ nw3 → (rD, oR) ∈ nw3 → (nL, listOf vs.toArray c) ∈ nw3 → (∀ p ∈ out, p ∈ nw3) → (tp ≠ P ∧ tp ≠ C) → (gD ≠ P ∧ gD ≠ C) → (gD == sysModules) = false → oG.IsDictOf (intKind PR w) kvG → Al (fun kv r => kv.1 = r.1 ∧ IntAt kv.2 r.2) kvG gt → gt.length ≤ 12 → Qb (.ret (.ref tp)) { s with heap := h', toks := tk' } := by
      intro h' tk' mm tp gD oG kvG gt x'' nw3 F3 N3 a1 a2 a3 a4 a5 a6 a7 a8 a9 a10 a11 a12 a13
      have hLm : L ∉ [P, C] := by
        intro q
        simp only [List.mem_cons, List.not_mem_nil, or_false] at q
        rcases q with q | q
        · exact mP.2.1 q.symm
        · exact nC.2.1 q.symm
      have hB0 : ∀ b ∈ [P, C], h₀.get? b = none := by
        intro b hb
        simp only [List.mem_cons, List.not_mem_nil, or_false] at hb
        rcases hb with rfl | rfl
        · exact mP.2.2
        · exact nC.2.2
      obtain ⟨FF, NN, KK, AA⟩ := my_back (md := [P, C]) F N (fun b o e hb => hG b o e (by simpa using hb)) F3 N3 hLm hB0
      have Z := pen_back (oP' := x''.p C) (oC' := x''.c) F N U1 U2 hPC (fun b o e n1 n2 => F3.keep b o (hG b o e (by simp [n1, n2]))) (N3 _ a1).1 (N3 _ a2).1
      have hall : ∀ p ∈ (tp, tupOf [.ref nL, .ref gD, .ref rD]) :: (gD, oG) :: (rD, oR) :: (nL, listOf vs.toArray c) :: out, p ∈ nw3 ∧ p.1 ≠ P ∧ p.1 ≠ C := by
        intro p hp
        simp only [List.mem_cons] at hp
        rcases hp with rfl | rfl | rfl | rfl | hp
        · exact ⟨a3, a8⟩
        · exact ⟨a4, a9⟩
        · exact ⟨a5, (by (try dsimp only); k_ne), (by (try dsimp only); k_ne)⟩
        · exact ⟨a6, eP, eC⟩
        · exact ⟨a7 p hp, (hoff p (.tail _ hp)).1, (hoff p (.tail _ hp)).2.1⟩
      obtain ⟨q1, q2, q3, q4, q5, q6⟩ := hG'
      refine hret _ _ (hQ tp nL gD rD vs c nums gt rt ((tp, tupOf [.ref nL, .ref gD, .ref rD]) :: (gD, oG) :: (rD, oR) :: (nL, listOf vs.toArray c) :: out) h' tk' x'' FF (news_app (news_sub NN fun p hp => (hall p hp).1) Z.2) (fun p hp b o e => ?_) (.head _) (.tail _ (.tail _ (.tail _ (.head _)))) hiv ⟨oG, kvG, .tail _ (.head _), a11, a10, a12⟩ ⟨oR, kv, .tail _ (.tail _ (.head _)), hdR, loR, al.mono fun kv r z => ⟨z.1, z.2.le fun a o e => .tail _ (.tail _ (.tail _ (.tail _ e)))⟩⟩ q1 (fun k hk => by have := q2 k hk; omega) (fun p hp => ⟨(q3 p hp).1.1, (q3 p hp).2⟩) q4 hnl hrl a13)
      have hz := hall p hp
      by_cases hb : b ∈ [P, C]
      · simp only [List.mem_cons, List.not_mem_nil, or_false] at hb
        rcases hb with rfl | rfl
        · exact hz.2.1
        · exact hz.2.2
      · exact AA p hz.1 (by simp [hz.2.1, hz.2.2]) b o e hb
    walk_at "m walk"
    refine comp_eval (cl := [(Str.ofString "pen", L' + 1)]) (h₀ := g) (L := L') ?hc ?hk ?hn ?hce ?hx ?_
    case hc => rfl
    case hk => rfl
    case hn => decide
    case hce => decide
    case hx => rfl
    walk_at "m walk"
    refine compAt_list (its := vs.toArray) (GensJ w P C (L' + 1) rD nL o' oR (listOf vs.toArray c) nums out) rfl (News.isList N1 (.tail _ (.tail _ (.tail _ (.tail _ (.head _)))))) (N1 _ (.tail _ (.tail _ (.tail _ (.tail _ (.head _)))))).2.1 (by simp; omega) F1 N1 ?hJ ?turn ?done
    case hJ => exact ⟨[], [], [], x', rfl, (fun _ h => nomatch h), .nil, by rw [List.take_zero]; exact List.Sublist.slnil, .nil⟩
    case turn =>
      intro I hIT i v ys nw h2 tk2 own C' oC D ep mC' hi' hyl hP hJ hoC hv hown hn hfp hDC F2 N2
      clear hQ hret hnext hG hGs F X₀ TT N B F11 N11 F1 N1 fin
      obtain ⟨out2, prs, gt, x2, rfl, hoff2, a1, a2, a3⟩ := hJ
      obtain ⟨k, tk0, hk, rfl⟩ := ints_get hiv (by simpa using hP)
      have hCD : @LT.lt Nat _ D C' := hDC
      obtain ⟨rest, hrest⟩ : ∃ r, r = own ++ ((rD, oR) :: (nL, listOf vs.toArray c) :: (out2 ++ out)) := ⟨_, rfl⟩
      have N3 : News g L' h2 ((P, x2.p C) :: (C, x2.c) :: (C', oC) :: (D, listOf ys.toArray ep) :: (L' + 1, o') :: rest) := news_sub N2 (by rw [hrest]; walk_at "m subl")
      have b1 := hn (P, _) (.head _)
      have b2 := hn (C, _) (.tail _ (.head _))
      have b3 := hn (L' + 1, _) (.tail _ (.tail _ (.head _)))
      have f1 : @Ne Nat P C' := b1.2.1
      have f2 : @Ne Nat P D := b1.2.2
      have f3 : @Ne Nat C C' := b2.2.1
      have f4 : @Ne Nat C D := b2.2.2
      have hIf := hfp I (.head _)
      have hI1 : @LT.lt Nat _ I D := hIf.1
      have hrd : ∀ b, I ≠ b → nL ≠ b → rD ≠ b → (∀ p ∈ out2, p.1 ≠ b) → (∀ p ∈ out, p.1 ≠ b) → ∀ p ∈ rest, p.1 ≠ b := by
        intro b h1 h2 h3 h4 h5 p hp
        rw [hrest] at hp
        revert hp; revert p; walk_at "m all"
        · intro p hp; rcases List.mem_cons.mp (hown p hp) with hq | hq
          · rw [hq]; exact h1
          · rw [List.mem_singleton.mp hq]; exact h2
        · exact h3
        · exact h2
        · intro p hp; exact h4 p hp
        · intro p hp; exact h5 p hp
      have qP := hrd P (Ne.symm b1.1) eP ((by k_ne)) (fun p hp => (hoff2 p hp).1) (fun p hp => (hoff p (.tail _ hp)).1)
      have qC := hrd C (Ne.symm b2.1) eC ((by k_ne)) (fun p hp => (hoff2 p hp).2.1) (fun p hp => (hoff p (.tail _ hp)).2.1)
      clear N2
      walk_at "m walk"
      · rename_i ra tra xa _ _ D9 h9 F9 N9 hk9 l9
        show CompEnd _ _ _ _ _ _ _ _ _ _ _ _
        have hID : @LT.lt Nat _ I D9 := by have := l9.2.2.2.1; omega
        refine CompEnd.intro ((P, xa.p C) :: (C, xa.c) :: (L' + 1, o') :: (rD, oR) :: (nL, listOf vs.toArray c) :: (((D9, tupOf [.int k tk0, .int ra tra]) :: out2) ++ out)) F9 (news_sub N9 fun p hp => ?_) (fun p hp => ?_) ⟨(D9, tupOf [.int k tk0, .int ra tra]) :: out2, prs ++ [(k, .int ra tra)], gt ++ [(k, ra)], xa, rfl, fun p hp => ?_, Al.snoc (a1.mono fun v p z => let ⟨a, key, e, hm, hk⟩ := z; ⟨a, key, e, .tail _ hm, hk⟩) ⟨D9, .int k tk0, rfl, .head _, intKind_is _ _ _ _⟩, ?_, a3.snoc ⟨rfl, tra, rfl⟩⟩
        · revert hp; revert p; rw [hrest]; walk_at "m subl"
        · revert hp; revert p; walk_at "m all"
          · exact b1
          · exact b2
          · exact b3
          · exact hn _ (.tail _ (.tail _ (.tail _ (.head _))))
          · exact hn _ (.tail _ (.tail _ (.tail _ (.tail _ (.head _)))))
          · exact ⟨(by (try dsimp only); k_ne), (by (try dsimp only); k_ne), (by (try dsimp only); k_ne)⟩
          · intro p hp; exact hn _ (.tail _ (.tail _ (.tail _ (.tail _ (.tail _ (List.mem_append_left _ hp))))))
          · intro p hp; exact hn _ (.tail _ (.tail _ (.tail _ (.tail _ (.tail _ (List.mem_append_right _ hp))))))
        · rcases List.mem_cons.mp hp with hp | hp
          · rw [hp]; exact ⟨(by (try dsimp only); k_ne), (by (try dsimp only); k_ne), (by (try dsimp only); k_ne)⟩
          · exact hoff2 p hp
        · rw [List.map_append]; exact sub_take_add a2 hk
      · rename_i xa _ _ F9 N9 _
        refine CompEnd.intro ((P, xa.p C) :: (C, xa.c) :: (L' + 1, o') :: (rD, oR) :: (nL, listOf vs.toArray c) :: (out2 ++ out)) F9 (news_sub N9 fun p hp => ?_) (fun p hp => ?_) ⟨out2, prs, gt, xa, rfl, hoff2, a1, sub_take_skip a2, a3⟩
        · revert hp; revert p; rw [hrest]; walk_at "m subl"
        · revert hp; revert p; walk_at "m all"
          · exact b1
          · exact b2
          · exact b3
          · exact hn _ (.tail _ (.tail _ (.tail _ (.head _))))
          · exact hn _ (.tail _ (.tail _ (.tail _ (.tail _ (.head _)))))
          · intro p hp; exact hn _ (.tail _ (.tail _ (.tail _ (.tail _ (.tail _ (List.mem_append_left _ hp))))))
          · intro p hp; exact hn _ (.tail _ (.tail _ (.tail _ (.tail _ (.tail _ (List.mem_append_right _ hp))))))
    case done =>
      intro D h2 tk2 ep ys nw hJ F2 N2 hne hyl
      obtain ⟨out2, prs, gt, x2, rfl, hoff2, a1, a2, a3⟩ := hJ
      have hpl : prs.length ≤ 12 := by
        have := a2.length_le
        rw [List.length_map, List.length_take] at this
        omega
      have hgl : gt.length ≤ 12 := by rw [← a3.length]; exact hpl
      have pm : PassMark := passMark
      walk_at "m walk"
      clear pm
      refine dict_pairs (pairs := prs) rfl F2 N2 T'.nolimit (N2.get (.head _)) ?_ ?_ ((a2.trans (List.take_sublist _ _)).nodup hG'.1) ?_
      · exact a1.mono fun v p ⟨a, key, e, hm, hk⟩ => ⟨a, key, e, N2.get (.tail _ (.tail _ (.tail _ (.tail _ (.tail _ (.tail _ (List.mem_append_left _ hm))))))), hk⟩
      · rw [List.size_toArray, a1.length]; omega
      intro gD oG h3 tk3 F3 N3 l3 loG hdG
      have g1 : @LT.lt Nat _ P gD := l3 (P, _) (.tail _ (.head _))
      have g2' : @LT.lt Nat _ C gD := l3 (C, _) (.tail _ (.tail _ (.head _)))
      walk_at "m walk"
      rename_i tp h4 F4 N4 hk4 l4
      dsimp only
      exact fin _ _ _ tp gD oG prs gt x2 _ F4 N4 (by k_mem) (by k_mem) (.head _) (by k_mem) (by k_mem) (by k_mem) (fun p hp => by simp [hp]) ⟨(by k_ne), (by k_ne)⟩ ⟨(by k_ne), (by k_ne)⟩ loG hdG a3 hgl
end
section
open PySem PySem.W PySem.Calls PyProof.Rows
set_option maxRecDepth 100000
set_option maxHeartbeats 400000
/-- a turn's end, the loop's own objects a list -/
noncomputable def TurnEndW (h₀ : Heap) (L : Addr) (Jn : (Str → Option Value) → List (Addr × Obj) → Prop) (wr : List Addr) (own : List (Addr × Obj)) (s : Shared) (Q : Flow → Shared → Prop) (f : Flow) (s' : Shared) : Prop :=
  match f with
  | .ret v => Q (.ret v) s'
  | .brk => Q .next s'
  | _ => ∃ h' tk m' news', s' = { s with heap := h', toks := tk } ∧ Fr h₀ L h' m' ∧ News h₀ L h' (own ++ news') ∧ (∀ p ∈ news', p.1 ∉ wr) ∧ Jn m' news'
theorem TurnEndW.intro {h₀ : Heap} {L : Addr} {Jn : (Str → Option Value) → List (Addr × Obj) → Prop} {wr : List Addr} {own : List (Addr × Obj)} {s : Shared} {Q : Flow → Shared → Prop} {h' : Heap} {tk : Nat} {m' : Str → Option Value} (news' : List (Addr × Obj))
    (F : Fr h₀ L h' m') (N : News h₀ L h' (own ++ news')) (hI : ∀ p ∈ news', p.1 ∉ wr) (hJ : Jn m' news') : TurnEndW h₀ L Jn wr own s Q .next { s with heap := h', toks := tk } := ⟨h', tk, m', news', rfl, F, N, hI, hJ⟩
section
variable {prog : Program} {w : World} {A : Around} {E : Value → Shared → Prop} {s : Shared} {env : Env} {h₀ : Heap} {body : List Stmt} {Q : Flow → Shared → Prop}
theorem my_enum {l : Addr} {vs : List Value} {c : Nat} {x1 x2 : Str} {p1 p2 pos : Pos} {k : Nat} {m₀ : Str → Option Value} {news₀ : List (Addr × Obj)} (J : Nat → (Str → Option Value) → List (Addr × Obj) → Prop)
    (hh : A.handled = none) (hm : (l, listOf vs.toArray c) ∈ news₀) (F : Fr h₀ env.locals s.heap m₀) (N : News h₀ env.locals s.heap news₀) (hk1 : env.kindOf x1 = some .local) (hk2 : env.kindOf x2 = some .local) (hp : (env.scope.kind == .class || (env.scope.kind == .module && env.locals != env.globals)) = false) (hJ : J 0 m₀ news₀)
    (turn : ∀ i v t m₁ news₁ h tk I own, vs[i]? = some v → J i m₁ news₁ → (∀ p ∈ news₁, p.1 ∉ [I + 1, I]) → (∀ p ∈ own, p.1 = I + 1 ∨ p.1 = I ∨ p.1 = l) → @LT.lt Nat _ l I → (∃ oI, (I, oI) ∈ own) → (∃ oI, (I + 1, oI) ∈ own) →
      Fr h₀ env.locals h (fun y => if y = x2 then some v else if y = x1 then some (.int (i : Nat) t) else m₁ y) → News h₀ env.locals h (own ++ news₁) →
      wpAny (model prog w) A (execs body env) (TurnEndW h₀ env.locals (J (i + 1)) [I + 1, I] own s Q) E { s with heap := h, toks := tk })
    (done : ∀ m₁ news₁ h tk, J vs.length m₁ news₁ → Fr h₀ env.locals h m₁ → News h₀ env.locals h news₁ → Q .next { s with heap := h, toks := tk }) :
    wpAny (model prog w) A (call (.type "enumerate") [.ref l]) (fun xv s₁ => wpAny (model prog w) A (pyIter xv) (fun it s₂ => TurnsAt prog w A h₀ env (.Tuple [.Name x1 p1, .Name x2 p2] k pos) body Q E it s₂) E s₁) E s := by
  have hax := N _ hm
  have hl : s.heap.IsList l vs.toArray := ⟨_, hax.1, rfl, c, rfl⟩
  have hlt : l < s.heap.objs.size := Heap.lt_size hax.1
  have hLs : env.locals < s.heap.objs.size := F.ns.lt
  refine call_enumerate_list hl fun h' hE hI hsz hk => ?_
  refine wpAny_pyIter_enum hE ?_
  generalize hz : s.heap.objs.size = I at *
  have W := KTurns.ofWalksU (elts := [.Name x1 p1, .Name x2 p2]) (k := k) (pos := pos) (WalksT.enumerate (prog := prog) (w := w) hh (I + 1) I l (Nat.succ_ne_self _) (ktu_ne 1 hlt) (Nat.ne_of_lt hlt) vs.toArray).toU
  refine ⟨I + 1, [I + 1, I, l], [I + 1, I], vs.toArray.size, _, _, _, m₀, news₀, fun i m nw => J i m nw, rfl, W, ?_, ?_, ?_, ⟨⟨_, hE⟩, hI, hl.at fun o e => hk _ _ e⟩, F.keeps hk, N.grown hk, hJ, ?_, ?_⟩
  · intro hm'
    have hb' : env.locals = I + 1 ∨ env.locals = I ∨ env.locals = l := by simpa using hm'
    rcases hb' with e | e | e
    · exact ktu_ne 1 hLs e
    · exact Nat.ne_of_lt hLs e
    · exact hax.2.1 e.symm
  · intro b hb
    have hb' : b = I + 1 ∨ b = I := by simpa using hb
    rcases hb' with rfl | rfl
    · exact ktu_new F (by rw [hz]; exact Nat.le_add_right _ _)
    · exact ktu_new F (by rw [hz]; exact Nat.le_refl _)
  · intro p hp' hb
    have hb' : p.1 = I + 1 ∨ p.1 = I := by simpa using hb
    have hpl : p.1 < I := hz ▸ Heap.lt_size (N p hp').1
    rcases hb' with e | e
    · exact ktu_ne 1 hpl e
    · exact Nat.ne_of_lt hpl e
  · rintro i v m₁ news₁ h₁ tk₁ own hi ⟨T, vals, rfl, ⟨t, x, hx, rfl⟩, hT⟩ hJ' hoff hown hown2 hall hst F₁ N₁
    obtain ⟨⟨oe, he⟩, ⟨oi, hoi, hic⟩, _⟩ := hst
    have hI0 : h₀.get? I = none := ktu_new F (by rw [hz]; exact Nat.le_refl _)
    have hI1 : h₀.get? (I + 1) = none := ktu_new F (by rw [hz]; exact Nat.le_add_right _ _)
    have hx' : vs[i]? = some x := by simpa using hx
    refine assign_Tuple_tuple hh hT rfl rfl fun h₂ he2 => ?_
    have up2 : ∀ b o, h₁.get? b = some o → h₂.get? b = some o := fun b o e => he2 b o (Nat.ne_of_lt (Heap.lt_size e)) e
    have F₂ : Fr h₀ env.locals h₂ m₁ := F₁.keeps up2
    have N₂ : News h₀ env.locals h₂ (own ++ news₁) := N₁.grown up2
    have hL₀ : h₀.get? env.locals = none := Heap.get?_none_of_le F₁.above
    refine assignInOrder_cons (wpAny_assign_Name (wpAny_storeName_local hk1 F₂.ns (fun h₃ hn₃ hs₃ => ?_) hp))
    have F₃ : Fr h₀ env.locals h₃ (fun z => if z = x1 then some (.int (i : Nat) t) else m₁ z) := ⟨hn₃, fun b o e => hs₃.extBut b o (fun q => by rw [q, hL₀] at e; cases e) (F₂.keep b o e), F₂.above⟩
    have N₃ : News h₀ env.locals h₃ (own ++ news₁) := fun p hp' => ⟨hs₃.extBut _ _ (N₂ p hp').2.1 (N₂ p hp').1, (N₂ p hp').2⟩
    refine assignInOrder_cons (wpAny_assign_Name (wpAny_storeName_local hk2 hn₃ (fun h₄ hn₄ hs₄ => ?_) hp))
    have F₄ : Fr h₀ env.locals h₄ (fun z => if z = x2 then some x else if z = x1 then some (.int (i : Nat) t) else m₁ z) := ⟨hn₄, fun b o e => hs₄.extBut b o (fun q => by rw [q, hL₀] at e; cases e) (F₃.keep b o e), F₃.above⟩
    have N₄ : News h₀ env.locals h₄ (own ++ news₁) := fun p hp' => ⟨hs₄.extBut _ _ (N₃ p hp').2.1 (N₃ p hp').1, (N₃ p hp').2⟩
    refine assignInOrder_nil ?_
    refine wpAny_mono (turn i x t m₁ news₁ h₄ _ I own hx' hJ' hoff (fun p hp' => by simpa using hown p hp') hlt ⟨_, hall I (by simp) hI0 _ hoi⟩ ⟨_, hall (I + 1) (by simp) hI1 _ he⟩ F₄ N₄) (fun f s' z => ?_) fun _ _ e => e
    have fin : (∃ h' tk' m' news', s' = { s with heap := h', toks := tk' } ∧ Fr h₀ env.locals h' m' ∧ News h₀ env.locals h' (own ++ news') ∧ (∀ p ∈ news', p.1 ∉ [I + 1, I]) ∧ J (i + 1) m' news') → LoopStepU h₀ env.locals [I + 1, I] own (J (i + 1)) { s with heap := h₁, toks := tk₁ } .next s' := by
      rintro ⟨h', tk', m', news', e, F', N', hI', hJn⟩
      exact ⟨rfl, h', tk', m', news', e, F', N', hI', hJn⟩
    cases f with
    | ret v => exact .ret z
    | brk => exact .brk z
    | next => exact .next (fin z)
    | cont => exact .cont (fin z)
  · intro h' tk m' news' F' N' _ hJ'
    rw [List.size_toArray] at hJ'
    exact done m' news' h' tk hJ' F' N'
end
end
section
open PySem PySem.W PySem.Calls PyProof.Rows
set_option maxRecDepth 100000
set_option maxHeartbeats 400000
section
variable {prog : Program} {w : World} {A : Around} {E : Value → Shared → Prop} {s : Shared} {h₀ : Heap} {L : Addr} {m : Str → Option Value} {env : Env}
/-- what a list of faults gives, its numbers taken -/
noncomputable def FirstsAt (h₀ : Heap) (L : Addr) (m : Str → Option Value) (Q : Value → Shared → Prop) (xv : Value) (s₁ : Shared) : Prop :=
  ∃ (ax : Addr) (vs : List Value) (c : Nat) (news : List (Addr × Obj)) (ns : List Int) (out : List (Addr × Obj)), xv = .ref ax ∧ Fr h₀ L s₁.heap m ∧ News h₀ L s₁.heap news ∧ (ax, listOf vs.toArray c) ∈ news ∧ ns.length ≤ 1000 ∧ Al (FaultAt (inL out)) vs ns ∧ (∀ p ∈ out, p ∈ news) ∧
    ∀ D h tk us, Fr h₀ L h m → News h₀ L h ((D, listOf us.toArray us.length) :: news) → (∀ p ∈ news, p.1 ≠ D) → IntsAre us ns → Q (.ref D) { s₁ with heap := h, toks := tk }
theorem comp_firsts {iter : PySem.Expr} {x x₂ : Str} {px px₂ pn tp : Pos} {tk : Nat} {scope : Scope} {cl : List (Str × Addr)} {pos : Pos} {Q : Value → Shared → Prop} (hh : A.handled = none) (F₀ : Fr h₀ L s.heap m)
    (hclos : closureFor scope env = pure cl) (hcell : ∀ y ∈ scope.names, y.2 ≠ .cell) (hkind : scope.kind = .function)
    (hnames : ∀ y ∈ scope.names, y.2 = .local → scope.names.lookup y.1 = some .local) (hx : scope.names.lookup x = some .local) (hx₂ : scope.names.lookup x₂ = some .local) (hxx : x ≠ x₂) (hd : (x == ("__debug__" : Str)) = false)
    (h : wpAny (model prog w) A (eval iter env) (FirstsAt h₀ L m Q) E s)
    (hs : ∀ x, foldedSetIterable iter env x = pure x := by intro _; rfl) :
    wpAny (model prog w) A (eval (.ListComp (.Name x pn) [⟨.Tuple [.Name x px, .Name x₂ px₂] tk tp, iter, [], 0⟩] scope pos) env) Q E s := by
  refine LCp.ListComp_P (m := m) F₀ hclos hcell hkind hnames hx hx₂ hxx (wpAny_mono h (fun xv s₁ h₁ => ?_) fun _ _ e => e) hs
  obtain ⟨ax, vs, c, news, ns, out, rfl, F, N, hm, hsz, al, hsub, done⟩ := h₁
  have hvl : vs.length = ns.length := al.length
  have hsrc : LCg.SrcAt h₀ ax vs.toArray news := .inr ⟨_, hm, rfl, c, rfl⟩
  refine ⟨ax, vs.toArray, news, rfl, hh, F, N, hsrc, by rw [sizeLine_eq, List.size_toArray]; omega, fun s₂ ⟨g, e⟩ => ?_⟩
  subst e
  have key : ∀ k i us, k + i = vs.length → IntsAre us (ns.take i) → us.length = i →
      LCp.CompRestP prog w A h₀ L m env (.Name x pn) x x₂ scope cl { s₁ with heap := g } (LCg.SrcAt h₀ ax vs.toArray) (fun i v => vs.toArray[i]? = some v) (LCg.FinE h₀ L m { s₁ with heap := g } Q) k i us news := by
    intro k
    induction k with
    | zero =>
      intro i us hi hu hl
      refine LCp.CompRestP.zero fun D h' tk F' N' o1 => ?_
      rw [List.take_of_length_le (by omega)] at hu
      refine done D h' tk us F' N' (fun p hp => ?_) hu
      clear done F N hm hsrc al hsub F' N' F₀
      induction news with
      | nil => cases hp
      | cons q r ih =>
        rcases List.mem_cons.mp hp with rfl | hp
        · exact o1.1
        · exact ih o1.2 hp
    | succ k ih =>
      intro i us hi hu hl
      refine LCp.CompRestP.succ fun v hv => ?_
      obtain ⟨n, hn, a, t, y, rfl, ha⟩ := al.get (i := i) (a := v) (by simpa using hv)
      refine ⟨a, tupOf [.int n t, y], .int n t, y, _, rfl, hsub _ ha, rfl, rfl, fun I oI C oC D m₂ h' tk' E' ho h1 h2 F' N' off ne => ?_⟩
      refine nameC_L (mC := m₂) N' (.tail _ (.head _)) ho h1 ?_ (by simp [compEnvC, relabel, hkind]) (lookup_relabel_local hx) hd
      refine LCg.CompEnd.intro F' N' news (fun p hp => hp) off hsrc (ih (i + 1) _ (by omega) ?_ (by rw [List.length_append, List.length_singleton, hl]))
      rw [List.take_add_one, hn]
      exact hu.append (.cons _ _ .nil)
  rw [List.size_toArray]
  exact key vs.length 0 [] rfl (by rw [List.take_zero]; exact .nil) rfl
end
end
section
open PySem PySem.W PySem.Calls PyProof.Rows
set_option maxRecDepth 100000
set_option maxHeartbeats 400000
section
variable {prog : Program} {w : World} {A : Around} {E : Value → Shared → Prop} {s : Shared} {h₀ : Heap} {L : Addr} {m : Str → Option Value} {news : List (Addr × Obj)}
theorem row_reads {h : Heap} {a : Addr} {r : T3} {t0 t1 t2 : Tok} (N : News h₀ L h news) (hm : (a, tupOf [.str r.1 t0, .int r.2.1 t1, .int r.2.2 t2]) ∈ news) : ∃ as, Reads h (.ref a) (.tuple [.str r.1, .int r.2.1, .int r.2.2]) as :=
  ⟨_, reads_tuple_at (N.get hm) rfl rfl (.cons (.str _ _) (.cons (.int _ _) (.cons (.int _ _) .nil)))⟩
theorem row_shaped (r : T3) (h : PyData.strOk r.1 = true) : SeqAt.shaped (.tuple [.str r.1, .int r.2.1, .int r.2.2]) = true := by simp [SeqAt.shaped, PyData.canLay0, PyData.canLayAll0, PyData.depth, PyData.depthAll, h]
theorem row_eqv (r : T3) : PyData.eqv (.tuple [.str r.1, .int r.2.1, .int r.2.2]) (.tuple [.str r.1, .int r.2.1, .int r.2.2]) = true := by simp [PyData.eqv, PyData.eqvAll]
theorem rows_hits {kb : List (Int × Value)} {tbl : List (Int × T3)} (N : News h₀ L s.heap news) (alb : Al (fun p r => p.1 = r.1 ∧ RowAt (inL news) p.2 r.2) kb tbl) (hnd : (kb.map (·.1)).Nodup) (hu : A.in1.units + 64 < cLine) (hok : ∀ r ∈ tbl, PyData.strOk r.2.1 = true) :
    ∀ {ka : List (Int × Value)} {ta : List (Int × T3)}, Al (fun p r => p.1 = r.1 ∧ RowAt (inL news) p.2 r.2) ka ta → (∀ r ∈ ta, r ∈ tbl) → KeqHits A.in1 s kb ka true := by
  intro ka ta x
  induction x with
  | nil => intro _; exact .nil
  | @cons p r l q hpr _ ih =>
    intro hs
    obtain ⟨k, v⟩ := p
    obtain ⟨e, a, t0, t1, t2, hv, ha⟩ := hpr
    dsimp only at e hv
    subst hv
    subst e
    have hat : gAt tbl r.1 = some r.2 := by
      obtain ⟨j, hj⟩ := List.getElem?_of_mem (hs r (.head _))
      exact gAt_of_get (al_keys alb ▸ hnd) hj
    obtain ⟨y, hy, b, u0, u1, u2, rfl, hb⟩ := (al_at alb r.1).2 _ hat
    obtain ⟨as, ra⟩ := row_reads N ha
    obtain ⟨bs, rb⟩ := row_reads N hb
    have z := KeqHits.hit (k := r.1) hy (keq_at (A := A) ra rb (row_shaped _ (hok r (hs r (.head _)))) (row_shaped _ (hok r (hs r (.head _)))) hu) (ih fun r hr => hs r (.tail _ hr))
    rw [row_eqv, Bool.true_and] at z
    exact z
/-- two tables of the same rows are the same -/
theorem ne_tables {a b : Addr} {oa ob : Obj} {ka kb : List (Int × Value)} {tbl : List (Int × T3)} {Q : Value → Shared → Prop} (N : News h₀ L s.heap news) (pa : (a, oa) ∈ news) (pb : (b, ob) ∈ news) (da : oa.IsDictOf (intKind prog w) ka) (db : ob.IsDictOf (intKind prog w) kb) (la : (a == sysModules) = false) (lb : (b == sysModules) = false)
    (ala : Al (fun p r => p.1 = r.1 ∧ RowAt (inL news) p.2 r.2) ka tbl) (alb : Al (fun p r => p.1 = r.1 ∧ RowAt (inL news) p.2 r.2) kb tbl) (hu : A.units < cLine) (hu2 : A.in1.units + 64 < cLine) (hok : ∀ r ∈ tbl, PyData.strOk r.2.1 = true) (h : Q (.bool false) s) :
    wpAny (model prog w) A (compareOp .NotEq (.ref a) (.ref b)) Q E s :=
  kne_pairs N pa pb da db la lb (ala.length.trans alb.length.symm) hu (rows_hits N alb (keysNodup_of_isDictOf db) hu2 hok ala fun _ h => h) h
/-- two lists of the same ints are the same -/
theorem ne_ints {a b : Addr} {xs ys : List Value} {ns : List Int} {Q : Value → Shared → Prop} (ha : s.heap.IsList a xs.toArray) (hb : s.heap.IsList b ys.toArray) (hi : IntsAre xs ns) (hj : IntsAre ys ns) (hu : A.units + 64 < cLine) (h : Q (.bool false) s) : wpAny (model prog w) A (compareOp .NotEq (.ref a) (.ref b)) Q E s :=
  ke_ne_ints ha hb hi hj hu (by rw [decide_eq_true rfl]; exact h)
end
end
section
open PySem PySem.W PySem.Calls PyProof.Rows
set_option maxRecDepth 100000
set_option maxHeartbeats 400000
section
variable {prog : Program} {w : World} {A : Around} {E : Value → Shared → Prop} {env : Env} {h₀ : Heap} {s : Shared}
/-- a list's comprehension that goes straight into a name -/
noncomputable def AsgAt (prog : Program) (w : World) (A : Around) (env : Env) (h₀ : Heap) (scope : Scope) (cl : List (Str × Addr)) (x y : Str) (ifs : List PySem.Expr) (elt : PySem.Expr) (Q : Flow → Shared → Prop) (xv : Value) (s₁ : Shared) : Prop :=
  ∃ (l : Addr) (its : Array Value) (m₀ : Str → Option Value) (news₀ : List (Addr × Obj)) (J : Nat → List Value → List (Addr × Obj) → Prop),
    xv = .ref l ∧ s₁.heap.IsList l its ∧ l ≠ env.locals ∧ its.size ≤ 1000 ∧ Fr h₀ env.locals s₁.heap m₀ ∧ News h₀ env.locals s₁.heap news₀ ∧ J 0 [] news₀ ∧
    (∀ I hp, I ≠ l → CompTurn prog w A env h₀ env.locals scope cl x ifs elt I [I, l] its.size (fun i v => its[i]? = some v) m₀ J { s₁ with heap := hp }) ∧
    (∀ D h' tk ep ys news', J its.size ys news' → Fr h₀ env.locals h' (fun z => if z = y then some (.ref D) else m₀ z) → News h₀ env.locals h' ((D, listOf ys.toArray ep) :: news') → (∀ p ∈ news', p.1 ≠ D) → ys.length ≤ its.size → Q .next { s₁ with heap := h', toks := tk })
theorem comp_assign {elt iter : PySem.Expr} {x y : Str} {px py : Pos} {ifs : List PySem.Expr} {scope : Scope} {cl : List (Str × Addr)} {pos spos : Pos} {Q : Flow → Shared → Prop} (hh : A.handled = none)
    (hsw : swapsWith (.ListComp elt [⟨.Name x px, iter, ifs, 0⟩] scope pos) (some (.Name y py)) spos.line env = pure true)
    (hclos : closureFor scope env = pure cl) (hkind : scope.kind = .function) (hnames : ∀ x ∈ scope.names, x.2 = .local → scope.names.lookup x.1 = some .local)
    (hcell : ∀ y ∈ scope.names, y.2 ≠ .cell) (hx : scope.names.lookup x = some .local) (hy : env.kindOf y = some .local) (hp : (env.scope.kind == .class || (env.scope.kind == .module && env.locals != env.globals)) = false)
    (h : wpAny (model prog w) A (eval iter env) (AsgAt prog w A env h₀ scope cl x y ifs elt Q) E s)
    (hs : ∀ x, foldedSetIterable iter env x = pure x := by intro _; rfl) :
    wpAny (model prog w) A (exec (.Assign [.Name y py] (.ListComp elt [⟨.Name x px, iter, ifs, 0⟩] scope pos) spos) env) Q E s := by
  rw [exec_Assign_Name_used _ _ _ _ hsw]
  refine wpAny_bind (wpAny_standAt (wpAny_bind ?_))
  show wpAny _ A (do let _ ← comprehension (.ListComp elt [⟨.Name x px, iter, ifs, 0⟩] scope pos) scope env _ (newList []) false (eval iter env) (some (assign (.Name y py) env))) _ _ s
  refine wpAny_bind (wpAny_mono (wpAny_comprehension_free (use := some (assign (.Name y py) env)) (Q := fun _ s' => Q .next s') (g := ⟨.Name x px, iter, ifs, 0⟩) (gs := []) (cl := cl) rfl hs hclos hkind hnames
    (wpAny_mono h (fun xv s₁ h₁ => ?_) fun _ _ e => e)) (fun _ s' hq => wpAny_pure (wpAny_pure hq)) fun _ _ e => e)
  obtain ⟨l, its, m₀, news₀, J, rfl, hl, hlL, hsz, F, N, hJ, turn, done⟩ := h₁
  refine wpAny_pyIter_list hl ?_
  obtain ⟨ol, hol, _⟩ := id hl
  have hlt : l < s₁.heap.objs.size := Heap.lt_size hol
  have hne : l ≠ s₁.heap.objs.size := Nat.ne_of_lt hlt
  refine comp_core (n := its.size) (m₀ := m₀) (news₀ := news₀) (L := env.locals) J (Walks.list hh s₁.heap.objs.size l hne its) hsz (.head _) ?_ hcell hkind hx ?_ (next_is_new F) (fun p hp e => absurd (Heap.lt_size (N p hp).1) (e ▸ Nat.lt_irrefl _)) ⟨⟨_, Heap.get?_push_size _ rfl, rfl, rfl⟩, hl.at fun o e => Heap.get?_push_of_some _ e⟩ (F.push _) (fun p hp => ⟨Heap.get?_push_of_some _ (N p hp).1, (N p hp).2⟩) hJ (turn _ _ (Ne.symm hne)) ?_
  · intro b hb
    show b < (s₁.heap.push _).objs.size
    rw [Heap.size_push]
    rcases List.mem_cons.mp hb with rfl | hb
    · exact Nat.lt_succ_self _
    · rw [List.mem_singleton.mp hb]; exact Nat.lt_succ_of_lt hlt
  · intro hm
    rcases List.mem_cons.mp hm with e | hm
    · exact absurd F.ns.lt (e ▸ Nat.lt_irrefl _)
    · exact hlL (List.mem_singleton.mp hm).symm
  · intro C D h' tk ep ys news' mC hJn hns F' N' hne' hDC hLC hyl h0C
    show wpAny _ A (assign (.Name y py) env (.ref D)) _ _ _
    refine wpAny_assign_Name (wpAny_storeName_local hy F'.ns (fun h₂ hn₂ hs₂ => ?_) hp)
    have hL₀ : h₀.get? env.locals = none := Heap.get?_none_of_le F'.above
    have F₂ : Fr h₀ env.locals h₂ (fun z => if z = y then some (.ref D) else m₀ z) := ⟨hn₂, fun b o e => hs₂.extBut b o (fun q => by rw [q, hL₀] at e; cases e) (F'.keep b o e), F'.above⟩
    refine ⟨mC, hns.sameBut hs₂ (Ne.symm hLC), fun h₅ hs₅ => ?_⟩
    refine done D h₅ _ ep ys news' hJn (fr_back F₂ (fun o e => hs₅.extBut _ o hLC e) fun b o e => hs₅.extBut b o (h0C b (by rw [e]; simp)) (F₂.keep b o e)) (fun p hp => ?_) (fun p hp => (hne' p hp).1) hyl
    have z := N' p hp
    refine ⟨hs₅.extBut _ _ ?_ (hs₂.extBut _ _ z.2.1 z.1), z.2⟩
    rcases List.mem_cons.mp hp with rfl | hp
    · exact Nat.ne_of_lt hDC
    · exact (hne' p hp).2
/-- nothing, or a list of ints -/
noncomputable def GV (out : List (Addr × Obj)) (v : Value) (o : Option (List Int)) : Prop := (v = .none ∧ o = none) ∨ (∃ d vs c ns, v = .ref d ∧ (d, listOf (List.toArray vs) c) ∈ out ∧ IntsAre vs ns ∧ o = some ns)
theorem GV.le {out out' : List (Addr × Obj)} {v : Value} {o : Option (List Int)} (g : GV out v o) (h : ∀ p ∈ out, p ∈ out') : GV out' v o := by
  rcases g with g | ⟨d, vs, c, ns, a, b, e, f⟩
  · exact .inl g
  · exact .inr ⟨d, vs, c, ns, a, h _ b, e, f⟩
theorem ne_gv {L : Addr} {news : List (Addr × Obj)} {u v : Value} {o : Option (List Int)} {Q : Value → Shared → Prop} (N : News h₀ L s.heap news) (gu : GV news u o) (gv : GV news v o) (hu : A.units + 64 < cLine) (h : Q (.bool false) s) : wpAny (model prog w) A (compareOp .NotEq u v) Q E s := by
  rcases gu with ⟨rfl, eo⟩ | ⟨d, vs, c, ns, rfl, hm, hi, eo⟩
  · rcases gv with ⟨rfl, _⟩ | ⟨d, vs, c, ns, rfl, hm, hi, eo'⟩
    · exact EqNone.ne_none_none h
    · rw [eo] at eo'; cases eo'
  · rcases gv with ⟨rfl, eo'⟩ | ⟨d', vs', c', ns', rfl, hm', hi', eo'⟩
    · rw [eo] at eo'; cases eo'
    · rw [eo] at eo'; cases eo'
      exact ke_ne_ints (News.isList N hm) (News.isList N hm') hi hi' hu (by rw [decide_eq_true rfl]; exact h)
end
end
section
open PySem PySem.W PySem.Calls PyProof.Rows
set_option maxRecDepth 100000
set_option maxHeartbeats 400000
theorem out_fresh {h₀ h : Heap} {L : Addr} {l out : List (Addr × Obj)} (N : News h₀ L h l) (hn : ∀ p ∈ out, ∀ b o, h.get? b = some o → p.1 ≠ b) : ∀ q ∈ l, ∀ p ∈ out, p.1 ≠ q.1 := fun q hq p hp => hn p hp _ _ (N.get hq)
theorem walked_gv {w : World} {fr : Option (List Env)} {gd : Option (List Code)} {dp un : Nat} {s : Shared} {base h₀ : Heap} {outer : List Env} {L : Addr} {m mg mb : Str → Option Value} {mean : ExcName → Option Value} {env : Env} {news : List (Addr × Obj)}
  {T : Addr} {kvs : List (Int × Value)} {tbl : List (Int × T3)} {Q : Value → Shared → Prop} {E : Value → Shared → Prop}
  (B : Below { handled := none, depth := dp, frames := fr, guards := gd, units := un } base outer h₀) (F : Fr h₀ L s.heap m) (X₀ : (hd.heap_39 w.params).In h₀) (TT : Top VW LO mean mg mb h₀)
  (N : News h₀ L s.heap news)
  (hf : env.frame = some L) (hke : env.scope.kind = .function) (hdp : dp ≤ 790) (hun : un ≤ 7900)
  (hT : s.heap.DictOf (intKind PR w) T kvs) (lo : (T == sysModules) = false) (hrows : Al (fun kv r => kv.1 = r.1 ∧ RowAt (inH s.heap) kv.2 r.2) kvs tbl) (hlen : tbl.length ≤ 60)
  (hQ : ∀ v out h' tk, Fr h₀ L h' m → News h₀ L h' (out ++ news) → (∀ q ∈ news, ∀ p ∈ out, p.1 ≠ q.1) → GV out v (walkF tbl (tbl.length + 1) [] 0) → Q v { s with heap := h', toks := tk }) :
  wpAny (model PR w) (({ handled := none, depth := dp, frames := fr, guards := gd, units := un } : Around).deeper env) (call (.ref 144) [.ref T]) Q E s :=
  walked_call B F X₀ TT N hf hke hdp hun hT lo hrows hlen (fun h' tk F' N' e => hQ _ [] h' tk F' N' (fun _ _ _ h => nomatch h) (.inl ⟨rfl, e⟩))
    (fun d out h' tk vs c ns F' N' hn hm hi e => hQ _ out h' tk F' N' (out_fresh N hn) (.inr ⟨d, vs, c, ns, rfl, hm, hi, e⟩))
theorem lchain_gv {w : World} {fr : Option (List Env)} {gd : Option (List Code)} {dp un : Nat} {s : Shared} {base h₀ : Heap} {L : Addr} {m mg mb : Str → Option Value} {mean : ExcName → Option Value} {env : Env} {news : List (Addr × Obj)}
  {T : Addr} {kvs : List (Int × Value)} {tbl : List (Int × T3)} {Q : Value → Shared → Prop} {E : Value → Shared → Prop}
  (B : Below { handled := none, depth := dp, frames := fr, guards := gd, units := un } base [] h₀) (F : Fr h₀ L s.heap m) (XB : (hd.heap_39 w.params).In base) (TB : Top VW LO mean mg mb base) (X₀ : (hd.heap_39 w.params).In h₀) (TT : Top VW LO mean mg mb h₀)
  (N : News h₀ L s.heap news)
  (hf : env.frame = some L) (hke : env.scope.kind = .function) (hdp : dp ≤ 780) (hun : un ≤ 7800)
  (hT : s.heap.DictOf (intKind PR w) T kvs) (lo : (T == sysModules) = false) (hrows : Al (fun kv r => kv.1 = r.1 ∧ EntAt w (inH s.heap) kv.2 r.2) kvs tbl) (hlen : tbl.length ≤ 60) (hbd : ∀ p ∈ tbl, 0 ≤ p.2.2.1 ∧ p.2.2.1 < 1000000)
  (hQ : ∀ v out h' tk, Fr h₀ L h' m → News h₀ L h' (out ++ news) → (∀ q ∈ news, ∀ p ∈ out, p.1 ≠ q.1) → GV out v (walkF tbl (tbl.length + 1) [] 0) → Q v { s with heap := h', toks := tk }) :
  wpAny (model PR w) (({ handled := none, depth := dp, frames := fr, guards := gd, units := un } : Around).deeper env) (call (.ref 151) [.ref T]) Q E s :=
  lchain_call B F XB TB X₀ TT N hf hke hdp hun hT lo hrows hlen hbd (fun h' tk F' N' e => hQ _ [] h' tk F' N' (fun _ _ _ h => nomatch h) (.inl ⟨rfl, e⟩))
    (fun d out h' tk vs c ns F' N' hn hm hi e => hQ _ out h' tk F' N' (out_fresh N hn) (.inr ⟨d, vs, c, ns, rfl, hm, hi, e⟩))
end
section
open PySem PySem.W PySem.Calls PyProof.Rows
set_option maxRecDepth 100000
set_option maxHeartbeats 400000
section
variable {prog : Program} {w : World} {A : Around} {E : Value → Shared → Prop} {s : Shared}
theorem is_gv {out : List (Addr × Obj)} {v : Value} {o : Option (List Int)} {Q : Value → Shared → Prop} (g : GV out v o) (h : Q (.bool o.isNone) s) : wpAny (model prog w) A (compareOp .Is v .none) Q E s := by
  rcases g with ⟨rfl, eo⟩ | ⟨d, vs, c, ns, rfl, _, _, eo⟩
  · rw [eo] at h; exact wpAny_is_self (by rfl) h
  · rw [eo] at h; exact is_ref_none h
theorem isnot_gv {out : List (Addr × Obj)} {v : Value} {o : Option (List Int)} {Q : Value → Shared → Prop} (g : GV out v o) (h : Q (.bool o.isSome) s) : wpAny (model prog w) A (compareOp .IsNot v .none) Q E s := by
  rcases g with ⟨rfl, eo⟩ | ⟨d, vs, c, ns, rfl, _, _, eo⟩
  · rw [eo] at h; exact wpAny_isNot_self (by rfl) h
  · rw [eo] at h; exact wpAny_isNot_other (by rfl) (by intro x; cases x) h
theorem pair_eqv (a b c d : Int) : PyData.eqv (.tuple [.int a, .int b]) (.tuple [.int c, .int d]) = (a == c && b == d) := by simp [PyData.eqv, PyData.eqvAll]
theorem ne_pair {h₀ : Heap} {L x y : Addr} {news : List (Addr × Obj)} {a b c d : Int} {ta tb tc td : Tok} {ox oy : Obj} {Q : Value → Shared → Prop} (N : News h₀ L s.heap news) (mx : (x, ox) ∈ news) (my : (y, oy) ∈ news) (ex : ox = tupOf [.int a ta, .int b tb]) (ey : oy = tupOf [.int c tc, .int d td]) (hu : A.units + 64 < cLine)
    (h : Q (.bool (!(a == c && b == d))) s) : wpAny (model prog w) A (compareOp .NotEq (.ref x) (.ref y)) Q E s := by
  subst ex ey
  refine ne_dataH (da := .tuple [.int a, .int b]) (db := .tuple [.int c, .int d]) (reads_tuple_at (N.get mx) rfl rfl (.cons (.int _ _) (.cons (.int _ _) .nil))) (reads_tuple_at (N.get my) rfl rfl (.cons (.int _ _) (.cons (.int _ _) .nil))) (by simp [SeqAt.shaped, PyData.canLay0, PyData.canLayAll0, PyData.depth, PyData.depthAll]) (by simp [SeqAt.shaped, PyData.canLay0, PyData.canLayAll0, PyData.depth, PyData.depthAll]) hu ?_
  rw [pair_eqv]; exact h
end
end
section
open PySem PySem.W PySem.Calls PyProof.Rows
set_option maxRecDepth 100000
set_option maxHeartbeats 400000
theorem gPut_new {β : Type} {t : List (Int × β)} {k : Int} {v : β} (h : ∀ p ∈ t, p.1 ≠ k) : gPut t k v = t ++ [(k, v)] := by
  unfold gPut
  have : t.any (fun p => decide (p.1 = k)) = false := by
    rw [List.any_eq_false]
    intro p hp
    simpa using h p hp
  rw [this]; rfl
theorem nd_inj {l : List Int} (h : l.Nodup) {i j : Nat} {hi : i < l.length} {hj : j < l.length} (e : l[i] = l[j]) : i = j := by
  have z := List.pairwise_iff_getElem.mp h
  rcases Nat.lt_trichotomy i j with q | q | q
  · exact absurd e (z i j hi hj q)
  · exact q
  · exact absurd e.symm (z j i hj hi q)
/-- a row of the untouched chain -/
noncomputable def rowOf (line : List Int) (gt : List (Int × Int)) (n : Nat) : Int × T3 := (line.getD n 0, ("free" : Str), line.getD (n + 1) 0, if n = 0 then 65535 else (gAt gt (line.getD n 0)).getD 0)
theorem getD_lt {l : List Int} {n : Nat} (h : n < l.length) : l.getD n 0 = l[n] := by
  rw [List.getD_eq_getElem?_getD, List.getElem?_eq_getElem h]; rfl
theorem chainT_eq {line : List Int} {gt : List (Int × Int)} (hnd : line.Nodup) : ∀ n, n ≤ line.length → chainT line gt n = (List.range n).map (rowOf line gt) := by
  intro n
  induction n with
  | zero => intro _; rfl
  | succ n ih =>
    intro hn
    have e := ih (by omega)
    show gPut (chainT line gt n) (line.getD n 0) (rowOf line gt n).2 = _
    rw [e, gPut_new, List.range_succ, List.map_append]
    · rfl
    · intro p hp
      obtain ⟨j, hj, rfl⟩ := List.mem_map.mp hp
      have hjn := List.mem_range.mp hj
      show line.getD j 0 ≠ line.getD n 0
      rw [getD_lt (by omega), getD_lt (by omega)]
      intro q
      have := nd_inj hnd (hi := by omega) (hj := by omega) q
      omega
theorem chainT_free {line : List Int} {gt : List (Int × Int)} (hnd : line.Nodup) : ∀ r ∈ chainT line gt line.length, r.2.1 = ("free" : Str) := by
  intro r hr
  rw [chainT_eq hnd _ (Nat.le_refl _)] at hr
  obtain ⟨j, _, rfl⟩ := List.mem_map.mp hr
  rfl
theorem chainT_keys {line : List Int} {gt : List (Int × Int)} (hnd : line.Nodup) : (chainT line gt line.length).map (·.1) = line := by
  rw [chainT_eq hnd _ (Nat.le_refl _), List.map_map]
  apply List.ext_getElem
  · simp
  · intro i h1 h2
    simp only [List.getElem_map, List.getElem_range, Function.comp_apply]
    exact getD_lt h2
theorem chainT_len {line : List Int} {gt : List (Int × Int)} (hnd : line.Nodup) : (chainT line gt line.length).length = line.length := by
  rw [chainT_eq hnd _ (Nat.le_refl _)]; simp
section
variable {nums : List Int} {gt : List (Int × Int)} {rt : List (Int × T3)}
theorem srt_nodup (hn : nums.Nodup) : (srt nums).Nodup := (srt_perm nums).nodup_iff.mpr hn
theorem srt_sorted (l : List Int) : (srt l).Pairwise (· ≤ ·) :=
  (List.pairwise_mergeSort (le := fun a b => decide (a ≤ b)) (fun a b c h1 h2 => by simp at *; omega) (fun a b => by simp; omega) l).imp fun h => by simpa using h
theorem line_nodup (hn : nums.Nodup) (hp : ∀ k ∈ nums, 0 < k) : (0 :: srt nums).Nodup := by
  refine List.nodup_cons.mpr ⟨fun q => ?_, srt_nodup hn⟩
  have := hp 0 ((srt_perm nums).mem_iff.mp q)
  omega
/-- the table of the first lap -/
noncomputable def tab0 (nums : List Int) (gt : List (Int × Int)) (rt : List (Int × T3)) : List (Int × T3) := chainT (0 :: srt nums) gt (0 :: srt nums).length ++ rt
theorem tab0_keys (hn : nums.Nodup) (hp : ∀ k ∈ nums, 0 < k) : (tab0 nums gt rt).map (·.1) = (0 :: srt nums) ++ rt.map (·.1) := by
  unfold tab0
  rw [List.map_append, chainT_keys (line_nodup hn hp)]
theorem tab0_len (hn : nums.Nodup) (hp : ∀ k ∈ nums, 0 < k) : (tab0 nums gt rt).length = nums.length + 1 + rt.length := by
  unfold tab0
  rw [List.length_append, chainT_len (line_nodup hn hp), List.length_cons, (srt_perm nums).length_eq]
theorem tab0_nodup (hn : nums.Nodup) (hp : ∀ k ∈ nums, 0 < k) (hr : (rt.map (·.1)).Nodup) (hd : ∀ p ∈ rt, 0 < p.1 ∧ p.1 ∉ nums) : ((tab0 nums gt rt).map (·.1)).Nodup := by
  rw [tab0_keys hn hp]
  refine List.nodup_append.mpr ⟨line_nodup hn hp, hr, fun a ha b hb q => ?_⟩
  obtain ⟨p, hp', rfl⟩ := List.mem_map.mp hb
  have z := hd p hp'
  rcases List.mem_cons.mp ha with e | e
  · omega
  · exact z.2 (q ▸ (srt_perm nums).mem_iff.mp e)
theorem tab0_at (hn : nums.Nodup) (hp : ∀ k ∈ nums, 0 < k) (hr : (rt.map (·.1)).Nodup) (hd : ∀ p ∈ rt, 0 < p.1 ∧ p.1 ∉ nums) {i : Nat} (hi : i < (0 :: srt nums).length) : gAt (tab0 nums gt rt) ((0 :: srt nums).getD i 0) = some (rowOf (0 :: srt nums) gt i).2 := by
  refine gAt_of_get (tab0_nodup hn hp hr hd) (j := i) ?_
  unfold tab0
  rw [List.getElem?_append_left (by rw [chainT_len (line_nodup hn hp)]; exact hi), chainT_eq (line_nodup hn hp) _ (Nat.le_refl _), List.getElem?_map, List.getElem?_range hi]
  rfl
theorem tab0_row (hn : nums.Nodup) (hp : ∀ k ∈ nums, 0 < k) (hr : (rt.map (·.1)).Nodup) (hd : ∀ p ∈ rt, 0 < p.1 ∧ p.1 ∉ nums) {p : Int × T3} (hm : p ∈ rt) : gAt (tab0 nums gt rt) p.1 = some p.2 := by
  obtain ⟨j, hj⟩ := List.getElem?_of_mem (show p ∈ tab0 nums gt rt from List.mem_append_right _ hm)
  exact gAt_of_get (tab0_nodup hn hp hr hd) hj
theorem tab0_walk (hn : nums.Nodup) (hp : ∀ k ∈ nums, 0 < k) (hr : (rt.map (·.1)).Nodup) (hd : ∀ p ∈ rt, 0 < p.1 ∧ p.1 ∉ nums) : ∀ (d i f : Nat), i + d = (srt nums).length → d < f → walkF (tab0 nums gt rt) f ((srt nums).take i) ((0 :: srt nums).getD i 0) = some (srt nums) := by
  intro d
  induction d with
  | zero =>
    intro i f hi hf
    obtain ⟨f, rfl⟩ : ∃ g, f = g + 1 := ⟨f - 1, by omega⟩
    have hat := tab0_at (gt := gt) hn hp hr hd (i := i) (by rw [List.length_cons]; omega)
    have e0 : (0 :: srt nums).getD (i + 1) 0 = 0 := by rw [List.getD_eq_getElem?_getD, List.getElem?_eq_none (by rw [List.length_cons]; omega)]; rfl
    unfold walkF
    rw [hat]
    show (if ("free" : Str) = ("free" : Str) then (if (0 :: srt nums).getD (i + 1) 0 = 0 then _ else _) else _) = _
    rw [if_pos rfl, if_pos e0, List.take_of_length_le (by omega)]
  | succ d ih =>
    intro i f hi hf
    obtain ⟨f, rfl⟩ : ∃ g, f = g + 1 := ⟨f - 1, by omega⟩
    have hat := tab0_at (gt := gt) hn hp hr hd (i := i) (by rw [List.length_cons]; omega)
    have hlt : i < (srt nums).length := by omega
    have e0 : (0 :: srt nums).getD (i + 1) 0 = (srt nums)[i] := by rw [getD_lt (by rw [List.length_cons]; omega)]; rfl
    have hpos : 0 < (srt nums)[i] := hp _ ((srt_perm nums).mem_iff.mp (List.getElem_mem hlt))
    have hnm : (srt nums)[i] ∉ (srt nums).take i := by
      intro q
      obtain ⟨j, hj, e⟩ := List.getElem_of_mem q
      rw [List.length_take] at hj
      rw [List.getElem_take] at e
      have := nd_inj (srt_nodup hn) (hi := by omega) (hj := hlt) e
      omega
    unfold walkF
    rw [hat]
    show (if ("free" : Str) = ("free" : Str) then (if (0 :: srt nums).getD (i + 1) 0 = 0 then _ else if (0 :: srt nums).getD (i + 1) 0 ∈ (srt nums).take i then _ else walkF _ f ((srt nums).take i ++ [(0 :: srt nums).getD (i + 1) 0]) ((0 :: srt nums).getD (i + 1) 0)) else _) = _
    rw [if_pos rfl, if_neg (by rw [e0]; omega), if_neg (by rw [e0]; exact hnm)]
    have e1 : (srt nums).take i ++ [(0 :: srt nums).getD (i + 1) 0] = (srt nums).take (i + 1) := by rw [e0, List.take_add_one, List.getElem?_eq_getElem hlt]; rfl
    rw [e1]
    exact ih (i + 1) f (by omega) (by omega)
theorem tab0_walkF (hn : nums.Nodup) (hp : ∀ k ∈ nums, 0 < k) (hr : (rt.map (·.1)).Nodup) (hd : ∀ p ∈ rt, 0 < p.1 ∧ p.1 ∉ nums) : walkF (tab0 nums gt rt) ((tab0 nums gt rt).length + 1) [] 0 = some (srt nums) :=
  tab0_walk hn hp hr hd (srt nums).length 0 _ (by omega) (by rw [tab0_len hn hp, (srt_perm nums).length_eq]; omega)
theorem tab0_zero (hn : nums.Nodup) (hp : ∀ k ∈ nums, 0 < k) (hr : (rt.map (·.1)).Nodup) (hd : ∀ p ∈ rt, 0 < p.1 ∧ p.1 ∉ nums) : ∃ one, gAt (tab0 nums gt rt) 0 = some (("free" : Str), one, 65535) :=
  ⟨_, tab0_at (gt := gt) hn hp hr hd (i := 0) (by rw [List.length_cons]; omega)⟩
theorem tab0_free (hn : nums.Nodup) (hp : ∀ k ∈ nums, 0 < k) (hr : (rt.map (·.1)).Nodup) (hd : ∀ p ∈ rt, 0 < p.1 ∧ p.1 ∉ nums) (hw : ∀ p ∈ rt, p.2.1 ≠ ("free" : Str)) : freeOf (tab0 nums gt rt) = srt nums := by
  unfold freeOf
  rw [tab0_keys hn hp]
  have e : ((0 :: srt nums) ++ rt.map (·.1)).filter (freeP (tab0 nums gt rt)) = srt nums := by
    rw [List.filter_append, List.filter_cons_of_neg (by unfold freeP; simp)]
    have e1 : (srt nums).filter (freeP (tab0 nums gt rt)) = srt nums := by
      rw [List.filter_eq_self]
      intro a ha
      obtain ⟨i, hi, rfl⟩ := List.getElem_of_mem ha
      have hat := tab0_at (gt := gt) hn hp hr hd (i := i + 1) (by rw [List.length_cons]; omega)
      rw [getD_lt (by rw [List.length_cons]; omega)] at hat
      rw [freeP_eq (k := (srt nums)[i]) hat]
      have := hp _ ((srt_perm nums).mem_iff.mp (List.getElem_mem hi))
      simp [rowOf, this]
    have e2 : (rt.map (·.1)).filter (freeP (tab0 nums gt rt)) = [] := by
      rw [List.filter_eq_nil_iff]
      intro a ha
      obtain ⟨p, hp', rfl⟩ := List.mem_map.mp ha
      rw [freeP_eq (tab0_row hn hp hr hd hp')]
      simp [hw p hp']
    rw [e1, e2, List.append_nil]
  have hs : ((srt ((0 :: srt nums) ++ rt.map (·.1))).filter (freeP (tab0 nums gt rt))) = srt (srt nums) := by
    refine srt_of ?_ ((srt_sorted _).filter _)
    have := (srt_perm ((0 :: srt nums) ++ rt.map (·.1))).filter (freeP (tab0 nums gt rt))
    rwa [e] at this
  rw [hs]
  exact (srt_of (List.Perm.refl _) (srt_sorted nums)).symm
theorem tab0_good (hn : nums.Nodup) (hb : ∀ k ∈ nums, 0 < k ∧ k < 1000) (hg : GoodT rt) : GoodT (tab0 nums gt rt) := by
  intro p hp
  rcases List.mem_append.mp hp with hp | hp
  · rw [chainT_eq (line_nodup hn fun k hk => (hb k hk).1) _ (Nat.le_refl _)] at hp
    obtain ⟨j, hj, rfl⟩ := List.mem_map.mp hp
    have hjl := List.mem_range.mp hj
    have hget : ∀ n, 0 ≤ (0 :: srt nums).getD n 0 ∧ (0 :: srt nums).getD n 0 < 1000 := by
      intro n
      by_cases q : n < (0 :: srt nums).length
      · rw [getD_lt q]
        rcases List.mem_cons.mp (List.getElem_mem q) with e | e
        · omega
        · have := hb _ ((srt_perm nums).mem_iff.mp e); omega
      · rw [List.getD_eq_getElem?_getD, List.getElem?_eq_none (by omega)]; exact ⟨Int.le_refl _, by decide⟩
    exact ⟨hget j, (hget (j + 1)).1, Int.lt_trans (hget (j + 1)).2 (by decide)⟩
  · exact hg p hp
end
theorem line_zero {nums : List Int} (hp : ∀ k ∈ nums, 0 < k) : (srt ([0] ++ nums)).filter (fun a => decide (0 < a)) = srt nums := by
  refine srt_of ?_ ((srt_sorted _).filter _)
  have h := (srt_perm ([0] ++ nums)).filter (fun a => decide (0 < a))
  have e : ([0] ++ nums).filter (fun a => decide (0 < a)) = nums := by
    rw [List.filter_append]
    have : nums.filter (fun a => decide (0 < a)) = nums := List.filter_eq_self.mpr fun a ha => by simpa using hp a ha
    rw [this]; rfl
  rwa [e] at h
theorem srt_line {nums : List Int} (hp : ∀ k ∈ nums, 0 < k) : srt (0 :: srt nums) = 0 :: srt nums := by
  refine (srt_of (List.Perm.refl _) (List.pairwise_cons.mpr ⟨fun a ha => ?_, srt_sorted nums⟩)).symm
  have := hp a ((srt_perm nums).mem_iff.mp ha)
  omega
/-- what the law's own lists say of the faults -/
theorem over_self (t : List (Int × T3)) (l : List Int) (h : ∀ k ∈ l, k ∈ freeOf t) : l.filter (overP t (freeOf t)) = [] := by
  rw [List.filter_eq_nil_iff]
  intro k hk q
  unfold overP at q
  have : ((freeOf t).any fun x => x == k) = true := by
    rw [List.any_eq_true]; exact ⟨k, h k hk, by simp⟩
  rw [this] at q
  simp at q
theorem faults_law (t : List (Int × T3)) (w : Nat) (hw : w = (if (walkF t (t.length + 1) [] 0).isNone then 1 else 0) + (zeroF t).length) :
    faultsOf t = List.replicate w 0 ++ (if (walkF t (t.length + 1) [] 0).isSome then (freeOf t).filter (overP t ((walkF t (t.length + 1) [] 0).getD [])) else []) := by
  have hz : zeroF t = List.replicate (zeroF t).length 0 := by
    unfold zeroF
    split
    · split <;> rfl
    · rfl
  unfold faultsOf
  cases h : walkF t (t.length + 1) [] 0 with
  | none =>
    rw [h] at hw
    simp only [Option.isNone_none, if_true, Option.getD_none, Option.isSome_none, Bool.false_eq_true, if_false, List.append_nil] at hw ⊢
    rw [over_self t _ fun k hk => hk, List.append_nil, hw, Nat.add_comm, List.replicate_succ, ← hz]
    rfl
  | some ns =>
    rw [h] at hw
    simp only [Option.isNone_some, Bool.false_eq_true, if_false, Option.getD_some, Option.isSome_some, if_true, Nat.zero_add, List.nil_append] at hw ⊢
    rw [hw, ← hz]
end
section
open PySem PySem.W PySem.Calls PyProof.Rows
set_option maxRecDepth 100000
set_option maxHeartbeats 400000
theorem inst_nw {h₀ h : Heap} {L x C dx : Addr} {od : Obj} {news : List (Addr × Obj)} (N : News h₀ L h news) (h1 : (x, instObj C dx) ∈ news) (h2 : (dx, od) ∈ news) : W.InstAt h x (instObj C dx) C (some od) := ⟨N.get h1, rfl, rfl, N.get h2⟩
local macro_rules | `(tactic| k_inst) => `(tactic| (exact inst_nw ‹_› (by k_mem) (by k_mem)))
theorem told_call {w : World} {fr : Option (List Env)} {gd : Option (List Code)} {dp un : Nat} {s : Shared} {base h₀ : Heap} {outer : List Env} {L : Addr} {m mg mb : Str → Option Value} {mean : ExcName → Option Value} {env : Env} {news : List (Addr × Obj)}
  {X : Addr} {r : T3} {Q : Value → Shared → Prop} {E : Value → Shared → Prop}
  (B : Below { handled := none, depth := dp, frames := fr, guards := gd, units := un } base outer h₀) (F : Fr h₀ L s.heap m) (X₀ : (hd.heap_39 w.params).In h₀) (TT : Top VW LO mean mg mb h₀)
  (N : News h₀ L s.heap news)
  (hf : env.frame = some L) (hke : env.scope.kind = .function) (hdp : dp ≤ 820)
  (hX : EntAt w (inL news) (.ref X) r)
  (hQ : ∀ tp h' tk t0 t1 t2, Fr h₀ L h' m → News h₀ L h' ((tp, tupOf [.str r.1 t0, .int r.2.1 t1, .int r.2.2 t2]) :: news) → (∀ p ∈ news, p.1 < tp) → Q (.ref tp) { s with heap := h', toks := tk }) :
  wpAny (model PR w) (({ handled := none, depth := dp, frames := fr, guards := gd, units := un } : Around).deeper env) (call (.ref 75) [.ref X]) Q E s := by
  obtain ⟨X', dx, k0, k1, k2, t0, t1, t2, hXX, hX1, hX2⟩ := hX
  cases hXX
  obtain ⟨way, one, two⟩ := r
  change (X, instObj 78 dx) ∈ news at hX1
  change (dx, entD w (way, one, two) k0 k1 k2 t0 t1 t2) ∈ news at hX2
  refine' my_call (binds := [(Str.ofString "self", .ref X)]) B F X₀ N TT hf hke ?k6 ?k7 ?k8 ?k9 ?kB ?_ ?c2 ?c3 ?c4 ?c5
  walk_at "m call"
  intro g L' h₁ Qb hG hGs hsz F' N' hlt B' X' T' hret hnext
  walk_at "m walk"
  rename_i D1 h2 F2 N2 hk9
  refine hret _ _ ?_
  obtain ⟨FF, NN, KK, AA⟩ := my_back F N hG F2 N2 (fun q => by
    obtain ⟨p, hp, e⟩ := List.mem_map.mp q
    exact (N p hp).2.1 e) (fun b hb => by
    obtain ⟨p, hp, e⟩ := List.mem_map.mp hb
    exact e ▸ (N p hp).2.2)
  exact hQ D1 _ _ t0 t1 t2 FF NN hk9
end
section
open PySem PySem.W PySem.Calls PyProof.Rows
set_option maxRecDepth 100000
set_option maxHeartbeats 400000
theorem news_fresh {h₀ h : Heap} {L : Addr} {l out : List (Addr × Obj)} (N : News h₀ L h l) (hn : ∀ p ∈ out, ∀ b o, h.get? b = some o → p.1 ≠ b) : ∀ q ∈ l, ∀ p ∈ out, p.1 ≠ q.1 := fun q hq p hp => hn p hp _ _ (N.get hq)
theorem all_app {α : Type} {P : α → Prop} {l r : List α} (a : ∀ x ∈ l, P x) (b : ∀ x ∈ r, P x) : ∀ x ∈ l ++ r, P x := fun x hx => (List.mem_append.mp hx).elim (a x) (b x)
theorem all_cons {α : Type} {P : α → Prop} {y : α} {r : List α} (a : P y) (b : ∀ x ∈ r, P x) : ∀ x ∈ y :: r, P x := List.forall_mem_cons.mpr ⟨a, b⟩
/-- a list of pairs of a number and a told entry, on the way to a dict -/
noncomputable def ToldJ (w : World) (P C c1 c2 c3 : Addr) (oP oC o1 o2 o3 : Obj) (tbl : List (Int × T3)) (rest : List (Addr × Obj)) (i : Nat) (ys : List Value) (nw : List (Addr × Obj)) : Prop :=
  ∃ (out2 : List (Addr × Obj)) (prs : List (Int × Value)), nw = (P, oP) :: (C, oC) :: (c3, o3) :: (c2, o2) :: (c1, o1) :: (out2 ++ rest) ∧ (∀ p ∈ out2, p.1 ≠ P ∧ p.1 ≠ C ∧ p.1 ≠ c1 ∧ p.1 ≠ c2 ∧ p.1 ≠ c3) ∧
    Al (fun v (p : Int × Value) => ∃ a key, v = .ref a ∧ (a, tupOf [key, p.2]) ∈ out2 ∧ (intKind PR w).is p.1 key = true) ys prs ∧ Al (fun p r => p.1 = r.1 ∧ RowAt (inL out2) p.2 r.2) prs (tbl.take i)
noncomputable abbrev baseD (dD LD TR kD rD gD nL P S : Addr) : Str → Option Value := fun y => if y = Str.ofString "due" then some (Value.ref dD) else if y = Str.ofString "line" then some (Value.ref LD) else if y = Str.ofString "told_rows" then some (Value.ref TR) else if y = Str.ofString "kept" then some (Value.ref kD) else if y = Str.ofString "rows" then some (Value.ref rD) else if y = Str.ofString "generations" then some (Value.ref gD) else if y = Str.ofString "numbers" then some (Value.ref nL) else if y = Str.ofString "pen" then some (Value.ref P) else if y = Str.ofString "script" then some (Value.ref S) else none
theorem two_form {m b : Str → Option Value} {x1 x2 : Str} {v1 v2 : Option Value} (h : ∀ y, y ≠ x2 → y ≠ x1 → m y = b y) : (fun y => if y = x2 then v2 else if y = x1 then v1 else m y) = fun y => if y = x2 then v2 else if y = x1 then v1 else b y := by
  funext y
  by_cases e2 : y = x2
  · rw [if_pos e2, if_pos e2]
  by_cases e1 : y = x1
  · rw [if_neg e2, if_pos e1, if_neg e2, if_pos e1]
  rw [if_neg e2, if_neg e1, if_neg e2, if_neg e1]
  exact h y e2 e1
/-- the table that is due, i numbers in -/
noncomputable def DueJ (w : World) (b : Str → Option Value) (P C c1 c2 c3 dD : Addr) (oP oC o1 o2 o3 : Obj) (line : List Int) (gt : List (Int × Int)) (rest : List (Addr × Obj)) (i : Nat) (m : Str → Option Value) (nw : List (Addr × Obj)) : Prop :=
  ∃ (oD : Obj) (kv : List (Int × Value)) (out : List (Addr × Obj)), (∀ y, y ≠ Str.ofString "number" → y ≠ Str.ofString "at" → m y = b y) ∧ nw = (P, oP) :: (C, oC) :: (c3, o3) :: (c2, o2) :: (c1, o1) :: (dD, oD) :: (out ++ rest) ∧ (∀ p ∈ out, p.1 ≠ P ∧ p.1 ≠ C ∧ p.1 ≠ c1 ∧ p.1 ≠ c2 ∧ p.1 ≠ c3 ∧ p.1 ≠ dD) ∧
    oD.IsDictOf (intKind PR w) kv ∧ Al (fun p r => p.1 = r.1 ∧ RowAt (inL out) p.2 r.2) kv (chainT line gt i)
theorem due_step {line : List Int} {gt : List (Int × Int)} {i : Nat} {k n' g : Int} {kv : List (Int × Value)} {D9 : Addr} {tf t1 t2 : Tok} {out2 : List (Addr × Obj)} (hk : line[i]? = some k) (hn : (line ++ [0])[((i : Int) + 1).toNat]? = some n') (hg : g = if i = 0 then 65535 else (gAt gt k).getD 0)
    (al : Al (fun p r => p.1 = r.1 ∧ RowAt (inL out2) p.2 r.2) kv (chainT line gt i)) : Al (fun p r => p.1 = r.1 ∧ RowAt (inL ((D9, tupOf [.str ("free" : Str) tf, .int n' t1, .int g t2]) :: out2)) p.2 r.2) (stored kv k (.ref D9)) (chainT line gt (i + 1)) := by
  have e1 : line.getD i 0 = k := by rw [List.getD_eq_getElem?_getD, hk]; rfl
  have hi : i < line.length := (List.getElem?_eq_some_iff.mp hk).1
  have e3 : ((i : Int) + 1).toNat = i + 1 := by omega
  have e2 : line.getD (i + 1) 0 = n' := by
    rw [e3] at hn
    rw [List.getD_eq_getElem?_getD]
    by_cases q : i + 1 < line.length
    · rw [List.getElem?_append_left q] at hn
      rw [hn]; rfl
    · have q2 : i + 1 = line.length := by omega
      rw [q2, List.getElem?_append_right (Nat.le_refl _), Nat.sub_self] at hn
      rw [q2, List.getElem?_eq_none (Nat.le_refl _)]
      simpa using hn
  show Al _ _ (gPut (chainT line gt i) (line.getD i 0) (("free" : Str), line.getD (i + 1) 0, if i = 0 then 65535 else (gAt gt (line.getD i 0)).getD 0))
  rw [e1, e2, ← hg]
  exact al_put (V := fun v r => RowAt (inL ((D9, tupOf [.str ("free" : Str) tf, .int n' t1, .int g t2]) :: out2)) v r) (al.mono fun p r z => ⟨z.1, z.2.le fun a o e => .tail _ e⟩) _ ⟨_, _, _, _, rfl, .head _⟩
theorem world_form2 {m b : Str → Option Value} {x1 x2 : Str} (h : ∀ y, y ≠ x2 → y ≠ x1 → m y = b y) : m = fun y => if y = x2 then m x2 else if y = x1 then m x1 else b y := by
  funext y
  by_cases e2 : y = x2
  · rw [if_pos e2, e2]
  by_cases e1 : y = x1
  · rw [if_neg e2, if_pos e1, e1]
  rw [if_neg e2, if_neg e1]
  exact h y e2 e1
theorem one_form {m b : Str → Option Value} {x : Str} {v : Option Value} (h : ∀ y, y ≠ x → m y = b y) : (fun y => if y = x then v else m y) = fun y => if y = x then v else b y := by
  funext y
  by_cases e1 : y = x
  · rw [if_pos e1, if_pos e1]
  rw [if_neg e1, if_neg e1]
  exact h y e1
theorem one_form2 {m b : Str → Option Value} {x : Str} (h : ∀ y, y ≠ x → m y = b y) : m = fun y => if y = x then m x else b y := by
  funext y
  by_cases e1 : y = x
  · rw [if_pos e1, e1]
  rw [if_neg e1]
  exact h y e1
/-- the table, i rows in -/
noncomputable def TabJ (w : World) (b : Str → Option Value) (P C c1 c2 c3 tT : Addr) (oP oC o1 o2 o3 : Obj) (bs rt : List (Int × T3)) (rest : List (Addr × Obj)) (i : Nat) (m : Str → Option Value) (nw : List (Addr × Obj)) : Prop :=
  ∃ (oE : Obj) (kv : List (Int × Value)), (∀ y, y ≠ Str.ofString "number" → m y = b y) ∧ nw = (P, oP) :: (C, oC) :: (c3, o3) :: (c2, o2) :: (c1, o1) :: (tT, oE) :: rest ∧ oE.IsDictOf (intKind PR w) kv ∧ Al (fun p r => p.1 = r.1 ∧ RowAt (inL rest) p.2 r.2) kv (bs ++ rt.take i)
theorem row_step {R : Has} {kv : List (Int × Value)} {bs rt : List (Int × T3)} {i : Nat} {k : Int} {r : T3} {v : Value} (al : Al (fun p r => p.1 = r.1 ∧ RowAt R p.2 r.2) kv (bs ++ rt.take i)) (hr : rt[i]? = some (k, r)) (hb : ∀ p ∈ bs, p.1 ≠ k) (hrk : (rt.map (·.1)).Nodup) (hv : RowAt R v r) :
    Al (fun p r => p.1 = r.1 ∧ RowAt R p.2 r.2) (stored kv k v) (bs ++ rt.take (i + 1)) := by
  have e : gPut (bs ++ rt.take i) k r = bs ++ rt.take (i + 1) := by
    rw [gPut_new, List.take_add_one, hr, ← List.append_assoc]
    · rfl
    · refine all_app hb fun p hp q => ?_
      obtain ⟨j, hj, e⟩ := List.getElem_of_mem hp
      rw [List.length_take] at hj
      rw [List.getElem_take] at e
      have hi : i < rt.length := (List.getElem?_eq_some_iff.mp hr).1
      have hri : rt[i] = (k, r) := (List.getElem?_eq_some_iff.mp hr).2
      have := nd_inj hrk (i := j) (j := i) (hi := by rw [List.length_map]; omega) (hj := by rw [List.length_map]; omega) (by rw [List.getElem_map, List.getElem_map, e, hri]; exact q)
      omega
  rw [← e]
  exact al_put (V := fun v r => RowAt R v r) al k hv
theorem lap_form {m b : Str → Option Value} {v : Option Value} (h : ∀ y, y ≠ Str.ofString "lap" → y ≠ Str.ofString "entries" → y ≠ Str.ofString "free" → y ≠ Str.ofString "wrong" → y ≠ Str.ofString "passed" → m y = b y) :
    (fun y => if y = Str.ofString "lap" then v else m y) = fun y => if y = Str.ofString "lap" then v else if y = Str.ofString "entries" then m (Str.ofString "entries") else if y = Str.ofString "free" then m (Str.ofString "free") else if y = Str.ofString "wrong" then m (Str.ofString "wrong") else if y = Str.ofString "passed" then m (Str.ofString "passed") else b y := by
  funext y
  by_cases e1 : y = Str.ofString "lap"
  · rw [if_pos e1, if_pos e1]
  rw [if_neg e1, if_neg e1]
  by_cases e2 : y = Str.ofString "entries"
  · rw [if_pos e2, e2]
  rw [if_neg e2]
  by_cases e3 : y = Str.ofString "free"
  · rw [if_pos e3, e3]
  rw [if_neg e3]
  by_cases e4 : y = Str.ofString "wrong"
  · rw [if_pos e4, e4]
  rw [if_neg e4]
  by_cases e5 : y = Str.ofString "passed"
  · rw [if_pos e5, e5]
  rw [if_neg e5]
  exact h y e1 e2 e3 e4 e5
/-- what holds at the head of a lap -/
noncomputable def LapJ (w : World) (b : Str → Option Value) (P C c1 c2 c3 nL : Addr) (o1 oN : Obj) (t0 : List (Int × T3)) (i : Nat) (m : Str → Option Value) (nw : List (Addr × Obj)) : Prop :=
  ∃ (x : Pen) (o2 o3 : Obj) (cv : Option Value) (tD : Addr) (oT : Obj) (kv : List (Int × Value)) (tbl : List (Int × T3)) (rest : List (Addr × Obj)),
    (∀ y, y ≠ Str.ofString "lap" → y ≠ Str.ofString "entries" → y ≠ Str.ofString "free" → y ≠ Str.ofString "wrong" → y ≠ Str.ofString "passed" → m y = b y) ∧ nw = (P, x.p C) :: (C, x.c) :: (c3, o3) :: (c2, o2) :: (c1, o1) :: rest ∧ (∀ p ∈ rest, p.1 ≠ P ∧ p.1 ≠ C ∧ p.1 ≠ c1 ∧ p.1 ≠ c2 ∧ p.1 ≠ c3) ∧
    o3.data = .cell cv ∧ o2.data = .cell (some (.ref tD)) ∧ (tD, oT) ∈ rest ∧ (tD == sysModules) = false ∧ oT.IsDictOf (intKind PR w) kv ∧ Al (fun p r => p.1 = r.1 ∧ RowAt (inL rest) p.2 r.2) kv tbl ∧ GoodT tbl ∧ tbl.length ≤ 26 + 3 * i ∧ (i = 0 → tbl = t0) ∧ (nL, oN) ∈ rest
theorem item_tupN {prog : Program} {w : World} {A : Around} {E : Value → Shared → Prop} {s : Shared} {h₀ : Heap} {L : Addr} {news : List (Addr × Obj)} {value slice : PySem.Expr} {a : Addr} {vs : List Value} {k : Int} {t : Tok} {v : Value} {Q : Value → Shared → Prop} (N : News h₀ L s.heap news) (hm : (a, tupOf vs) ∈ news) (h0 : 0 ≤ k) (h1 : k < 1000) (hv : vs[k.toNat]? = some v) (h : Q v s)
    (hs : subscripted slice false (.ref a) (.int k t) = operate [.ref a, .int k t] (getItem (.ref a) (.int k t)) := by with_unfolding_all rfl) :
    wpAny (model prog w) A (subscriptTail value slice (.ref a) (.int k t)) Q E s := by
  have hlt : k.toNat < vs.length := (List.getElem?_eq_some_iff.mp hv).1
  exact item_tupleT (l := vs) ⟨_, (N _ hm).1, rfl, 0, rfl⟩ (by omega) (by omega) (j := k.toNat) (by simp [seqIndex?]; omega) hv h hs
/-- how many faults of 0 the law counts -/
noncomputable def wrongN (tbl : List (Int × T3)) : Nat := (if (walkF tbl (tbl.length + 1) [] 0).isNone then 1 else 0) + (zeroF tbl).length
theorem walkF_len {t : List (Int × T3)} : ∀ (n : Nat) (found : List Int) (here : Int) (r : List Int), walkF t n found here = some r → r.length ≤ found.length + n := by
  intro n
  induction n with
  | zero => intro found here r h; cases h
  | succ n ih =>
    intro found here r h
    unfold walkF at h
    split at h
    · split at h
      · split at h
        · cases h; omega
        · split at h
          · cases h
          · have := ih _ _ _ h
            rw [List.length_append, List.length_singleton] at this
            omega
      · cases h
    · cases h
theorem freeOf_len (t : List (Int × T3)) : (freeOf t).length ≤ t.length := by
  have h1 := List.length_filter_le (freeP t) (srt (t.map (·.1)))
  rw [(srt_perm _).length_eq, List.length_map] at h1
  exact h1
theorem zeroF_len (t : List (Int × T3)) : (zeroF t).length ≤ 1 := by
  unfold zeroF
  split
  · split
    · exact Nat.le_refl _
    · exact Nat.zero_le _
  · exact Nat.zero_le _
theorem faultsOf_len (t : List (Int × T3)) : (faultsOf t).length ≤ t.length + 2 := by
  unfold faultsOf
  rw [List.length_append, List.length_append]
  have h1 := zeroF_len t
  have h2 := List.length_filter_le (overP t ((walkF t (t.length + 1) [] 0).getD (freeOf t))) (freeOf t)
  have h3 := freeOf_len t
  have h4 : (if (walkF t (t.length + 1) [] 0).isNone then [(0 : Int)] else []).length ≤ 1 := by split <;> simp
  omega
noncomputable def lastS : List Stmt → Option Stmt
  | [] => none
  | [a] => some a
  | _ :: b :: r => lastS (b :: r)
noncomputable def fnBody : Option Stmt → List Stmt
  | some (.FunctionDef _ _ b _ _ _ _ _ _ _) => b
  | _ => []
noncomputable def fnScope : Option Stmt → Scope
  | some (.FunctionDef _ _ _ _ _ _ s _ _ _) => s
  | _ => default
noncomputable def forBody : Option Stmt → List Stmt
  | some (.For _ _ b _ _) => b
  | _ => []
noncomputable def nthS : List Stmt → Nat → Option Stmt
  | [], _ => none
  | a :: _, 0 => some a
  | _ :: r, n + 1 => nthS r n
noncomputable def lawDef : Option Stmt := lastS PySem.Challenge.pw_nn0193_01.main.body
noncomputable def lawScope : Scope := fnScope lawDef
noncomputable def lapBody : List Stmt := forBody (nthS (fnBody lawDef) 11)
noncomputable def lapRest : List Stmt := lapBody.drop 4
noncomputable def lawEnv (L fa : Addr) (c : Value) : Env := envOfC (Str.ofString "law") lawScope L fa c
noncomputable def lawRest4 : List Stmt := (fnBody lawDef).drop 4
noncomputable def lawRest7 : List Stmt := (fnBody lawDef).drop 7
noncomputable def lawRest10 : List Stmt := (fnBody lawDef).drop 10
end
section
set_option maxRecDepth 100000
set_option maxHeartbeats 100000000
local macro_rules | `(tactic| walk_at "call ref") => `(tactic| k_data)
local macro_rules | `(tactic| walk_at "exec For Tuple Call cons nil") => `(tactic| k_data)
local macro_rules | `(tactic| walk_at "compareOp NotEq ref ref") => `(tactic| k_data)
local macro_rules | `(tactic| walk_at "exec Assign cons ListComp") => `(tactic| k_data)
local macro_rules | `(tactic| walk_at "eval BoolOp") => `(tactic| k_data)
local macro_rules | `(tactic| walk_at "eval IfExp") => `(tactic| k_data)
local macro_rules | `(tactic| walk_at "exec If") => `(tactic| (w_left; (with_reducible show wpAny _ _ (exec (Stmt.If (PySem.Expr.BoolOp BoolOp.And _ _) _ _ _) _) _ _ _); refine Stop.mk ?_))
local macro_rules | `(tactic| walk_at "exec Assign") => `(tactic| (w_left; (with_reducible show wpAny _ _ (exec (Stmt.Assign [Expr.Name (PySem.Str.ofString "wrong") _] _ _) _) _ _ _); refine Stop.mk ?_))
local macro_rules | `(tactic| k_inst) => `(tactic| (exact inst_nw ‹_› (by k_mem) (by k_mem)))
local macro_rules | `(tactic| walk_at "binaryOp Add ref ref") => `(tactic| ((with_reducible show wpAny _ _ (binaryOp _ (Value.ref _) (Value.ref _)) _ _ _); k_dflt (refine' kmk_add_ints ?F ?N ?a ?b ?i ?j ?_ ?z; (case F | N => assumption); (case a | b => walk_at "m islist"); (case i | j => walk_at "m ints"); (case z => (rw [sizeLine_eq]; (try simp only [List.length_cons, List.length_nil]); omega))); intro D' us' h' F' N' l1' hI'; (try k_lt l1')))
local macro_rules | `(tactic| walk_at "subscriptTail") => `(tactic| ((with_reducible show wpAny _ _ (subscriptTail _ _ (Value.ref _) (Value.int _ _)) _ _ _); k_dflt (first | (refine' item_dict (by walk_at "m dict") ‹_› ?_; k_whole) | (refine' item_tupN ‹_› (by k_mem) (by decide) (by decide) (by exact rfl) ?_; k_whole))))
local macro_rules | `(tactic| walk_at "execs cons") => `(tactic| (w_left; (with_reducible show wpAny _ _ (execs (Stmt.Assign [Expr.Name (PySem.Str.ofString "told_rows") _] _ _ :: _) _) _ _ _); refine Stop.mk ?_))
local macro_rules | `(tactic| walk_at "execs cons") => `(tactic| (w_left; (with_reducible show wpAny _ _ (execs (Stmt.For (PySem.Expr.Tuple _ _ _) _ _ _ _ :: _) _) _ _ _); refine Stop.mk ?_))
local macro_rules | `(tactic| walk_at "execs cons") => `(tactic| (w_left; (with_reducible show wpAny _ _ (execs (Stmt.For (PySem.Expr.Name (PySem.Str.ofString "number") _) _ _ _ _ :: _) _) _ _ _); refine Stop.mk ?_))
theorem lap_rest {w : World} {s₀ s₁ : Shared} {mg mb : Str → Option Value} {fa w10 : Addr} {L : Nat} {P C nL gD rD kD TR LD dD S : Addr} {vn vn2 va ve vf vw vp : Option Value} {o4 : Obj} {vsN : List Value} {cN : Nat} {nums : List Int} {gt : List (Int × Int)} {rt : List (Int × T3)} {i : Nat} {t : Tok} {h hX0 : Heap} {tkX0 tk : Nat} {I : Addr} {own rest : List (Addr × Obj)} {x2 : Pen} {o2' o3' oTD oI : Obj} {cv : Option Value} {tD : Addr} {kvD : List (Int × Value)} {tbl : List (Int × T3)} {Qn : Flow → Shared → Prop} {rest5 : List (Addr × Obj)} {oEn o6 : Obj} {eD fD : Addr} {kEn : List (Int × Value)} {gv : Value} {ys : List Value} {ep wn tk11 : Nat} {tw : Tok} {h11 : Heap}
  (KX : (hd.heap_39 w.params).In s₁.heap) (T : Top hd.view_39 (looseW hd.view_39 [Str.ofString "PaperError"]) (ExcName.means s₀.heap) mg mb s₁.heap) (K : Below callerA s₁.heap [] s₁.heap) (q1 : @Ne Nat P (L + 1)) (q2 : @Ne Nat P (L + 1 + 1)) (q3 : @Ne Nat P (L + 1 + 1 + 1)) (q4 : @Ne Nat C (L + 1)) (q5 : @Ne Nat C (L + 1 + 1)) (q6 : @Ne Nat C (L + 1 + 1 + 1)) (q7 : @Ne Nat P C) (hiN : IntsAre vsN nums) (hnd : nums.Nodup) (hpos : ∀ k ∈ nums, 0 < k) (hrk : (rt.map (·.1)).Nodup) (hrb1 : ∀ p ∈ rt, 0 < p.1 ∧ p.1 ∉ nums) (hrb2 : ∀ p ∈ rt, p.2.1 ≠ ("free" : Str)) (hnl : nums.length ≤ 12) (hi : i < 3) (d2' : o2'.data = .cell (some (.ref tD))) (loTD : (tD == sysModules) = false) (hdTD : oTD.IsDictOf (intKind PR w) kvD) (alTD : Al (fun p r => p.1 = r.1 ∧ RowAt (inL rest) p.2 r.2) kvD tbl) (hgT : GoodT tbl) (hln : tbl.length ≤ 26 + 3 * i) (ht0 : i = 0 → tbl = tab0 nums gt rt) (mNL : (nL, listOf vsN.toArray cN) ∈ rest) (hoI : (I, oI) ∈ own) (hO : ∀ p ∈ (P, x2.p C) :: (C, x2.c) :: (L + 1 + 1 + 1, o3') :: (L + 1 + 1, o2') :: (L + 1, o4) :: rest, @Ne Nat p.1 I) (hln2 : tbl.length ≤ 50) (hkvl : kvD.length ≤ 1000) (hndk : (kvD.map (·.1)).Nodup) (sOff : ∀ p ∈ rest, @Ne Nat p.1 I) (diEn : oEn.IsDictOf (intKind PR w) kEn) (loEn : (eD == sysModules) = false) (hfree : IntsAre ys (freeOf tbl)) (zP : ∀ p ∈ rest5, p.1 ≠ P) (zC : ∀ p ∈ rest5, p.1 ≠ C) (zz1 : ∀ p ∈ rest5, p.1 ≠ L + 1) (zz2 : ∀ p ∈ rest5, p.1 ≠ L + 1 + 1) (zz3 : ∀ p ∈ rest5, p.1 ≠ L + 1 + 1 + 1) (mF5 : (fD, listOf ys.toArray ep) ∈ rest5) (mT5 : (tD, oTD) ∈ rest5) (mN5 : (nL, listOf vsN.toArray cN) ∈ rest5) (mI5 : (I, oI) ∈ rest5) (mO5 : ∀ p ∈ own, p ∈ rest5) (mR5 : ∀ p ∈ rest, p ∈ rest5) (mE5 : (eD, oEn) ∈ rest5) (alT5 : Al (fun p (r : Int × T3) => p.1 = r.1 ∧ RowAt (inL rest5) p.2 r.2) kvD tbl) (alE5 : Al (fun p (r : Int × T3) => p.1 = r.1 ∧ EntAt w (inL rest5) p.2 r.2) kEn tbl) (g5 : GV rest5 gv (walkF tbl (tbl.length + 1) [] 0)) (hbd : ∀ p ∈ tbl, 0 ≤ p.2.2.1 ∧ p.2.2.1 < 1000000) (hndE : (kEn.map (·.1)).Nodup) (d6 : o6.data = .cell (some gv)) (u5 : ∀ p ∈ rest5, p ∈ (P, x2.p C) :: (C, x2.c) :: (L + 1 + 1 + 1, o6) :: (L + 1 + 1, o2') :: (L + 1, o4) :: rest5) (hwn : wn = wrongN tbl) (F13 : Fr s₁.heap L h11 (fun y => if y = Str.ofString "wrong" then some (Value.int (wn : Nat) tw) else if y = Str.ofString "free" then some (Value.ref fD) else if y = Str.ofString "entries" then some (Value.ref eD) else if y = Str.ofString "lap" then some (Value.int (0 + (i : Nat)) t) else if y = Str.ofString "entries" then ve else if y = Str.ofString "free" then vf else if y = Str.ofString "wrong" then vw else if y = Str.ofString "passed" then vp else if y = Str.ofString "number" then vn2 else if y = Str.ofString "number" then vn else if y = Str.ofString "at" then va else baseD dD LD TR kD rD gD nL P S y)) (N13 : News s₁.heap L h11 ((P, x2.p C) :: (C, x2.c) :: (L + 1 + 1 + 1, o6) :: (L + 1 + 1, o2') :: (L + 1, o4) :: rest5)) :
  wpAny (model PR w) (callerA.deeper (lawEnv L fa (.ref w10))) (execs lapRest (lawEnv L fa (.ref w10))) (TurnEnd s₁.heap L (LapJ w (fun y => if y = Str.ofString "number" then vn2 else if y = Str.ofString "number" then vn else if y = Str.ofString "at" then va else baseD dD LD TR kD rD gD nL P S y) P C (L + 1) (L + 1 + 1) (L + 1 + 1 + 1) nL o4 (listOf vsN.toArray cN) (tab0 nums gt rt) (i + 1)) I own { s₁ with heap := hX0, toks := tkX0 } Qn) (fun _ _ => False) { s₁ with heap := h11, toks := tk11 } := by
  unfold lawEnv
  conv in lapRest => whnf
  conv in (occs := *) lawScope => all_goals whnf
  dsimp only
  walk_at "m walk"
  refine comp_assign (h₀ := s₁.heap) (cl := [(Str.ofString "table", L + 1 + 1), (Str.ofString "gone_through", L + 1 + 1 + 1)]) rfl ?hswx18 ?hcx18 ?hkx18 ?hnx18 ?hcex18 ?hxx18 ?hyx18 ?hpx18 ?_
  case hswx18 => with_unfolding_all rfl
  case hcx18 => rfl
  case hkx18 => rfl
  case hnx18 => decide
  case hcex18 => decide
  case hxx18 => rfl
  case hyx18 => rfl
  case hpx18 => rfl
  walk_at "m walk"
  obtain ⟨l5, hl5⟩ : ∃ l, l = (P, x2.p C) :: (C, x2.c) :: (L + 1 + 1 + 1, o6) :: (L + 1 + 1, o2') :: (L + 1, o4) :: rest5 := ⟨_, rfl⟩
  have u6 : ∀ p ∈ rest5, p ∈ l5 := fun p hp => hl5 ▸ u5 p hp
  have hflen : (freeOf tbl).length ≤ tbl.length := by
    have h1 := List.length_filter_le (freeP tbl) (srt (tbl.map (·.1)))
    rw [(srt_perm _).length_eq, List.length_map] at h1
    exact h1
  obtain ⟨met, hmet⟩ : ∃ m, m = (walkF tbl (tbl.length + 1) [] 0).getD [] := ⟨_, rfl⟩
  rw [← hl5] at N13
  refine ⟨fD, ys.toArray, _, l5, fun i us nw => nw = l5 ∧ IntsAre us (((freeOf tbl).take i).filter (overP tbl met)), rfl, News.isList N13 (u6 _ mF5), (N13 _ (u6 _ mF5)).2.1, ?hszx18, F13, N13, ⟨rfl, by simp; exact .nil⟩, ?turnx18, ?donex18⟩
  case hszx18 => rw [List.size_toArray, hfree.length]; omega
  case turnx18 =>
    intro I' hp' hIT i' v us nw h tk own' C' oC' D ep' mC hi' hyl hP hJ hoC hv hown' hn hfp hDC F1 N1
    obtain ⟨rfl, a1⟩ := hJ
    change Fr s₁.heap L h _ at F1
    change News s₁.heap L h _ at N1
    obtain ⟨k, tk0, hk, rfl⟩ := ints_get hfree (by simpa using hP)
    obtain ⟨kx, hkx, hkk⟩ : ∃ kx, kx ∈ kvD ∧ kx.1 = k := by
      have : k ∈ freeOf tbl := List.mem_of_getElem? hk
      have := (List.mem_filter.mp this).1
      rw [(srt_perm _).mem_iff, ← al_keys alT5] at this
      exact List.mem_map.mp this
    obtain ⟨j, hj⟩ := List.getElem?_of_mem hkx
    obtain ⟨r, hr, hkr, ⟨a, t0, t1, t2, hae, ha⟩⟩ := alT5.get hj
    obtain ⟨kk, va⟩ := kx
    dsimp only at hkk hae hkr
    subst hkk hae
    have hva : valueAt kvD kk = some (.ref a) := valueAt_of_get hndk hj
    obtain ⟨k', way, one, two⟩ := r
    dsimp only at hkr
    subst hkr
    have hgr : gAt tbl kk = some (way, one, two) := gAt_of_get (al_keys alT5 ▸ hndk) hr
    have hCD : @LT.lt Nat _ D C' := hDC
    obtain ⟨restX, hX⟩ : ∃ r, r = own' ++ nw := ⟨_, rfl⟩
    have s5 : ∀ p ∈ nw, p ∈ restX := fun p hp => hX ▸ List.mem_append_right _ hp
    have maX : (a, tupOf [.str way t0, .int one t1, .int two t2]) ∈ restX := s5 _ (u6 _ ha)
    have mTX : (tD, oTD) ∈ restX := s5 _ (u6 _ mT5)
    have gX : GV restX gv (walkF tbl (tbl.length + 1) [] 0) := g5.le fun p hp => s5 _ (u6 _ hp)
    have N3 : News s₁.heap L h ((C', oC') :: (D, listOf us.toArray ep') :: (L + 1 + 1, o2') :: (L + 1 + 1 + 1, o6) :: restX) := news_sub N1 (fun p hp => by
      revert hp; revert p; walk_at "m all"
      · exact .head _
      · exact .tail _ (.head _)
      · rw [hl5]; simp
      · rw [hl5]; simp
      · intro p q; rw [hX] at q; exact .tail _ (.tail _ q))
    have hend3 : ∀ p ∈ (C', oC') :: (D, listOf us.toArray ep') :: (own' ++ nw), p ∈ (C', oC') :: (D, listOf us.toArray ep') :: (L + 1 + 1, o2') :: (L + 1 + 1 + 1, o6) :: restX := fun p hp => by
      rw [← hX] at hp
      revert hp; revert p; walk_at "m subl"
    (try clear N1); (try clear N13); (try clear F13); (try clear alE5); (try clear hbd); (try clear hndE); (try clear sOff); (try clear mO5); (try clear mR5); (try clear mI5); (try clear mN5); (try clear zP); (try clear zC); (try clear zz1); (try clear zz2); (try clear zz3); (try clear diEn); (try clear loEn); (try clear mE5); (try clear alT5); (try clear ha); (try clear hr); (try clear hkx); (try clear hj); (try clear ht0); (try clear hgT); (try clear hyl); (try clear hown'); (try clear hP)
    walk_at "m walk"
    obtain ⟨mF3, F3, hmF3⟩ : ∃ mF3, Fr s₁.heap L h mF3 ∧ mF3 = _ := ⟨_, F1, rfl⟩
    obtain ⟨lX, hlX⟩ : ∃ l, l = (C', oC') :: (D, listOf us.toArray ep') :: (L + 1 + 1, o2') :: (L + 1 + 1 + 1, o6) :: restX := ⟨_, rfl⟩
    obtain ⟨Mid, hMid⟩ : ∃ M : Value → Shared → Prop, M = (fun v s' => ∃ (ld : Addr) (lv : List Value) (lc : Nat) (h' : Heap) (tk : Nat), v = .ref ld ∧ s' = { s₁ with heap := h', toks := tk } ∧ Fr s₁.heap L h' mF3 ∧ News s₁.heap L h' ((ld, listOf lv.toArray lc) :: lX) ∧ IntsAre lv met) := ⟨_, rfl⟩
    refine wpAny_mono (Q := Mid) ?trx19 ?contx19 (fun _ _ x => x)
    case trx19 =>
      (try clear maX); (try clear mTX); (try clear hgr); (try clear hva); (try clear hend3); (try clear hn); (try clear hfp); (try clear hfree); (try clear a1); (try clear u6); (try clear s5); (try clear F3)
      have pm : PassMark := passMark
      rcases gX with ⟨rfl, eo⟩ | ⟨d, vs', c', ns', rfl, hm', hi2, eo⟩
      · repeat' (first | walk1 | (dsimp only; walk1))
        rename_i lZ hZ FZ NZ hkZ lZ'
        rw [hMid]
        exact ⟨lZ, [], 0, _, _, rfl, rfl, (by rw [hmF3]; exact FZ), (by rw [hlX]; exact NZ), by rw [hmet, eo]; exact .nil⟩
      · have hn1 : ns'.length ≤ 1000 := by
          have := walkF_len _ _ _ _ eo
          rw [List.length_nil] at this; omega
        repeat' (first | walk1 | (dsimp only; walk1))
        · rw [hMid]
          refine ⟨d, vs', c', _, _, rfl, rfl, (by rw [hmF3]; exact F1), fun p hp => ?_, by rw [hmet, eo]; exact hi2⟩
          rcases List.mem_cons.mp hp with q | q
          · rw [q]; exact N3 _ (by simp [hm'])
          · rw [hlX] at q; exact N3 _ q
        · rename_i h0 lZ hZ FZ NZ hkZ lZ'
          rw [hMid]
          have hnil : ns' = [] := List.eq_nil_of_length_eq_zero (by omega)
          exact ⟨lZ, [], 0, _, _, rfl, rfl, (by rw [hmF3]; exact FZ), (by rw [hlX]; exact NZ), by rw [hmet, eo, hnil]; exact .nil⟩
    case contx19 =>
      rw [hMid]
      rintro v s' ⟨ld, lv2, lc, h4, tk4, rfl, rfl, F4, N4, hi4⟩
      rw [hlX] at N4
      rw [hmF3] at F4
      (try clear hmF3); (try clear hMid); (try clear F3)
      (try clear gX); (try clear N3); (try clear F1)
      walk_at "m walk"
      · rename_i _ _ hany
        refine CompEnd.intro nw F4 (news_sub N4 fun p hp => .tail _ (hend3 p hp)) hn ⟨rfl, ?_⟩
        rw [filter_take_neg hk (by unfold overP; rw [hany]; rfl)]
        exact a1
      · rename_i _ _ hany
        with_unfolding_all refine slice_tuple_from (a := 1) F4 N4 (News.isTup N4 (.tail _ (.tail _ (.tail _ (.tail _ (.tail _ maX)))))) (by decide) (by simp) ?_
        intro h9 F9 N9
        dsimp only at N9 ⊢
        have pm : PassMark := passMark
        walk_at "m walk"
        all_goals (try clear pm)
        · rename_i D9 h10 F10 N10 hk9 l9 hpe
          refine CompEnd.intro nw F10 (news_sub N10 fun p hp => .tail _ (.tail _ (.tail _ (hend3 p hp)))) hn ⟨rfl, ?_⟩
          rw [filter_take_neg hk (by
            unfold overP
            rw [hany, hgr]
            show (!false && (one != 0 || two != 65535)) = false
            simp only [bne, ← Bool.not_and, hpe]; rfl)]
          exact a1
        · rename_i D9 h10 F10 N10 hk9 l9 hpe
          refine CompEnd.intro nw F10 (news_sub N10 fun p hp => .tail _ (.tail _ (.tail _ (hend3 p hp)))) hn ⟨rfl, ?_⟩
          rw [filter_take_pos hk (by
            unfold overP
            rw [hany, hgr]
            show (!false && (one != 0 || two != 65535)) = true
            simp only [bne, ← Bool.not_and, hpe]; rfl)]
          exact ksk_snoc a1
  case donex18 =>
    intro pD h12 tk12 ep2 us nw hJ F14 N14 hne2 hyl
    obtain ⟨rfl, a1⟩ := hJ
    have hpass : IntsAre us ((freeOf tbl).filter (overP tbl met)) := by
      have : ys.toArray.size = (freeOf tbl).length := by rw [List.size_toArray, hfree.length]
      rw [this, List.take_length] at a1
      exact a1
    (try clear a1); (try clear N13); (try clear F13); (try clear hyl)
    subst hl5
    change Fr s₁.heap L h12 _ at F14
    change News s₁.heap L h12 _ at N14
    obtain ⟨rest6, hrest6⟩ : ∃ r, r = (pD, listOf us.toArray ep2) :: rest5 := ⟨_, rfl⟩
    have sR : ∀ p ∈ rest5, p ∈ rest6 := fun p hp => hrest6 ▸ .tail _ hp
    have yP : ∀ p ∈ rest6, p.1 ≠ P := hrest6 ▸ all_cons (Ne.symm (hne2 (P, _) (by k_mem))) zP
    have yC : ∀ p ∈ rest6, p.1 ≠ C := hrest6 ▸ all_cons (Ne.symm (hne2 (C, _) (by k_mem))) zC
    have y1 : ∀ p ∈ rest6, p.1 ≠ L + 1 := hrest6 ▸ all_cons (Ne.symm (hne2 (L + 1, _) (by k_mem))) zz1
    have y2 : ∀ p ∈ rest6, p.1 ≠ L + 1 + 1 := hrest6 ▸ all_cons (Ne.symm (hne2 (L + 1 + 1, _) (by k_mem))) zz2
    have y3 : ∀ p ∈ rest6, p.1 ≠ L + 1 + 1 + 1 := hrest6 ▸ all_cons (Ne.symm (hne2 (L + 1 + 1 + 1, _) (by k_mem))) zz3
    have N15 : News s₁.heap L h12 ((P, x2.p C) :: (C, x2.c) :: (L + 1 + 1 + 1, o6) :: (L + 1 + 1, o2') :: (L + 1, o4) :: rest6) := news_sub N14 (by rw [hrest6]; walk_at "m subl")
    have mP6 : (pD, listOf us.toArray ep2) ∈ rest6 := hrest6 ▸ .head _
    have mT6 := sR _ mT5
    have mN6 := sR _ mN5
    have mI6 := sR _ mI5
    have mO6 : ∀ p ∈ own, p ∈ rest6 := fun p hp => sR _ (mO5 _ hp)
    have mR6 : ∀ p ∈ rest, p ∈ rest6 := fun p hp => sR _ (mR5 _ hp)
    have mE6 := sR _ mE5
    have alT6 : Al (fun p (r : Int × T3) => p.1 = r.1 ∧ RowAt (inL rest6) p.2 r.2) kvD tbl := alT5.mono fun p r z => ⟨z.1, z.2.le fun a o e => sR _ e⟩
    have alE6 : Al (fun p (r : Int × T3) => p.1 = r.1 ∧ EntAt w (inL rest6) p.2 r.2) kEn tbl := alE5.mono fun p r z => ⟨z.1, z.2.le fun a o e => sR _ e⟩
    have g6 : GV rest6 gv (walkF tbl (tbl.length + 1) [] 0) := g5.le sR
    have hkb : ∀ p ∈ tbl, p.1 < 1000000 := fun p hp => Int.lt_trans (hgT p hp).1.2 (by decide)
    have u7 : ∀ p ∈ rest6, p ∈ ((P, x2.p C) :: (C, x2.c) :: (L + 1 + 1 + 1, o6) :: (L + 1 + 1, o2') :: (L + 1, o4) :: rest6) := fun p hp => by simp [hp]
    (try clear N14); (try clear hne2); (try clear zP); (try clear zC); (try clear zz1); (try clear zz2); (try clear zz3); (try clear mT5); (try clear mN5); (try clear mI5); (try clear mO5); (try clear mR5); (try clear mE5); (try clear alT5); (try clear alE5); (try clear g5); (try clear u5); (try clear sR); (try clear hrest6); (try clear mF5); (try clear u6)
    walk_at "m walk"
    refine comp_firsts (cl := []) rfl F14 ?hcx21 ?hcellx21 ?hkx21 ?hnx21 ?hxx21 ?hx2x21 ?hxxx21 ?hdx21 ?_
    case hcx21 => rfl
    case hcellx21 => decide
    case hkx21 => rfl
    case hnx21 => decide
    case hxx21 => rfl
    case hx2x21 => rfl
    case hxxx21 => decide
    case hdx21 => decide
    walk_at "m walk"
    refine' faults_call K F14 KX T KX T N15 ?f1x21 ?f2x21 ?d1x21 ?d2x21 (kda_dict N15 (u7 _ mE6) diEn) (N15 _ (u7 _ mE6)).2.1 loEn (alE6.mono fun p r z => ⟨z.1, z.2.le fun a o e => ⟨N15.get (u7 _ e), (N15 _ (u7 _ e)).2.1⟩⟩) ?lnx21 hndE hbd hkb ?_
    case f1x21 => exact rfl
    case f2x21 => exact rfl
    case d1x21 => decide
    case d2x21 => decide
    case lnx21 => omega
    intro fa2 outF h13 tk13 fvs fc F16 N16 hnew16 hmF16 alF
    refine ⟨fa2, fvs, fc, _, faultsOf tbl, outF, rfl, F16, N16, List.mem_append_left _ hmF16, Nat.le_trans (faultsOf_len tbl) (by omega), alF, fun p hp => List.mem_append_left _ hp, ?_⟩
    intro qD h14 tk14 qs F17 N17 hne17 hiQ
    have N18 : News s₁.heap L h14 ((P, x2.p C) :: (C, x2.c) :: (L + 1 + 1 + 1, o6) :: (L + 1 + 1, o2') :: (L + 1, o4) :: (qD, listOf qs.toArray qs.length) :: rest6) := news_sub N17 (by walk_at "m subl")
    have a1 : @Ne Nat qD P := Ne.symm (hne17 (P, _) (List.mem_append_right _ (by k_mem)))
    have a2 : @Ne Nat qD C := Ne.symm (hne17 (C, _) (List.mem_append_right _ (by k_mem)))
    (try clear hnew16); (try clear hmF16); (try clear alF); (try clear N16); (try clear F16); (try clear N17); (try clear hne17); (try clear N15); (try clear F14); (try clear alE6); (try clear mE6); (try clear hbd); (try clear hkb); (try clear hndE); (try clear diEn); (try clear loEn)
    dsimp only
    walk_at "m walk"
    rename_i lZ hZ FZ NZ hkZ lZ'
    have hwn2 : wn ≤ 2 := by
      rw [hwn]; unfold wrongN
      have := zeroF_len tbl
      split <;> omega
    refine KM.mul FZ NZ (News.isList NZ (.head _)) (.cons _ _ .nil) (by omega) (by omega) (by simp only [List.length_singleton]; omega) ?_
    intro mD h15 F18 N19 lm hmi Nn _ _ _ _
    have hrep : (List.replicate (wn : Int).toNat [(0 : Int)]).flatten = List.replicate wn 0 := by rw [Int.toNat_natCast, List.flatten_replicate_singleton]
    rw [hrep] at hmi
    generalize (List.replicate (wn : Int).toNat [Value.int 0 tk14]).flatten = mvs at N19 hmi
    obtain ⟨lX, hlX⟩ : ∃ l, l = (mD, listOf mvs.toArray 0) :: (P, x2.p C) :: (C, x2.c) :: (L + 1 + 1 + 1, o6) :: (L + 1 + 1, o2') :: (L + 1, o4) :: (qD, listOf qs.toArray qs.length) :: rest6 := ⟨_, rfl⟩
    have N20 : News s₁.heap L h15 lX := news_sub N19 (by rw [hlX]; walk_at "m subl")
    rw [hlX] at N20
    (try clear N19); (try clear hkZ); (try clear lZ'); (try clear NZ); (try clear FZ); (try clear lm)
    walk_at "m walk"
    obtain ⟨pl, hpl⟩ : ∃ l, l = (if (walkF tbl (tbl.length + 1) [] 0).isSome then (freeOf tbl).filter (overP tbl met) else []) := ⟨_, rfl⟩
    obtain ⟨mF4, F19, hmF4⟩ : ∃ mF4, Fr s₁.heap L h15 mF4 ∧ mF4 = _ := ⟨_, F18, rfl⟩
    obtain ⟨Mid, hMid⟩ : ∃ M : Value → Shared → Prop, M = (fun v s' => ∃ (ld : Addr) (lv : List Value) (lc : Nat) (h' : Heap) (tk : Nat), v = .ref ld ∧ s' = { s₁ with heap := h', toks := tk } ∧ Fr s₁.heap L h' mF4 ∧ News s₁.heap L h' ((ld, listOf lv.toArray lc) :: lX) ∧ IntsAre lv pl) := ⟨_, rfl⟩
    refine wpAny_mono (Q := Mid) ?trx22 ?contx22 (fun _ _ x => x)
    case trx22 =>
      have hpass9 := hpass
      (try clear F19); (try clear alT6); (try clear hfree); (try clear hpass); (try clear mR6); (try clear mO6); (try clear yP); (try clear yC); (try clear y1); (try clear y2); (try clear y3)
      have pm : PassMark := passMark
      repeat' (first | walk1 | (dsimp only; walk1))
      refine isnot_gv g6 ?_
      repeat' (first | walk1 | (dsimp only; walk1))
      · rename_i hs9
        rw [hMid]
        refine ⟨pD, us, ep2, _, _, rfl, rfl, (by rw [hmF4]; exact F18), fun p hp => ?_, by rw [hpl, if_pos hs9]; exact hpass9⟩
        rcases List.mem_cons.mp hp with q | q
        · rw [q]; exact N20 _ (by simp [mP6])
        · rw [hlX] at q; exact N20 _ q
      · rename_i hs9 lZ hZ FZ NZ hkZ lZ'
        rw [hMid]
        exact ⟨lZ, [], 0, _, _, rfl, rfl, (by rw [hmF4]; exact FZ), (by rw [hlX]; exact NZ), by rw [hpl, if_neg (by rw [hs9]; decide)]; exact .nil⟩
    case contx22 =>
      rw [hMid]
      rintro v s' ⟨ld, lv2, lc, h16, tk16, rfl, rfl, F20, N21, hi20⟩
      rw [hmF4] at F20
      (try clear hmF4); (try clear hMid); (try clear F19); (try clear F18); (try clear N20)
      subst hlX
      have hlaw := faults_law tbl wn hwn
      rw [← hmet, ← hpl] at hlaw
      (try dsimp only)
      walk_at "m walk"
      have hpll : pl.length ≤ tbl.length := by
        rw [hpl]
        split
        · exact Nat.le_trans (List.length_filter_le _ _) (freeOf_len tbl)
        · exact Nat.zero_le _
      refine kmk_add_ints F20 N21 (News.isList N21 (.tail _ (.head _))) (News.isList N21 (.head _)) hmi hi20 ?_ (by rw [sizeLine_eq, List.length_replicate]; omega)
      intro aD avs h17 F22 N22 l22 hia
      rw [← hlaw] at hia
      (try dsimp only)
      walk_at "m walk"
      refine ne_ints (News.isList N22 (.tail _ (.tail _ (.tail _ (.tail _ (.tail _ (.tail _ (.tail _ (.tail _ (.head _))))))))) ) (News.isList N22 (.head _)) hiQ hia (by ke_room) ?_
      have N23 : News s₁.heap L h17 ((P, x2.p C) :: (C, x2.c) :: (L + 1 + 1 + 1, o6) :: (L + 1 + 1, o2') :: (L + 1, o4) :: rest6) := news_sub N22 (by walk_at "m subl")
      (try clear N22); (try clear l22); (try clear hia); (try clear N21); (try clear F20); (try clear hi20); (try clear hmi); (try clear hiQ); (try clear hlaw); (try clear hpll); (try clear hpl); (try clear a1); (try clear a2)
      (try dsimp only)
      walk_at "m walk"
      obtain ⟨mF5, F23, hmF5⟩ : ∃ mF5, Fr s₁.heap L h17 mF5 ∧ mF5 = _ := ⟨_, F22, rfl⟩
      obtain ⟨Mid2, hMid2⟩ : ∃ M : Flow → Shared → Prop, M = (fun f s' => f = .next ∧ ∃ (h' : Heap) (tk : Nat), s' = { s₁ with heap := h', toks := tk } ∧ Fr s₁.heap L h' mF5 ∧ News s₁.heap L h' ((P, x2.p C) :: (C, x2.c) :: (L + 1 + 1 + 1, o6) :: (L + 1 + 1, o2') :: (L + 1, o4) :: rest6)) := ⟨_, rfl⟩
      refine wpAny_mono (Q := Mid2) ?trx24 ?contx24 (fun _ _ x => x)
      case trx24 =>
        (try clear alT6); (try clear mR6); (try clear mO6); (try clear yP); (try clear yC); (try clear y1); (try clear y2); (try clear y3); (try clear F23)
        have pm : PassMark := passMark
        (first | walk1 | (dsimp only; walk1))
        clear pm
        walk_at "m walk"
        · rename_i hi0 sD2 sC2 hS2 svs2 sns2 FS2 NS2 hiS2 hpS2 hoS2 hkS2 lS2
          have et : tbl = tab0 nums gt rt := ht0 (by omega)
          have hwalk : walkF tbl (tbl.length + 1) [] 0 = some (srt nums) := by rw [et]; exact tab0_walkF hnd hpos hrk hrb1
          have hfr : freeOf tbl = srt nums := by rw [et]; exact tab0_free hnd hpos hrk hrb1 hrb2
          have hzf : zeroF tbl = [] := by
            obtain ⟨one, e⟩ := tab0_zero (gt := gt) hnd hpos hrk hrb1
            unfold zeroF; rw [et, e]; rfl
          have hw0 : wn = 0 := by rw [hwn]; unfold wrongN; rw [hwalk, hzf]; rfl
          have hnil : (freeOf tbl).filter (overP tbl met) = [] := by
            rw [hmet, hwalk, Option.getD_some, ← hfr]
            exact over_self tbl (freeOf tbl) fun k hk => hk
          rw [hnil] at hpass
          have hsn : sns2 = srt nums := srt_of hpS2 hoS2
          have gS : GV ((sD2, listOf svs2.toArray sC2) :: (P, x2.p C) :: (C, x2.c) :: (L + 1 + 1 + 1, o6) :: (L + 1 + 1, o2') :: (L + 1, o4) :: rest6) (.ref sD2) (walkF tbl (tbl.length + 1) [] 0) := .inr ⟨sD2, svs2, sC2, sns2, rfl, .head _, hiS2, by rw [hwalk, hsn]⟩
          (try dsimp only)
          refine ne_gv NS2 (g6.le fun p hp => .tail _ (u7 p hp)) gS (by ke_room) ?_
          have hfl : ([] : List Int).length ≤ 1000 := Nat.zero_le _
          walk_at "m walk"
          · rename_i hz
            exfalso
            rw [hw0] at hz
            exact absurd hz (by decide)
          · rw [hMid2]
            exact ⟨rfl, _, _, rfl, (by rw [hmF5]; exact FS2), news_sub NS2 fun p hp => .tail _ hp⟩
        · rw [hMid2]
          exact ⟨rfl, _, _, rfl, (by rw [hmF5]; exact F22), N23⟩
      case contx24 =>
        rw [hMid2]
        rintro f s' ⟨rfl, h18, tk18, rfl, F24, N24⟩
        rw [hmF5] at F24
        (try clear hmF5); (try clear hMid2); (try clear F23); (try clear F22); (try clear N23)
        (try dsimp only)
        walk_at "m walk"
        refine' turned_call K F24 KX T N24 ?U1x25 ?U2x25 q7 ?f1x25 ?f2x25 ?d1x25 ?d2x25 (kda_dict N24 (u7 _ mT6) hdTD) (yP _ mT6) (yC _ mT6) loTD (R := inL rest) (fun a o e => ⟨N24.get (u7 _ (mR6 _ e)), yP _ (mR6 _ e), yC _ (mR6 _ e)⟩) alTD hln2 hndk hgT ?_
        case U1x25 => k_updF
        case U2x25 => intro _; k_updF
        case f1x25 => exact rfl
        case f2x25 => exact rfl
        case d1x25 => decide
        case d2x25 => decide
        intro nT outT h19 tk19 x3 tbl3 F25 N25 hnew25 hq91 hgT3 hln3
        obtain ⟨oT3, kT3, hmT3, hdT3, loT3, alT3⟩ := hq91
        (try dsimp only at N25)
        have fr := news_fresh N24 hnew25
        have mI : (I, oI) ∈ rest6 := mI6
        have sT : ∀ p ∈ outT ++ rest, p ∈ outT ++ rest6 := fun p hp => by
          rcases List.mem_append.mp hp with q | q
          · exact List.mem_append_left _ q
          · exact List.mem_append_right _ (mR6 _ q)
        obtain ⟨rest7, hrest7⟩ : ∃ r, r = outT ++ rest6 := ⟨_, rfl⟩
        rw [← hrest7] at sT
        have N26 : News s₁.heap L h19 ((P, x3.p C) :: (C, x3.c) :: (L + 1 + 1 + 1, o6) :: (L + 1 + 1, o2') :: (L + 1, o4) :: rest7) := news_sub N25 (by rw [hrest7]; walk_at "m subl")
        have zP : ∀ p ∈ rest7, p.1 ≠ P := hrest7 ▸ all_app (fr (P, _) (by k_mem)) yP
        have zC : ∀ p ∈ rest7, p.1 ≠ C := hrest7 ▸ all_app (fr (C, _) (by k_mem)) yC
        have zz1 : ∀ p ∈ rest7, p.1 ≠ L + 1 := hrest7 ▸ all_app (fr (L + 1, _) (by k_mem)) y1
        have zz2 : ∀ p ∈ rest7, p.1 ≠ L + 1 + 1 := hrest7 ▸ all_app (fr (L + 1 + 1, _) (by k_mem)) y2
        have zz3 : ∀ p ∈ rest7, p.1 ≠ L + 1 + 1 + 1 := hrest7 ▸ all_app (fr (L + 1 + 1 + 1, _) (by k_mem)) y3
        have zI : ∀ p ∈ outT ++ rest, p.1 ≠ I := all_app (fr (I, _) (u7 _ mI6)) sOff
        have mO7 : ∀ p ∈ own, p ∈ rest7 := fun p hp => hrest7 ▸ List.mem_append_right _ (mO6 _ hp)
        (try clear N25); (try clear hnew25); (try clear fr); (try clear N24); (try clear F24); (try clear alT6); (try clear yP); (try clear yC); (try clear y1); (try clear y2); (try clear y3)
        walk_at "m walk"
        rename_i h20 o7 F27 N27 d7
        refine TurnEnd.intro ((P, x3.p C) :: (C, x3.c) :: (L + 1 + 1 + 1, o6) :: (L + 1 + 1, o7) :: (L + 1, o4) :: (outT ++ rest)) F27 (news_sub N27 fun p hp => ?_) (fun p hp => ?_) ⟨x3, o7, o6, _, nT, oT3, kT3, tbl3, outT ++ rest, ?_, rfl, fun p hp => ?_, d6, d7, List.mem_append_left _ hmT3, loT3, hdT3, alT3.mono fun p r z => ⟨z.1, z.2.le fun a o e => List.mem_append.mpr e⟩, hgT3, by omega, fun h => by omega, List.mem_append_right _ mNL⟩
        · rcases List.mem_append.mp hp with q | q
          · exact List.mem_cons_of_mem _ (List.mem_cons_of_mem _ (List.mem_cons_of_mem _ (List.mem_cons_of_mem _ (List.mem_cons_of_mem _ (mO7 _ q)))))
          · clear hp; revert q; revert p; walk_at "m all"
            · k_mem
            · k_mem
            · k_mem
            · k_mem
            · k_mem
            · intro p q; exact List.mem_cons_of_mem _ (List.mem_cons_of_mem _ (List.mem_cons_of_mem _ (List.mem_cons_of_mem _ (List.mem_cons_of_mem _ (sT _ (by k_mem))))))
            · intro p q; exact List.mem_cons_of_mem _ (List.mem_cons_of_mem _ (List.mem_cons_of_mem _ (List.mem_cons_of_mem _ (List.mem_cons_of_mem _ (sT _ (by k_mem))))))
        · revert hp; revert p; walk_at "m all"
          · exact hO (P, x2.p C) (by k_mem)
          · exact hO (C, x2.c) (by k_mem)
          · exact hO (L + 1 + 1 + 1, o3') (by k_mem)
          · exact hO (L + 1 + 1, o2') (by k_mem)
          · exact hO (L + 1, o4) (by k_mem)
          · intro p q; exact zI p (by k_mem)
          · intro p q; exact zI p (by k_mem)
        · intro y e1 e2 e3 e4 e5
          simp only [if_neg e1, if_neg e2, if_neg e3, if_neg e4, if_neg e5]
        · have z := sT p hp
          exact ⟨zP p z, zC p z, zz1 p z, zz2 p z, zz3 p z⟩
theorem lap_turn {w : World} {s₀ s₁ : Shared} {mg mb : Str → Option Value} {fa w10 : Addr} {L : Nat} {P C nL gD rD kD TR LD dD S : Addr} {vn vn2 va ve vf vw vp : Option Value} {o4 : Obj} {vsN : List Value} {cN : Nat} {nums : List Int} {gt : List (Int × Int)} {rt : List (Int × T3)} {i : Nat} {t : Tok} {h hX0 : Heap} {tkX0 tk : Nat} {I : Addr} {own rest : List (Addr × Obj)} {x2 : Pen} {o2' o3' oTD oI : Obj} {cv : Option Value} {tD : Addr} {kvD : List (Int × Value)} {tbl : List (Int × T3)} {Qn : Flow → Shared → Prop}
  (KX : (hd.heap_39 w.params).In s₁.heap) (T : Top hd.view_39 (looseW hd.view_39 [Str.ofString "PaperError"]) (ExcName.means s₀.heap) mg mb s₁.heap) (K : Below callerA s₁.heap [] s₁.heap) (q1 : @Ne Nat P (L + 1)) (q2 : @Ne Nat P (L + 1 + 1)) (q3 : @Ne Nat P (L + 1 + 1 + 1)) (q4 : @Ne Nat C (L + 1)) (q5 : @Ne Nat C (L + 1 + 1)) (q6 : @Ne Nat C (L + 1 + 1 + 1)) (q7 : @Ne Nat P C) (hiN : IntsAre vsN nums) (hnd : nums.Nodup) (hpos : ∀ k ∈ nums, 0 < k) (hrk : (rt.map (·.1)).Nodup) (hrb1 : ∀ p ∈ rt, 0 < p.1 ∧ p.1 ∉ nums) (hrb2 : ∀ p ∈ rt, p.2.1 ≠ ("free" : Str)) (hnl : nums.length ≤ 12) (hi : i < 3) (d2' : o2'.data = .cell (some (.ref tD))) (loTD : (tD == sysModules) = false) (hdTD : oTD.IsDictOf (intKind PR w) kvD) (alTD : Al (fun p r => p.1 = r.1 ∧ RowAt (inL rest) p.2 r.2) kvD tbl) (hgT : GoodT tbl) (hln : tbl.length ≤ 26 + 3 * i) (ht0 : i = 0 → tbl = tab0 nums gt rt) (mNL : (nL, listOf vsN.toArray cN) ∈ rest) (hoI : (I, oI) ∈ own) (hoff : ∀ p ∈ rest, p.1 ≠ P ∧ p.1 ≠ C ∧ p.1 ≠ L + 1 ∧ p.1 ≠ L + 1 + 1 ∧ p.1 ≠ L + 1 + 1 + 1) (d3' : o3'.data = .cell cv) (mTD : (tD, oTD) ∈ rest) (hown : ∀ p ∈ own, p.1 = I) (hnI : ∀ p ∈ (P, x2.p C) :: (C, x2.c) :: (L + 1 + 1 + 1, o3') :: (L + 1 + 1, o2') :: (L + 1, o4) :: rest, p.1 ≠ I) (F1 : Fr s₁.heap L h (fun y => if y = Str.ofString "lap" then some (Value.int (0 + (i : Nat)) t) else if y = Str.ofString "entries" then ve else if y = Str.ofString "free" then vf else if y = Str.ofString "wrong" then vw else if y = Str.ofString "passed" then vp else if y = Str.ofString "number" then vn2 else if y = Str.ofString "number" then vn else if y = Str.ofString "at" then va else baseD dD LD TR kD rD gD nL P S y)) (N1 : News s₁.heap L h (own ++ ((P, x2.p C) :: (C, x2.c) :: (L + 1 + 1 + 1, o3') :: (L + 1 + 1, o2') :: (L + 1, o4) :: rest))) :
  wpAny (model PR w) (callerA.deeper (lawEnv L fa (.ref w10))) (execs lapBody (lawEnv L fa (.ref w10))) (TurnEnd s₁.heap L (LapJ w (fun y => if y = Str.ofString "number" then vn2 else if y = Str.ofString "number" then vn else if y = Str.ofString "at" then va else baseD dD LD TR kD rD gD nL P S y) P C (L + 1) (L + 1 + 1) (L + 1 + 1 + 1) nL o4 (listOf vsN.toArray cN) (tab0 nums gt rt) (i + 1)) I own { s₁ with heap := hX0, toks := tkX0 } Qn) (fun _ _ => False) { s₁ with heap := h, toks := tk } := by
  unfold lawEnv
  conv in lapBody => whnf
  conv in (occs := *) lawScope => all_goals whnf
  dsimp only
  have hO : ∀ p ∈ (P, x2.p C) :: (C, x2.c) :: (L + 1 + 1 + 1, o3') :: (L + 1 + 1, o2') :: (L + 1, o4) :: rest, @Ne Nat p.1 I := fun p hp e => hnI p hp e
  obtain ⟨rest2, hrest2⟩ : ∃ r, r = own ++ rest := ⟨_, rfl⟩
  have sR : ∀ p ∈ rest, p ∈ rest2 := fun p hp => hrest2 ▸ List.mem_append_right _ hp
  have hown2 : ∀ b, @Ne Nat b I → ∀ p ∈ own, p.1 ≠ b := fun b hb p hp e => hb (e ▸ hown p hp)
  have yP : ∀ p ∈ rest2, p.1 ≠ P := hrest2 ▸ all_app (hown2 _ (hO (P, _) (by k_mem))) (fun p hp => (hoff p hp).1)
  have yC : ∀ p ∈ rest2, p.1 ≠ C := hrest2 ▸ all_app (hown2 _ (hO (C, _) (by k_mem))) (fun p hp => (hoff p hp).2.1)
  have y1 : ∀ p ∈ rest2, p.1 ≠ L + 1 := hrest2 ▸ all_app (hown2 _ (hO (L + 1, _) (by k_mem))) (fun p hp => (hoff p hp).2.2.1)
  have y2 : ∀ p ∈ rest2, p.1 ≠ L + 1 + 1 := hrest2 ▸ all_app (hown2 _ (hO (L + 1 + 1, _) (by k_mem))) (fun p hp => (hoff p hp).2.2.2.1)
  have y3 : ∀ p ∈ rest2, p.1 ≠ L + 1 + 1 + 1 := hrest2 ▸ all_app (hown2 _ (hO (L + 1 + 1 + 1, _) (by k_mem))) (fun p hp => (hoff p hp).2.2.2.2)
  have N2 : News s₁.heap L h ((P, x2.p C) :: (C, x2.c) :: (L + 1 + 1 + 1, o3') :: (L + 1 + 1, o2') :: (L + 1, o4) :: rest2) := news_sub N1 (by rw [hrest2]; walk_at "m subl")
  have mT := sR _ mTD
  have mN := sR _ mNL
  have mI : (I, oI) ∈ rest2 := hrest2 ▸ List.mem_append_left _ hoI
  have mOwn : ∀ p ∈ own, p ∈ rest2 := fun p hp => hrest2 ▸ List.mem_append_left _ hp
  have alT : Al (fun p (r : Int × T3) => p.1 = r.1 ∧ RowAt (inL rest2) p.2 r.2) kvD tbl := alTD.mono fun p r z => ⟨z.1, z.2.le fun a o e => sR _ e⟩
  have hln2 : tbl.length ≤ 50 := by omega
  have hkvl : kvD.length ≤ 1000 := by rw [alTD.length]; omega
  have hndk := keysNodup_of_isDictOf hdTD
  have sOff : ∀ p ∈ rest, @Ne Nat p.1 I := fun p hp => hO p (by simp [hp])
  (try clear N1); (try clear hoff); (try clear hown); (try clear mTD)
  dsimp only [baseD] at F1
  walk_at "m walk"
  have hT : DictAt' w (RowAt (inL rest2)) (inL rest2) tD tbl := ⟨oTD, kvD, mT, hdTD, loTD, alT⟩
  have u2 : ∀ p ∈ rest2, p ∈ ((P, x2.p C) :: (C, x2.c) :: (L + 1 + 1 + 1, o3') :: (L + 1 + 1, o2') :: (L + 1, o4) :: rest2) := fun p hp => by simp [hp]
  refine' entries_call K ?Fx13 KX T ?Nx13 ?f1x13 ?f2x13 ?d1x13 ?d2x13 (kda_dict N2 (u2 _ mT) hdTD) loTD (alT.mono fun p r z => ⟨z.1, z.2.le fun a o e => N2.get (u2 _ e)⟩) ?lnx13 hndk ?_
  case Fx13 => assumption
  case Nx13 => exact N2
  case f1x13 => exact rfl
  case f2x13 => exact rfl
  case d1x13 => decide
  case d2x13 => decide
  case lnx13 => omega
  intro eD outE h3 tk3 F3 N3 hnew3 hq91
  obtain ⟨oEn, kEn, hmEn, diEn, loEn, alEn⟩ := hq91
  have fr := news_fresh N2 hnew3
  obtain ⟨rest3, hrest3⟩ : ∃ r, r = outE ++ rest2 := ⟨_, rfl⟩
  have sE : ∀ p ∈ outE, p ∈ rest3 := fun p hp => hrest3 ▸ List.mem_append_left _ hp
  have sR3 : ∀ p ∈ rest2, p ∈ rest3 := fun p hp => hrest3 ▸ List.mem_append_right _ hp
  have wP : ∀ p ∈ rest3, p.1 ≠ P := hrest3 ▸ all_app (fr (P, _) (by k_mem)) yP
  have wC : ∀ p ∈ rest3, p.1 ≠ C := hrest3 ▸ all_app (fr (C, _) (by k_mem)) yC
  have w1 : ∀ p ∈ rest3, p.1 ≠ L + 1 := hrest3 ▸ all_app (fr (L + 1, _) (by k_mem)) y1
  have w2 : ∀ p ∈ rest3, p.1 ≠ L + 1 + 1 := hrest3 ▸ all_app (fr (L + 1 + 1, _) (by k_mem)) y2
  have w3 : ∀ p ∈ rest3, p.1 ≠ L + 1 + 1 + 1 := hrest3 ▸ all_app (fr (L + 1 + 1 + 1, _) (by k_mem)) y3
  have N4 : News s₁.heap L h3 ((P, x2.p C) :: (C, x2.c) :: (L + 1 + 1 + 1, o3') :: (L + 1 + 1, o2') :: (L + 1, o4) :: rest3) := news_sub N3 (by rw [hrest3]; walk_at "m subl")
  have mT3 := sR3 _ mT
  have mN3 := sR3 _ mN
  have mI3 := sR3 _ mI
  have mO3 : ∀ p ∈ own, p ∈ rest3 := fun p hp => sR3 _ (mOwn _ hp)
  have mR3 : ∀ p ∈ rest, p ∈ rest3 := fun p hp => sR3 _ (sR _ hp)
  have mE3 := sE _ hmEn
  have alT3 : Al (fun p (r : Int × T3) => p.1 = r.1 ∧ RowAt (inL rest3) p.2 r.2) kvD tbl := alT.mono fun p r z => ⟨z.1, z.2.le fun a o e => sR3 _ e⟩
  have alE3 : Al (fun p (r : Int × T3) => p.1 = r.1 ∧ EntAt w (inL rest3) p.2 r.2) kEn tbl := alEn.mono fun p r z => ⟨z.1, z.2.le fun a o e => sE _ e⟩
  have u3 : ∀ p ∈ rest3, p ∈ ((P, x2.p C) :: (C, x2.c) :: (L + 1 + 1 + 1, o3') :: (L + 1 + 1, o2') :: (L + 1, o4) :: rest3) := fun p hp => by simp [hp]
  (try clear fr); (try clear hnew3); (try clear N3); (try clear N2); (try clear yP); (try clear yC); (try clear y1); (try clear y2); (try clear y3); (try clear mT); (try clear mN); (try clear mI); (try clear mOwn); (try clear alT); (try clear alEn); (try clear hmEn); (try clear hrest3); (try clear sE); (try clear sR3); (try clear hT); (try clear u2); (try clear sR); (try clear hrest2)
  try (clear F1)
  walk_at "m walk"
  rename_i F5 N5
  refine' walked_gv K F5 KX T N5 ?f1x13 ?f2x13 ?d1x13 ?d2x13 (kda_dict N5 (u3 _ mT3) hdTD) loTD (alT3.mono fun p r z => ⟨z.1, z.2.le fun a o e => N5.get (u3 _ e)⟩) ?lnx13 ?_
  case f1x13 => exact rfl
  case f2x13 => exact rfl
  case d1x13 => decide
  case d2x13 => decide
  case lnx13 => omega
  intro gv outG h5 tk5 F6 N6 fr5 gG
  obtain ⟨rest4, hrest4⟩ : ∃ r, r = outG ++ rest3 := ⟨_, rfl⟩
  have sG : ∀ p ∈ outG, p ∈ rest4 := fun p hp => hrest4 ▸ List.mem_append_left _ hp
  have sR4 : ∀ p ∈ rest3, p ∈ rest4 := fun p hp => hrest4 ▸ List.mem_append_right _ hp
  have yP : ∀ p ∈ rest4, p.1 ≠ P := hrest4 ▸ all_app (fr5 (P, _) (by k_mem)) wP
  have yC : ∀ p ∈ rest4, p.1 ≠ C := hrest4 ▸ all_app (fr5 (C, _) (by k_mem)) wC
  have y1 : ∀ p ∈ rest4, p.1 ≠ L + 1 := hrest4 ▸ all_app (fr5 (L + 1, _) (by k_mem)) w1
  have y2 : ∀ p ∈ rest4, p.1 ≠ L + 1 + 1 := hrest4 ▸ all_app (fr5 (L + 1 + 1, _) (by k_mem)) w2
  have y3 : ∀ p ∈ rest4, p.1 ≠ L + 1 + 1 + 1 := hrest4 ▸ all_app (fr5 (L + 1 + 1 + 1, _) (by k_mem)) w3
  have N7 : News s₁.heap L h5 ((P, x2.p C) :: (C, x2.c) :: (L + 1 + 1 + 1, o3') :: (L + 1 + 1, o2') :: (L + 1, o4) :: rest4) := news_sub N6 (by rw [hrest4]; walk_at "m subl")
  have mT4 := sR4 _ mT3
  have mN4 := sR4 _ mN3
  have mI4 := sR4 _ mI3
  have mO4 : ∀ p ∈ own, p ∈ rest4 := fun p hp => sR4 _ (mO3 _ hp)
  have mR4 : ∀ p ∈ rest, p ∈ rest4 := fun p hp => sR4 _ (mR3 _ hp)
  have mE4 := sR4 _ mE3
  have alT4 : Al (fun p (r : Int × T3) => p.1 = r.1 ∧ RowAt (inL rest4) p.2 r.2) kvD tbl := alT3.mono fun p r z => ⟨z.1, z.2.le fun a o e => sR4 _ e⟩
  have alE4 : Al (fun p (r : Int × T3) => p.1 = r.1 ∧ EntAt w (inL rest4) p.2 r.2) kEn tbl := alE3.mono fun p r z => ⟨z.1, z.2.le fun a o e => sR4 _ e⟩
  have g4 : GV rest4 gv (walkF tbl (tbl.length + 1) [] 0) := gG.le sG
  have u4 : ∀ p ∈ rest4, p ∈ ((P, x2.p C) :: (C, x2.c) :: (L + 1 + 1 + 1, o3') :: (L + 1 + 1, o2') :: (L + 1, o4) :: rest4) := fun p hp => by simp [hp]
  (try clear fr5); (try clear gG); (try clear N6); (try clear N5); (try clear F5); (try clear wP); (try clear wC); (try clear w1); (try clear w2); (try clear w3); (try clear mT3); (try clear mN3); (try clear mI3); (try clear mO3); (try clear mR3); (try clear mE3); (try clear alT3); (try clear alE3); (try clear u3); (try clear sG); (try clear sR4); (try clear hrest4)
  walk_at "m walk"
  have hkl : kvD.length = tbl.length := alT4.length
  have hk64 : (kvD.map (·.1)).length < 64 := by rw [List.length_map]; omega
  refine comp_eval (cl := [(Str.ofString "table", L + 1 + 1)]) (h₀ := s₁.heap) (L := L) ?hcx14 ?hkx14 ?hnx14 ?hcex14 ?hxx14 ?_
  case hcx14 => rfl
  case hkx14 => rfl
  case hnx14 => decide
  case hcex14 => decide
  case hxx14 => rfl
  walk_at "m walk"
  rename_i lD lC hL1 lvs FL NL hiL hkL lL sD sC' hS svs sks FS NS hiS hpS hoS hkS lS
  have hsk : sks = srt (tbl.map (·.1)) := (srt_of hpS hoS).trans (by rw [al_keys alT4])
  have hskl : sks.length = kvD.length := by rw [hsk, (srt_perm _).length_eq, List.length_map, hkl]
  obtain ⟨l5, hl5⟩ : ∃ l, l = (P, x2.p C) :: (C, x2.c) :: (L + 1 + 1 + 1, o3') :: (L + 1 + 1, o2') :: (L + 1, o4) :: rest4 := ⟨_, rfl⟩
  have N8 : News s₁.heap L hS l5 := news_sub NS (fun p hp => by rw [hl5] at hp; exact .tail _ (.tail _ hp))
  (try clear FL); (try clear NL); (try clear hiL); (try clear hkL); (try clear lL); (try clear hpS); (try clear hoS); (try clear N7); (try clear F6)
  refine compAt_list (its := svs.toArray) (fun i ys nw => nw = (sD, listOf svs.toArray sC') :: l5 ∧ IntsAre ys ((sks.take i).filter (freeP tbl))) rfl (News.isList NS (.head _)) (NS _ (.head _)).2.1 (by rw [List.size_toArray, hiS.length]; omega) FS (news_sub NS (fun p hp => by
    rcases List.mem_cons.mp hp with q | q
    · rw [q]; exact .head _
    · rw [hl5] at q; exact .tail _ (.tail _ q))) ⟨rfl, by simp; exact .nil⟩ ?turnx14 ?donex14
  case turnx14 =>
    intro I' hIT i' v ys nw h tk own' C' oC' D ep mC hi' hyl hP hJ hoC hv hown' hn hfp hDC F1 N1
    obtain ⟨rfl, a1⟩ := hJ
    obtain ⟨k, tk0, hk, rfl⟩ := ints_get hiS (by simpa using hP)
    obtain ⟨kx, hkx, hkk⟩ : ∃ kx, kx ∈ kvD ∧ kx.1 = k := by
      have : k ∈ sks := List.mem_of_getElem? hk
      rw [hsk, (srt_perm _).mem_iff, ← al_keys alT4] at this
      exact List.mem_map.mp this
    obtain ⟨j, hj⟩ := List.getElem?_of_mem hkx
    obtain ⟨r, hr, hkr, ⟨a, t0, t1, t2, hae, ha⟩⟩ := alT4.get hj
    obtain ⟨kk, va⟩ := kx
    dsimp only at hkk hae hkr
    subst hkk hae
    have hva : valueAt kvD kk = some (.ref a) := valueAt_of_get hndk hj
    obtain ⟨k', way, one, two⟩ := r
    dsimp only at hkr
    subst hkr
    have hgr : gAt tbl kk = some (way, one, two) := gAt_of_get (al_keys alT4 ▸ hndk) hr
    have hCD : @LT.lt Nat _ D C' := hDC
    obtain ⟨restX, hX⟩ : ∃ r, r = own' ++ (sD, listOf svs.toArray sC') :: l5 := ⟨_, rfl⟩
    have s5 : ∀ p ∈ l5, p ∈ restX := fun p hp => hX ▸ List.mem_append_right _ (.tail _ hp)
    have maX : (a, tupOf [.str way t0, .int one t1, .int two t2]) ∈ restX := s5 _ (hl5 ▸ u4 _ ha)
    have mTX : (tD, oTD) ∈ restX := s5 _ (hl5 ▸ u4 _ mT4)
    have N3 : News s₁.heap L h ((C', oC') :: (D, listOf ys.toArray ep) :: (L + 1 + 1, o2') :: restX) := news_sub N1 (fun p hp => by
      revert hp; revert p; walk_at "m all"
      · exact .head _
      · exact .tail _ (.head _)
      · rw [hl5]; simp
      · intro p q; rw [hX] at q; exact .tail _ (.tail _ q))
    have hend3 : ∀ p ∈ (C', oC') :: (D, listOf ys.toArray ep) :: (own' ++ (sD, listOf svs.toArray sC') :: l5), p ∈ (C', oC') :: (D, listOf ys.toArray ep) :: (L + 1 + 1, o2') :: restX := fun p hp => by
      rw [← hX] at hp
      revert hp; revert p; walk_at "m subl"
    (try clear N1); (try clear NS); (try clear N8); (try clear FS)
    walk_at "m walk"
    all_goals (refine CompEnd.intro ((sD, listOf svs.toArray sC') :: l5) F1 (news_sub N3 hend3) hn ⟨rfl, ?_⟩)
    · rw [filter_take_pos hk (by
        rw [freeP_eq hgr]
        have q : 0 < kk := by assumption
        rw [decide_eq_true q, Bool.true_and]
        assumption)]
      exact ksk_snoc a1
    all_goals (
      rw [filter_take_neg hk (by
        rw [freeP_eq hgr]
        first
          | (rw [decide_eq_false (by omega), Bool.false_and])
          | ((have q : 0 < kk := by assumption); rw [decide_eq_true q, Bool.true_and]; assumption))]
      exact a1)
  case donex14 =>
    intro fD h6 tk6 ep ys nw hJ F6 N6 hne hyl
    obtain ⟨rfl, a1⟩ := hJ
    have hfree : IntsAre ys (freeOf tbl) := by
      have : svs.toArray.size = sks.length := by rw [List.size_toArray, hiS.length]
      rw [this, List.take_length, hsk] at a1
      exact a1
    (try clear a1); (try clear NS); (try clear N8); (try clear FS); (try clear hiS); (try clear hkS); (try clear lS); (try clear hyl)
    subst hl5
    obtain ⟨rest5, hrest5⟩ : ∃ r, r = (fD, listOf ys.toArray ep) :: rest4 := ⟨_, rfl⟩
    have sR : ∀ p ∈ rest4, p ∈ rest5 := fun p hp => hrest5 ▸ .tail _ hp
    have zP : ∀ p ∈ rest5, p.1 ≠ P := hrest5 ▸ all_cons (Ne.symm (hne (P, _) (by k_mem))) yP
    have zC : ∀ p ∈ rest5, p.1 ≠ C := hrest5 ▸ all_cons (Ne.symm (hne (C, _) (by k_mem))) yC
    have zz1 : ∀ p ∈ rest5, p.1 ≠ L + 1 := hrest5 ▸ all_cons (Ne.symm (hne (L + 1, _) (by k_mem))) y1
    have zz2 : ∀ p ∈ rest5, p.1 ≠ L + 1 + 1 := hrest5 ▸ all_cons (Ne.symm (hne (L + 1 + 1, _) (by k_mem))) y2
    have zz3 : ∀ p ∈ rest5, p.1 ≠ L + 1 + 1 + 1 := hrest5 ▸ all_cons (Ne.symm (hne (L + 1 + 1 + 1, _) (by k_mem))) y3
    have N7 : News s₁.heap L h6 ((P, x2.p C) :: (C, x2.c) :: (L + 1 + 1 + 1, o3') :: (L + 1 + 1, o2') :: (L + 1, o4) :: rest5) := news_sub N6 (by rw [hrest5]; walk_at "m subl")
    have mF5 : (fD, listOf ys.toArray ep) ∈ rest5 := hrest5 ▸ .head _
    have mT5 := sR _ mT4
    have mN5 := sR _ mN4
    have mI5 := sR _ mI4
    have mO5 : ∀ p ∈ own, p ∈ rest5 := fun p hp => sR _ (mO4 _ hp)
    have mR5 : ∀ p ∈ rest, p ∈ rest5 := fun p hp => sR _ (mR4 _ hp)
    have mE5 := sR _ mE4
    have alT5 : Al (fun p (r : Int × T3) => p.1 = r.1 ∧ RowAt (inL rest5) p.2 r.2) kvD tbl := alT4.mono fun p r z => ⟨z.1, z.2.le fun a o e => sR _ e⟩
    have alE5 : Al (fun p (r : Int × T3) => p.1 = r.1 ∧ EntAt w (inL rest5) p.2 r.2) kEn tbl := alE4.mono fun p r z => ⟨z.1, z.2.le fun a o e => sR _ e⟩
    have g5 : GV rest5 gv (walkF tbl (tbl.length + 1) [] 0) := g4.le sR
    have hbd : ∀ p ∈ tbl, 0 ≤ p.2.2.1 ∧ p.2.2.1 < 1000000 := fun p hp => ⟨(hgT p hp).2.1, Int.lt_trans (hgT p hp).2.2 (by decide)⟩
    have hndE : (kEn.map (·.1)).Nodup := keysNodup_of_isDictOf diEn
    (try clear N6); (try clear hne); (try clear yP); (try clear yC); (try clear y1); (try clear y2); (try clear y3); (try clear mT4); (try clear mN4); (try clear mI4); (try clear mO4); (try clear mR4); (try clear mE4); (try clear alT4); (try clear alE4); (try clear g4); (try clear u4); (try clear sR); (try clear hrest5)
    walk_at "m walk"
    rename_i Dt hX hkD lD hA hB o6 d6 h8 F8 N8'
    have N8 : News s₁.heap L h8 ((P, x2.p C) :: (C, x2.c) :: (L + 1 + 1 + 1, o6) :: (L + 1 + 1, o2') :: (L + 1, o4) :: rest5) := news_sub N8' (fun p hp => .tail _ hp)
    (try clear N8'); (try clear hkD); (try clear lD)
    have u5 : ∀ p ∈ rest5, p ∈ ((P, x2.p C) :: (C, x2.c) :: (L + 1 + 1 + 1, o6) :: (L + 1 + 1, o2') :: (L + 1, o4) :: rest5) := fun p hp => by simp [hp]
    refine' lchain_gv K F8 KX T KX T N8 ?f1x15 ?f2x15 ?d1x15 ?d2x15 (kda_dict N8 (u5 _ mE5) diEn) loEn (alE5.mono fun p r z => ⟨z.1, z.2.le fun a o e => N8.get (u5 _ e)⟩) ?lnx15 hbd ?_
    case f1x15 => exact rfl
    case f2x15 => exact rfl
    case d1x15 => decide
    case d2x15 => decide
    case lnx15 => omega
    intro lv outL h9 tk9 F9 N9 fr9 gL
    have gL9 : GV (outL ++ ((P, x2.p C) :: (C, x2.c) :: (L + 1 + 1 + 1, o6) :: (L + 1 + 1, o2') :: (L + 1, o4) :: rest5)) lv (walkF tbl (tbl.length + 1) [] 0) := gL.le fun p hp => List.mem_append_left _ hp
    have g9 : GV (outL ++ ((P, x2.p C) :: (C, x2.c) :: (L + 1 + 1 + 1, o6) :: (L + 1 + 1, o2') :: (L + 1, o4) :: rest5)) gv (walkF tbl (tbl.length + 1) [] 0) := g5.le fun p hp => List.mem_append_right _ (u5 _ hp)
    walk_at "m walk"
    refine ne_gv N9 gL9 g9 (by ke_room) ?_
    have N10 : News s₁.heap L h9 ((P, x2.p C) :: (C, x2.c) :: (L + 1 + 1 + 1, o6) :: (L + 1 + 1, o2') :: (L + 1, o4) :: rest5) := news_sub N9 (fun p hp => List.mem_append_right _ hp)
    (try clear N9); (try clear gL9); (try clear g9); (try clear gL); (try clear fr9)
    dsimp only
    walk_at "m walk"
    refine' numbers_call K F9 KX T N10 ?f1x16 ?f2x16 ?d1x16 (kda_dict N10 (u5 _ mE5) diEn) loEn (alE5.mono fun p r z => ⟨z.1, z.2.le fun a o e => N10.get (u5 _ e)⟩) ?lnx16 hndE ?_
    case f1x16 => exact rfl
    case f2x16 => exact rfl
    case d1x16 => decide
    case lnx16 => omega
    intro nD outN h10 tk10 nvs nc F11 N11 hnew11 hfr11 hmN hiN2
    walk_at "m walk"
    refine ne_ints (News.isList N11 (List.mem_append_left _ hmN)) (News.isList N11 (List.mem_append_right _ (u5 _ mF5))) hiN2 hfree (by ke_room) ?_
    have N12 : News s₁.heap L h10 ((P, x2.p C) :: (C, x2.c) :: (L + 1 + 1 + 1, o6) :: (L + 1 + 1, o2') :: (L + 1, o4) :: rest5) := news_sub N11 (fun p hp => List.mem_append_right _ hp)
    (try clear N11); (try clear hnew11); (try clear hfr11); (try clear hmN); (try clear hiN2); (try clear N10); (try clear F9)
    dsimp only
    walk_at "m walk"
    obtain ⟨mF, F12, hmF⟩ : ∃ mF, Fr s₁.heap L h10 mF ∧ mF = _ := ⟨_, F11, rfl⟩
    (try clear F12)
    obtain ⟨wn, hwn⟩ : ∃ n, n = wrongN tbl := ⟨_, rfl⟩
    obtain ⟨Mid, hMid⟩ : ∃ M : Flow → Shared → Prop, M = (fun f s' => f = .next ∧ ∃ (h' : Heap) (tk : Nat) (tw : Tok), s' = { s₁ with heap := h', toks := tk } ∧ Fr s₁.heap L h' (fun y => if y = Str.ofString "wrong" then some (.int (wn : Nat) tw) else mF y) ∧ News s₁.heap L h' ((P, x2.p C) :: (C, x2.c) :: (L + 1 + 1 + 1, o6) :: (L + 1 + 1, o2') :: (L + 1, o4) :: rest5)) := ⟨_, rfl⟩
    refine wpAny_mono (Q := Mid) ?trx17 ?contx17 (fun _ _ x => x)
    case trx17 =>
      (try clear alE5); (try clear hbd); (try clear hndE); (try clear sOff); (try clear mO5); (try clear mR5); (try clear mI5); (try clear mN5); (try clear mF5); (try clear hfree); (try clear zP); (try clear zC); (try clear zz1); (try clear zz2); (try clear zz3); (try clear diEn); (try clear loEn); (try clear mE5)
      have pm : PassMark := passMark
      walk_at "m walk"
      refine is_gv g5 ?_
      cases h0 : gAt tbl 0 with
      | none =>
        have hb : (gAt tbl 0).isSome = false := by rw [h0]; rfl
        walk_at "m walk"
        rename_i hZ FZ NZ
        rw [hMid]
        have ew : ((wn : Nat) : Int) = (if (walkF tbl (tbl.length + 1) [] 0).isNone = true then 1 else 0) + (if false = true then 1 else 0) := by
          rw [hwn]; unfold wrongN zeroF; rw [h0]; cases (walkF tbl (tbl.length + 1) [] 0).isNone <;> rfl
        exact ⟨rfl, _, _, _, rfl, (by subst hmF; rw [ew]; exact FZ), NZ⟩
      | some r =>
        have hb : (gAt tbl 0).isSome = true := by rw [h0]; rfl
        obtain ⟨v0, hva, a, t0, t1, t2, rfl, ha⟩ := (al_at alT5 0).2 r h0
        change (a, tupOf [.str r.1 t0, .int r.2.1 t1, .int r.2.2 t2]) ∈ rest5 at ha
        walk_at "m walk"
        rename_i hZ FZ NZ
        rw [hMid]
        have ew : ((wn : Nat) : Int) = (if (walkF tbl (tbl.length + 1) [] 0).isNone = true then 1 else 0) + (if (r.2.2 != 65535) = true then 1 else 0) := by
          rw [hwn]; unfold wrongN zeroF; rw [h0]
          by_cases e : r.2.2 = 65535
          · simp only [e]; cases (walkF tbl (tbl.length + 1) [] 0).isNone <;> rfl
          · have e2 : (r.2.2 != 65535) = true := by simpa using e
            simp only [e2]
            rw [if_pos e]
            cases (walkF tbl (tbl.length + 1) [] 0).isNone <;> rfl
        exact ⟨rfl, _, _, _, rfl, (by subst hmF; rw [ew]; exact FZ), NZ⟩
    case contx17 =>
      rw [hMid]
      rintro f s' ⟨rfl, h11, tk11, tw, rfl, F13, N13⟩
      rw [hmF] at F13
      (try dsimp only)
      exact lap_rest (fa := fa) (w10 := w10) (h := h) (tk := 0) (cv := cv) KX T K q1 q2 q3 q4 q5 q6 q7 hiN hnd hpos hrk hrb1 hrb2 hnl hi d2' loTD hdTD alTD hgT hln ht0 mNL hoI hO hln2 hkvl hndk sOff diEn loEn hfree zP zC zz1 zz2 zz3 mF5 mT5 mN5 mI5 mO5 mR5 mE5 alT5 alE5 g5 hbd hndE d6 u5 hwn F13 N13
theorem law_three {w : World} {s₀ s₁ : Shared} {mg mb : Str → Option Value} {fa w10 : Addr} {L : Nat} {P C nL gD rD kD S : Addr} {x1 : Pen} {o3 o2 o4 oG oR : Obj} {vsN : List Value} {cN kC tk : Nat} {nums : List Int} {gt : List (Int × Int)} {rt : List (Int × T3)} {kG kR : List (Int × Value)} {out : List (Addr × Obj)} {ch : Addr} {Qk : Flow → Shared → Prop} {TR LD dD tT : Addr} {oTb o5 : Obj} {kv : List (Int × Value)} {rest3 : List (Addr × Obj)} {sns : List Int} {vn va : Option Value} {h7 : Heap}
  (KX : (hd.heap_39 w.params).In s₁.heap) (T : Top hd.view_39 (looseW hd.view_39 [Str.ofString "PaperError"]) (ExcName.means s₀.heap) mg mb s₁.heap) (K : Below callerA s₁.heap [] s₁.heap) (q1 : @Ne Nat P (L + 1)) (q2 : @Ne Nat P (L + 1 + 1)) (q3 : @Ne Nat P (L + 1 + 1 + 1)) (q4 : @Ne Nat C (L + 1)) (q5 : @Ne Nat C (L + 1 + 1)) (q6 : @Ne Nat C (L + 1 + 1 + 1)) (q7 : @Ne Nat P C) (hiN : IntsAre vsN nums) (hnd : nums.Nodup) (hend : ∀ (h' : Heap) (tk : Nat) (m' : Str → Option Value), Fr s₁.heap L h' m' → Qk (.ret (.bool true)) { s₁ with heap := h', toks := tk }) (d3 : o3.data = .cell none) (d2 : o2.data = .cell none) (d4 : o4.data = .cell (some (.ref ch))) (hnb : ∀ (k : Int), k ∈ nums → 0 < k ∧ k < 1000) (hrb : ∀ (p : Int × T3), p ∈ rt → 0 < p.1 ∧ p.1 ∉ nums ∧ p.2.1 ≠ ("free" : Str)) (hgR : GoodT rt) (hnl : nums.length ≤ 12) (hrl : rt.length ≤ 12) (hgl : gt.length ≤ 12) (diR : oR.IsDictOf (intKind PR w) kR) (loR : (rD == sysModules) = false) (alR : Al (fun kv r => kv.1 = r.1 ∧ RowAt (inL out) kv.2 r.2) kR rt) (hkr : kR.length ≤ 1000) (hpos : ∀ k ∈ nums, 0 < k) (hlnd : sns.Nodup) (hlin : sns = 0 :: srt nums) (xP : ∀ p ∈ rest3, p.1 ≠ P) (xC : ∀ p ∈ rest3, p.1 ≠ C) (x1' : ∀ p ∈ rest3, p.1 ≠ L + 1) (x2' : ∀ p ∈ rest3, p.1 ≠ L + 1 + 1) (x3' : ∀ p ∈ rest3, p.1 ≠ L + 1 + 1 + 1) (mN3 : (nL, listOf vsN.toArray cN) ∈ rest3) (mR3 : (rD, oR) ∈ rest3) (sO3 : ∀ (p : Addr × Obj), p ∈ out → p ∈ rest3) (hll9 : sns.length ≤ 13) (alD3 : Al (fun p (r : Int × T3) => p.1 = r.1 ∧ RowAt (inL rest3) p.2 r.2) kv (chainT sns gt sns.length)) (loTb : (tT == sysModules) = false) (hdTb : oTb.IsDictOf (intKind PR w) kv) (hkT : ∀ (q : Addr × Obj), q ∈ (P, x1.p C) :: (C, x1.c) :: (L + 1 + 1 + 1, o3) :: (L + 1 + 1, o2) :: (L + 1, o4) :: rest3 → q.1 < tT) (lT : @LT.lt Nat _ P tT ∧ @LT.lt Nat _ C tT ∧ @LT.lt Nat _ (L + 1 + 1 + 1) tT ∧ @LT.lt Nat _ (L + 1 + 1) tT ∧ @LT.lt Nat _ (L + 1) tT ∧ AllLt tT rest3) (d5 : o5.data = .cell (some (.ref tT))) (F7 : Fr s₁.heap L h7 (fun y => if y = Str.ofString "number" then vn else if y = Str.ofString "at" then va else baseD dD LD TR kD rD gD nL P S y)) (N7 : News s₁.heap L h7 ((tT, oTb) :: (P, x1.p C) :: (C, x1.c) :: (L + 1 + 1 + 1, o3) :: (L + 1 + 1, o5) :: (L + 1, o4) :: rest3)) :
  wpAny (model PR w) (callerA.deeper (lawEnv L fa (.ref w10))) (execs lawRest10 (lawEnv L fa (.ref w10))) Qk (fun _ _ => False) { s₁ with heap := h7, toks := tk } := by
  unfold lawEnv
  conv in lawRest10 => whnf
  conv in (occs := *) lawScope => all_goals whnf
  dsimp only
  dsimp only [baseD] at F7
  have pm : PassMark := passMark
  (first | walk1 | (dsimp only; walk1))
  clear pm
  refine For_invV s₁.heap rfl rfl ?_
  walk_at "m walk"
  have z1 : @Ne Nat tT P := Nat.ne_of_gt lT.1
  have z2 : @Ne Nat tT C := Nat.ne_of_gt lT.2.1
  have z3 : @Ne Nat tT (L + 1 + 1 + 1) := Nat.ne_of_gt lT.2.2.1
  have z4 : @Ne Nat tT (L + 1 + 1) := Nat.ne_of_gt lT.2.2.2.1
  have z5 : @Ne Nat tT (L + 1) := Nat.ne_of_gt lT.2.2.2.2.1
  have xT : ∀ p ∈ rest3, p.1 ≠ tT := fun p hp => Nat.ne_of_lt (hkT p (by simp [hp]))
  have hrk : (rt.map (·.1)).Nodup := al_keys alR ▸ keysNodup_of_isDictOf diR
  have hrkl : kR.length = rt.length := alR.length
  have N8 : News s₁.heap L h7 ((P, x1.p C) :: (C, x1.c) :: (L + 1 + 1 + 1, o3) :: (L + 1 + 1, o5) :: (L + 1, o4) :: (tT, oTb) :: rest3) := news_sub N7 (by walk_at "m subl")
  refine my_keys (knd := intKind PR w) (d := rD) (kvs := kR) (TabJ w (fun y => if y = Str.ofString "number" then vn else if y = Str.ofString "at" then va else baseD dD LD TR kD rD gD nL P S y) P C (L + 1) (L + 1 + 1) (L + 1 + 1 + 1) tT (x1.p C) x1.c o4 o5 o3 (chainT sns gt sns.length) rt rest3) rfl (kda_dict N8 (by k_mem) diR) loR (N8 _ (show (rD, oR) ∈ _ by k_mem)).2.1 F7 N8 ?hJx11 ?turnx11 ?donex11
  case hJx11 => exact ⟨oTb, kv, fun _ _ => rfl, rfl, hdTb, by rw [List.take_zero, List.append_nil]; exact alD3⟩
  case turnx11 =>
    intro i v k y m₁ nw h tk I own hi hkv' hq91 hnI hown hIr hq92 F1 N1
    obtain ⟨oE, kv2, hm, hnw, hdE, al⟩ := hq91
    obtain ⟨oI, hoI⟩ := hq92
    obtain ⟨tk0, rfl⟩ := intKind_inv hkv'
    obtain ⟨⟨k', r⟩, hr, hkr, a, t0, t1, t2, rfl, ha⟩ := alR.get hi
    dsimp only at hkr ha
    subst hkr
    have hva : valueAt kR k = some (.ref a) := valueAt_of_get (keysNodup_of_isDictOf diR) hi
    rw [one_form hm] at F1
    subst hnw
    change Fr s₁.heap L h _ at F1
    change News s₁.heap L h _ at N1
    obtain ⟨rest2, hrest2⟩ : ∃ r, r = own ++ rest3 := ⟨_, rfl⟩
    have hI1 := hnI (tT, oE) (by k_mem)
    have vT : ∀ p ∈ rest2, p.1 ≠ tT := by
      rw [hrest2]
      refine all_app (fun p hp => ?_) xT
      rcases hown p hp with e | e <;> rw [e]
      · exact Ne.symm hI1
      · exact xT _ mR3
    have N2 : News s₁.heap L h ((P, x1.p C) :: (C, x1.c) :: (L + 1 + 1 + 1, o3) :: (L + 1 + 1, o5) :: (L + 1, o4) :: (tT, oE) :: rest2) := news_sub N1 (by rw [hrest2]; walk_at "m subl")
    have mR2 : (rD, oR) ∈ rest2 := hrest2 ▸ List.mem_append_right _ mR3
    have hilt : i < kR.length := (List.getElem?_eq_some_iff.mp hi).1
    have hkv2 : kv2.length ≤ 1000 := by rw [al.length, List.length_append, chainT_len hlnd, List.length_take]; omega
    have hfrm : ∀ y, y ≠ Str.ofString "number" → (if y = Str.ofString "number" then some (Value.int k tk0) else if y = Str.ofString "number" then vn else if y = Str.ofString "at" then va else baseD dD LD TR kD rD gD nL P S y) = (if y = Str.ofString "number" then vn else if y = Str.ofString "at" then va else baseD dD LD TR kD rD gD nL P S y) := fun y e1 => by rw [if_neg e1]
    dsimp only [baseD] at F1
    (try clear N1); (try clear N8); (try clear N7); (try clear F7); (try clear hkT); (try clear lT); (try clear hend)
    walk_at "m walk"
    rename_i h9 oE2 F9 N9 d9
    have hkb : ∀ p ∈ chainT sns gt sns.length, p.1 ≠ k := by
      intro p hp q
      have hm1 : p.1 ∈ sns := chainT_keys (gt := gt) hlnd ▸ List.mem_map_of_mem hp
      have z := hrb (k, r) (List.mem_of_getElem? hr)
      dsimp only at z
      rw [q, hlin] at hm1
      rcases List.mem_cons.mp hm1 with e | e
      · omega
      · exact z.2.1 ((srt_perm nums).mem_iff.mp e)
    refine TurnEnd.intro ((P, x1.p C) :: (C, x1.c) :: (L + 1 + 1 + 1, o3) :: (L + 1 + 1, o5) :: (L + 1, o4) :: (tT, oE2) :: rest3) F9 (news_sub N9 fun p hp => ?_) (fun p hp => ?_) ⟨oE2, _, hfrm, rfl, d9, row_step al hr hkb hrk ⟨a, t0, t1, t2, rfl, sO3 _ ha⟩⟩
    · revert hp; revert p; rw [hrest2]; walk_at "m subl"
    · revert hp; revert p; walk_at "m all"
      · exact hnI _ (by k_mem)
      · exact hnI _ (by k_mem)
      · exact hnI _ (by k_mem)
      · exact hnI _ (by k_mem)
      · exact hnI _ (by k_mem)
      · exact hI1
      · intro p q; exact hnI p (by k_mem)
  case donex11 =>
    rintro m₁ nw h tk ⟨oE, kv2, hm, hnw, hdE, al⟩ F1 N1
    rw [one_form2 hm] at F1
    generalize m₁ (Str.ofString "number") = vn2 at F1
    subst hnw
    change Fr s₁.heap L h _ at F1
    change News s₁.heap L h _ at N1
    rw [hrkl, List.take_length] at al
    (try clear N8); (try clear N7); (try clear F7); (try clear hkT); (try clear lT)
    dsimp only [baseD] at F1
    walk_at "m walk"
    rename_i t9 u9 v9 hrange F9 N9 K9
    have hrk : (rt.map (·.1)).Nodup := al_keys alR ▸ keysNodup_of_isDictOf diR
    have htab : chainT sns gt sns.length ++ rt = tab0 nums gt rt := by rw [hlin]; rfl
    rw [htab] at al
    have hrb1 : ∀ p ∈ rt, 0 < p.1 ∧ p.1 ∉ nums := fun p hp => ⟨(hrb p hp).1, (hrb p hp).2.1⟩
    have hrb2 : ∀ p ∈ rt, p.2.1 ≠ ("free" : Str) := fun p hp => (hrb p hp).2.2
    have N10 : News s₁.heap L _ ((P, x1.p C) :: (C, x1.c) :: (L + 1 + 1 + 1, o3) :: (L + 1 + 1, o5) :: (L + 1, o4) :: (tT, oE) :: rest3) := news_sub N9 (fun p hp => by first | exact hp | exact .tail _ hp)
    refine my_range (n := 3) (LapJ w (fun y => if y = Str.ofString "number" then vn2 else if y = Str.ofString "number" then vn else if y = Str.ofString "at" then va else baseD dD LD TR kD rD gD nL P S y) P C (L + 1) (L + 1 + 1) (L + 1 + 1 + 1) nL o4 (listOf vsN.toArray cN) (tab0 nums gt rt)) rfl hrange ?hsx12 ?hnx12 F9 N10 ?hJx12 ?turnx12 ?donex12
    case hsx12 => exact PySem.small_one (by decide) (by decide) (by omega) (by omega)
    case hnx12 => rw [PySem.rangeSize_one]; rfl
    case hJx12 =>
      refine ⟨x1, o5, o3, none, tT, oE, kv2, tab0 nums gt rt, (tT, oE) :: rest3, fun _ _ _ _ _ _ => rfl, rfl, all_cons ⟨z1, z2, z5, z4, z3⟩ fun p hp => ⟨xP p hp, xC p hp, x1' p hp, x2' p hp, x3' p hp⟩, d3, d5, .head _, loTb, hdE, al.mono fun p r z => ⟨z.1, z.2.le fun a o e => .tail _ e⟩, tab0_good hnd hnb hgR, ?_, fun _ => rfl, .tail _ mN3⟩
      rw [tab0_len hnd hpos]; omega
    case turnx12 =>
      (try clear N10); (try clear N9); (try clear F9); (try clear K9); (try clear hrange); (try clear N1); (try clear F1); (try clear al); (try clear hdE); (try clear hend); (try clear hdTb); (try clear loTb); (try clear z1); (try clear z2); (try clear z3); (try clear z4); (try clear z5); (try clear xP); (try clear xC); (try clear x1'); (try clear x2'); (try clear x3'); (try clear hm); (try clear hrkl); (try clear xT); (try clear d3); (try clear d5); (try clear alD3); (try clear alR); (try clear mD3); (try clear mL3); (try clear mT3); (try clear mR3); (try clear sO3); (try clear diR); (try clear loR); (try clear hus)
      intro i t m₁ nw h tk I own hi hq91 hnI hown hq92 F1 N1
      obtain ⟨x2, o2', o3', cv, tD, oTD, kvD, tbl, rest, hm, hnw, hoff, d3', d2', mTD, loTD, hdTD, alTD, hgT, hln, ht0, mNL⟩ := hq91
      obtain ⟨oI, hoI⟩ := hq92
      rw [lap_form hm] at F1
      generalize m₁ (Str.ofString "entries") = ve at F1
      generalize m₁ (Str.ofString "free") = vf at F1
      generalize m₁ (Str.ofString "wrong") = vw at F1
      generalize m₁ (Str.ofString "passed") = vp at F1
      (try clear hm)
      subst hnw
      change Fr s₁.heap L h _ at F1
      change News s₁.heap L h _ at N1
      (try dsimp only)
      exact lap_turn (fa := fa) (w10 := w10) KX T K q1 q2 q3 q4 q5 q6 q7 hiN hnd hpos hrk hrb1 hrb2 hnl hi d2' loTD hdTD alTD hgT hln ht0 mNL hoI hoff d3' mTD hown hnI F1 N1
    case donex12 =>
      rintro m₁ nw h tk _ F1 N1
      walk_at "m walk"
      exact hend _ _ _ F1
theorem law_two {w : World} {s₀ s₁ : Shared} {mg mb : Str → Option Value} {fa w10 : Addr} {L : Nat} {P C nL gD rD kD S : Addr} {x1 : Pen} {o3 o2 o4 oG oR : Obj} {vsN : List Value} {cN kC tk : Nat} {nums : List Int} {gt : List (Int × Int)} {rt : List (Int × T3)} {kG kR : List (Int × Value)} {out : List (Addr × Obj)} {ch : Addr} {Qk : Flow → Shared → Prop} {TR LD dD : Addr} {oT oD : Obj} {prs : List (Int × Value)} {rest3 : List (Addr × Obj)} {line : List Int} {us : List Value} {h6 : Heap}
  (KX : (hd.heap_39 w.params).In s₁.heap) (T : Top hd.view_39 (looseW hd.view_39 [Str.ofString "PaperError"]) (ExcName.means s₀.heap) mg mb s₁.heap) (K : Below callerA s₁.heap [] s₁.heap) (q1 : @Ne Nat P (L + 1)) (q2 : @Ne Nat P (L + 1 + 1)) (q3 : @Ne Nat P (L + 1 + 1 + 1)) (q4 : @Ne Nat C (L + 1)) (q5 : @Ne Nat C (L + 1 + 1)) (q6 : @Ne Nat C (L + 1 + 1 + 1)) (q7 : @Ne Nat P C) (hiN : IntsAre vsN nums) (hnd : nums.Nodup) (hend : ∀ (h' : Heap) (tk : Nat) (m' : Str → Option Value), Fr s₁.heap L h' m' → Qk (.ret (.bool true)) { s₁ with heap := h', toks := tk }) (d3 : o3.data = .cell none) (d2 : o2.data = .cell none) (d4 : o4.data = .cell (some (.ref ch))) (hnb : ∀ (k : Int), k ∈ nums → 0 < k ∧ k < 1000) (hrb : ∀ (p : Int × T3), p ∈ rt → 0 < p.1 ∧ p.1 ∉ nums ∧ p.2.1 ≠ ("free" : Str)) (hgR : GoodT rt) (hnl : nums.length ≤ 12) (hrl : rt.length ≤ 12) (hgl : gt.length ≤ 12) (diG : oG.IsDictOf (intKind PR w) kG) (loG : (gD == sysModules) = false) (alG : Al (fun kv r => kv.1 = r.1 ∧ IntAt kv.2 r.2) kG gt) (diR : oR.IsDictOf (intKind PR w) kR) (loR : (rD == sysModules) = false) (alR : Al (fun kv r => kv.1 = r.1 ∧ RowAt (inL out) kv.2 r.2) kR rt) (hkl : kG.length ≤ 1000) (hkr : kR.length ≤ 1000) (loT : (TR == sysModules) = false) (hdT : oT.IsDictOf (intKind PR w) prs) (mT : (TR, oT) ∈ rest3) (xP : ∀ p ∈ rest3, p.1 ≠ P) (xC : ∀ p ∈ rest3, p.1 ≠ C) (x1' : ∀ p ∈ rest3, p.1 ≠ L + 1) (x2' : ∀ p ∈ rest3, p.1 ≠ L + 1 + 1) (x3' : ∀ p ∈ rest3, p.1 ≠ L + 1 + 1 + 1) (alT : Al (fun p (r : Int × T3) => p.1 = r.1 ∧ RowAt (inL rest3) p.2 r.2) prs (chainT line gt line.length)) (mK3 : (kD, listOf vsN.toArray kC) ∈ rest3) (mN3 : (nL, listOf vsN.toArray cN) ∈ rest3) (mG3 : (gD, oG) ∈ rest3) (mR3 : (rD, oR) ∈ rest3) (sO3 : ∀ (p : Addr × Obj), p ∈ out → p ∈ rest3) (hll : line.length ≤ nums.length + 1) (hsl : (srt nums).length ≤ 12) (hline : line = 0 :: List.filter (fun a => decide (0 < a)) (srt nums)) (hlin : line = 0 :: srt nums) (hus : IntsAre us line) (yP : @Ne Nat LD P) (yC : @Ne Nat LD C) (y1 : @Ne Nat LD (L + 1)) (y2 : @Ne Nat LD (L + 1 + 1)) (y3 : @Ne Nat LD (L + 1 + 1 + 1)) (loD : (dD == sysModules) = false) (hiD : oD.IsDictOf (intKind PR w) []) (hkD : ∀ (p : Addr × Obj), p ∈ (P, x1.p C) :: (C, x1.c) :: (L + 1 + 1 + 1, o3) :: (L + 1 + 1, o2) :: (L + 1, o4) :: (LD, listOf us.toArray 0) :: rest3 → p.1 < dD) (lD : @LT.lt Nat _ P dD ∧ @LT.lt Nat _ C dD ∧ @LT.lt Nat _ (L + 1 + 1 + 1) dD ∧ @LT.lt Nat _ (L + 1 + 1) dD ∧ @LT.lt Nat _ (L + 1) dD ∧ @LT.lt Nat _ LD dD ∧ AllLt dD rest3) (F6 : Fr s₁.heap L h6 (baseD dD LD TR kD rD gD nL P S)) (N6 : News s₁.heap L h6 ((dD, oD) :: (P, x1.p C) :: (C, x1.c) :: (L + 1 + 1 + 1, o3) :: (L + 1 + 1, o2) :: (L + 1, o4) :: (LD, listOf us.toArray 0) :: rest3)) :
  wpAny (model PR w) (callerA.deeper (lawEnv L fa (.ref w10))) (execs lawRest7 (lawEnv L fa (.ref w10))) Qk (fun _ _ => False) { s₁ with heap := h6, toks := tk } := by
  unfold lawEnv
  conv in lawRest7 => whnf
  conv in (occs := *) lawScope => all_goals whnf
  dsimp only
  have pm : PassMark := passMark
  (first | walk1 | (dsimp only; walk1))
  clear pm
  change Fr s₁.heap L h6 (baseD dD LD TR kD rD gD nL P S) at F6
  have z1 : @Ne Nat dD P := Nat.ne_of_gt lD.1
  have z2 : @Ne Nat dD C := Nat.ne_of_gt lD.2.1
  have z3 : @Ne Nat dD (L + 1 + 1 + 1) := Nat.ne_of_gt lD.2.2.1
  have z4 : @Ne Nat dD (L + 1 + 1) := Nat.ne_of_gt lD.2.2.2.1
  have z5 : @Ne Nat dD (L + 1) := Nat.ne_of_gt lD.2.2.2.2.1
  have z6 : @Ne Nat LD dD := Nat.ne_of_lt lD.2.2.2.2.2.1
  have xD : ∀ p ∈ rest3, p.1 ≠ dD := fun p hp => Nat.ne_of_lt (hkD p (by simp [hp]))
  obtain ⟨rest, hrest⟩ : ∃ r, r = (LD, listOf us.toArray 0) :: rest3 := ⟨_, rfl⟩
  have N7 : News s₁.heap L h6 ((P, x1.p C) :: (C, x1.c) :: (L + 1 + 1 + 1, o3) :: (L + 1 + 1, o2) :: (L + 1, o4) :: (dD, oD) :: rest) := news_sub N6 (by rw [hrest]; walk_at "m subl")
  have s3 : ∀ p ∈ rest3, p ∈ rest := fun p hp => hrest ▸ .tail _ hp
  have mL : (LD, listOf us.toArray 0) ∈ rest := hrest ▸ .head _
  have wP : ∀ p ∈ rest, p.1 ≠ P := hrest ▸ all_cons yP xP
  have wC : ∀ p ∈ rest, p.1 ≠ C := hrest ▸ all_cons yC xC
  have w1 : ∀ p ∈ rest, p.1 ≠ L + 1 := hrest ▸ all_cons y1 x1'
  have w2 : ∀ p ∈ rest, p.1 ≠ L + 1 + 1 := hrest ▸ all_cons y2 x2'
  have w3 : ∀ p ∈ rest, p.1 ≠ L + 1 + 1 + 1 := hrest ▸ all_cons y3 x3'
  have wD : ∀ p ∈ rest, p.1 ≠ dD := hrest ▸ all_cons z6 xD
  have mT4 := s3 _ mT
  have mK4 := s3 _ mK3
  have mN4 := s3 _ mN3
  have mG4 := s3 _ mG3
  have mR4 := s3 _ mR3
  have sO4 : ∀ p ∈ out, p ∈ rest := fun p hp => s3 _ (sO3 _ hp)
  have alT4 : Al (fun p (r : Int × T3) => p.1 = r.1 ∧ RowAt (inL rest) p.2 r.2) prs (chainT line gt line.length) := alT.mono fun p r z => ⟨z.1, z.2.le fun a o e => s3 _ e⟩
  have hl9 : (line ++ [0]).length = line.length + 1 := by rw [List.length_append, List.length_singleton]
  have hll9 : line.length ≤ 13 := by omega
  (try clear N6); (try clear hkD); (try clear lD); (try clear xD); (try clear hsD); (try clear fsD); (try clear fiD); (try clear xP); (try clear xC); (try clear x1'); (try clear x2'); (try clear x3'); (try clear yP); (try clear yC); (try clear y1); (try clear y2); (try clear y3); (try clear mT); (try clear mK3); (try clear mN3); (try clear mG3); (try clear mR3); (try clear sO3); (try clear alT); (try clear s3); (try clear hrest)
  refine For_turns F6 ?_
  walk_at "m walk"
  refine my_enum (l := LD) (vs := us) (c := 0) (DueJ w (baseD dD LD TR kD rD gD nL P S) P C (L + 1) (L + 1 + 1) (L + 1 + 1 + 1) dD (x1.p C) x1.c o4 o2 o3 line gt rest) rfl ?hmx7 F6 N7 ?hk1x7 ?hk2x7 ?hpx7 ?hJx7 ?turnx7 ?donex7
  case hmx7 => exact by k_mem
  case hk1x7 => rfl
  case hk2x7 => rfl
  case hpx7 => rfl
  case hJx7 => exact ⟨oD, [], [], fun _ _ _ => rfl, rfl, (fun _ h => nomatch h), hiD, .nil⟩
  case turnx7 =>
    intro i v t m₁ nw h tk I own hi hq91 hnI hown hlI hq92 hq93 F1 N1
    obtain ⟨oE, kv, out2, hm, hnw, hoff, hdE, al⟩ := hq91
    obtain ⟨oI, hoI⟩ := hq92
    obtain ⟨oI1, hoI1⟩ := hq93
    rw [two_form hm] at F1
    subst hnw
    obtain ⟨k, tk0, hk, rfl⟩ := ints_get hus hi
    (try clear hm); (try clear F6); (try clear N7); (try clear F8); (try clear N8)
    obtain ⟨rest2, hrest2⟩ : ∃ r, r = own ++ (out2 ++ rest) := ⟨_, rfl⟩
    change Fr s₁.heap L h (fun y => if y = Str.ofString "number" then some (Value.int k tk0) else if y = Str.ofString "at" then some (Value.int (i : Nat) t) else baseD dD LD TR kD rD gD nL P S y) at F1
    change News s₁.heap L h _ at N1
    dsimp only [baseD] at F1
    have hO : ∀ p ∈ (P, x1.p C) :: (C, x1.c) :: (L + 1 + 1 + 1, o3) :: (L + 1 + 1, o2) :: (L + 1, o4) :: (dD, oE) :: (out2 ++ rest), (@Ne Nat p.1 (I + 1)) ∧ (@Ne Nat p.1 I) := fun p hp => ⟨fun e => hnI p hp (by rw [e]; simp), fun e => hnI p hp (by rw [e]; simp)⟩
    have qD := hO (dD, oE) (by k_mem)
    have vD : ∀ p ∈ rest2, p.1 ≠ dD := by
      rw [hrest2]
      refine all_app (fun p hp => ?_) (all_app (fun p hp => (hoff p hp).2.2.2.2.2) wD)
      rcases hown p hp with e | e | e <;> rw [e]
      · exact Ne.symm qD.1
      · exact Ne.symm qD.2
      · exact z6
    have N2 : News s₁.heap L h ((P, x1.p C) :: (C, x1.c) :: (L + 1 + 1 + 1, o3) :: (L + 1 + 1, o2) :: (L + 1, o4) :: (dD, oE) :: rest2) := news_sub N1 (by rw [hrest2]; walk_at "m subl")
    have sR : ∀ p ∈ rest, p ∈ rest2 := fun p hp => hrest2 ▸ List.mem_append_right _ (List.mem_append_right _ hp)
    have mL2 := sR _ mL
    have mG2 := sR _ mG4
    have mI2 : (I, oI) ∈ rest2 := hrest2 ▸ List.mem_append_left _ hoI
    have mI12 : (I + 1, oI1) ∈ rest2 := hrest2 ▸ List.mem_append_left _ hoI1
    have hilt : i < line.length := (List.getElem?_eq_some_iff.mp hk).1
    have hct := chainT_length line gt i
    have hkv : kv.length ≤ 1000 := by rw [al.length]; omega
    (try clear N1); (try clear mT4); (try clear mK4); (try clear mN4); (try clear mR4); (try clear hend)
    have hsubm : ∀ (T : Addr × Obj) (oE' : Obj) (nw3 : List (Addr × Obj)), T ∈ nw3 → (P, x1.p C) ∈ nw3 → (C, x1.c) ∈ nw3 → (L + 1 + 1 + 1, o3) ∈ nw3 → (L + 1 + 1, o2) ∈ nw3 → (L + 1, o4) ∈ nw3 → (dD, oE') ∈ nw3 → (∀ p ∈ rest2, p ∈ nw3) → ∀ p ∈ own ++ ((P, x1.p C) :: (C, x1.c) :: (L + 1 + 1 + 1, o3) :: (L + 1 + 1, o2) :: (L + 1, o4) :: (dD, oE') :: ((T :: out2) ++ rest)), p ∈ nw3 := by
      intro T oE' nw3 a0 a1 a2 a3 a4 a5 a6 a7 p hp
      revert hp; revert p; walk_at "m all"
      · intro p q; exact a7 p (hrest2 ▸ List.mem_append_left _ q)
      · exact a1
      · exact a2
      · exact a3
      · exact a4
      · exact a5
      · exact a6
      · exact a0
      · intro p q; exact a7 p (hrest2 ▸ List.mem_append_right _ (List.mem_append_left _ q))
      · intro p q; exact a7 p (sR p q)
    have hIm : ∀ (T : Addr × Obj) (oE' : Obj), T.1 ≠ I + 1 → T.1 ≠ I → ∀ p ∈ (P, x1.p C) :: (C, x1.c) :: (L + 1 + 1 + 1, o3) :: (L + 1 + 1, o2) :: (L + 1, o4) :: (dD, oE') :: ((T :: out2) ++ rest), p.1 ∉ [I + 1, I] := by
      intro T oE' n1 n2 p hp
      revert hp; revert p; walk_at "m all"
      · exact hnI _ (by k_mem)
      · exact hnI _ (by k_mem)
      · exact hnI _ (by k_mem)
      · exact hnI _ (by k_mem)
      · exact hnI _ (by k_mem)
      · exact hnI (dD, oE) (by k_mem)
      · intro e
        simp only [List.mem_cons, List.not_mem_nil, or_false] at e
        rcases e with e | e
        · exact n1 e
        · exact n2 e
      · intro p q; exact hnI p (by k_mem)
      · intro p q; exact hnI p (by k_mem)
    have hfrm : ∀ y, y ≠ Str.ofString "number" → y ≠ Str.ofString "at" → (if y = Str.ofString "number" then some (Value.int k tk0) else if y = Str.ofString "at" then some (Value.int (i : Nat) t) else baseD dD LD TR kD rD gD nL P S y) = baseD dD LD TR kD rD gD nL P S y := fun y e1 e2 => by rw [if_neg e1, if_neg e2]
    (try clear hO); (try clear hnI)
    have pm : PassMark := passMark
    walk_at "m walk"
    all_goals (try clear pm)
    · rename_i lX hX hkX lX' D8 us8 h8 hI8 hk8 l8 n8 t8 hn8 a9 D9 h9 F9 N9 hk9 l9 h10 oE' F10 N10 d10
      have g1 : @LT.lt Nat _ I D9 := hk9 (I, oI) (by simp [mI2])
      have g2 : @LT.lt Nat _ (I + 1) D9 := hk9 (I + 1, oI1) (by simp [mI12])
      have hi0 : i = 0 := by omega
      refine TurnEndW.intro _ F10 (news_sub N10 (hsubm (D9, tupOf [.str _ _, .int n8 t8, .int 65535 _]) oE' _ (by k_mem) (by k_mem) (by k_mem) (by k_mem) (by k_mem) (by k_mem) (by k_mem) (fun p hp => by simp [hp]))) (hIm _ oE' ((by (try dsimp only); k_ne)) ((by (try dsimp only); k_ne))) ⟨oE', _, (D9, _) :: out2, hfrm, rfl, all_cons ⟨(by (try dsimp only); k_ne), (by (try dsimp only); k_ne), (by (try dsimp only); k_ne), (by (try dsimp only); k_ne), (by (try dsimp only); k_ne), (by (try dsimp only); k_ne)⟩ hoff, d10, due_step hk hn8 (by rw [if_pos hi0]) al⟩
    · rename_i lX hX hkX lX' D8 us8 h8 hI8 hk8 l8 n8 t8 hn8 a9 t9 D9 h9 F9 N9 hk9 l9 h10 oE' F10 N10 d10
      have g1 : @LT.lt Nat _ I D9 := hk9 (I, oI) (by simp [mI2])
      have g2 : @LT.lt Nat _ (I + 1) D9 := hk9 (I + 1, oI1) (by simp [mI12])
      have hi0 : ¬ i = 0 := by omega
      refine TurnEndW.intro _ F10 (news_sub N10 (hsubm (D9, tupOf [.str _ _, .int n8 t8, .int _ t9]) oE' _ (by k_mem) (by k_mem) (by k_mem) (by k_mem) (by k_mem) (by k_mem) (by k_mem) (fun p hp => by simp [hp]))) (hIm _ oE' ((by (try dsimp only); k_ne)) ((by (try dsimp only); k_ne))) ⟨oE', _, (D9, _) :: out2, hfrm, rfl, all_cons ⟨(by (try dsimp only); k_ne), (by (try dsimp only); k_ne), (by (try dsimp only); k_ne), (by (try dsimp only); k_ne), (by (try dsimp only); k_ne), (by (try dsimp only); k_ne)⟩ hoff, d10, due_step hk hn8 (by rw [if_neg hi0]) al⟩
  case donex7 =>
    intro m₁ nw h tk hq91 F1 N1
    obtain ⟨oE, kv, out2, hm, hnw, hoff, hdE, al⟩ := hq91
    (try clear F6); (try clear N7); (try clear F8); (try clear N8)
    rw [world_form2 hm] at F1
    generalize m₁ (Str.ofString "number") = vn at F1
    generalize m₁ (Str.ofString "at") = va at F1
    change Fr s₁.heap L h _ at F1
    change News s₁.heap L h nw at N1
    subst hnw
    have hul : us.length = line.length := hus.length
    rw [hul] at al
    obtain ⟨rest2, hrest2⟩ : ∃ r, r = (dD, oE) :: (out2 ++ rest) := ⟨_, rfl⟩
    have sR : ∀ p ∈ rest, p ∈ rest2 := fun p hp => hrest2 ▸ .tail _ (List.mem_append_right _ hp)
    have sE : ∀ p ∈ out2, p ∈ rest2 := fun p hp => hrest2 ▸ .tail _ (List.mem_append_left _ hp)
    have yP : ∀ p ∈ rest2, p.1 ≠ P := hrest2 ▸ all_cons z1 (all_app (fun p hp => (hoff p hp).1) wP)
    have yC : ∀ p ∈ rest2, p.1 ≠ C := hrest2 ▸ all_cons z2 (all_app (fun p hp => (hoff p hp).2.1) wC)
    have y1 : ∀ p ∈ rest2, p.1 ≠ L + 1 := hrest2 ▸ all_cons z5 (all_app (fun p hp => (hoff p hp).2.2.1) w1)
    have y2 : ∀ p ∈ rest2, p.1 ≠ L + 1 + 1 := hrest2 ▸ all_cons z4 (all_app (fun p hp => (hoff p hp).2.2.2.1) w2)
    have y3 : ∀ p ∈ rest2, p.1 ≠ L + 1 + 1 + 1 := hrest2 ▸ all_cons z3 (all_app (fun p hp => (hoff p hp).2.2.2.2.1) w3)
    have N2 : News s₁.heap L h ((P, x1.p C) :: (C, x1.c) :: (L + 1 + 1 + 1, o3) :: (L + 1 + 1, o2) :: (L + 1, o4) :: rest2) := news_sub N1 (by rw [hrest2]; walk_at "m subl")
    have mD : (dD, oE) ∈ rest2 := hrest2 ▸ .head _
    have mL5 := sR _ mL
    have mT5 := sR _ mT4
    have mK5 := sR _ mK4
    have mN5 := sR _ mN4
    have mG5 := sR _ mG4
    have mR5 := sR _ mR4
    have sO5 : ∀ p ∈ out, p ∈ rest2 := fun p hp => sR _ (sO4 _ hp)
    have alD : Al (fun p (r : Int × T3) => p.1 = r.1 ∧ RowAt (inL rest2) p.2 r.2) kv (chainT line gt line.length) := al.mono fun p r z => ⟨z.1, z.2.le fun a o e => sE _ e⟩
    have alT5 : Al (fun p (r : Int × T3) => p.1 = r.1 ∧ RowAt (inL rest2) p.2 r.2) prs (chainT line gt line.length) := alT4.mono fun p r z => ⟨z.1, z.2.le fun a o e => sR _ e⟩
    have u5 : ∀ p ∈ rest2, p ∈ ((P, x1.p C) :: (C, x1.c) :: (L + 1 + 1 + 1, o3) :: (L + 1 + 1, o2) :: (L + 1, o4) :: rest2) := fun p hp => by simp [hp]
    (try clear N1); (try clear al); (try clear alT4); (try clear hm); (try clear hoff); (try clear sR); (try clear sE); (try clear mL); (try clear mT4); (try clear mK4); (try clear mN4); (try clear mG4); (try clear mR4); (try clear sO4); (try clear wP); (try clear wC); (try clear w1); (try clear w2); (try clear w3); (try clear wD); (try clear z1); (try clear z2); (try clear z3); (try clear z4); (try clear z5); (try clear z6); (try clear hrest2); (try clear hiD)
    dsimp only [baseD] at F1
    walk_at "m walk"
    have hpos : ∀ k ∈ nums, 0 < k := fun k hk => (hnb k hk).1
    have hlnd : line.Nodup := hlin ▸ line_nodup hnd hpos
    refine ne_tables N2 (u5 _ mT5) (u5 _ mD) hdT hdE loT loD (alT5.mono fun p r z => ⟨z.1, z.2.le fun a o e => u5 _ e⟩) (alD.mono fun p r z => ⟨z.1, z.2.le fun a o e => u5 _ e⟩) (by k_units) (by ke_room) (fun r hr => by rw [chainT_free hlnd r hr]; first | rfl | decide +kernel) ?_
    walk_at "m walk"
    refine ne_ints (News.isList N2 (u5 _ mN5)) (News.isList N2 (u5 _ mK5)) hiN hiN (by ke_room) ?_
    walk_at "m walk"
    rename_i lZ hZ FZ NZ hkZ lZ' D2 us2 h2' F5 N5 hI5 hk5 l5
    refine' chain_call K F5 KX T N5 ?f1x10 ?f2x10 ?d1x10 ?d2x10 (News.isList N5 (.head _)) hI5 ?lnx10 (kda_dict N5 (by k_mem) diG) loG alG ?_
    case f1x10 => exact rfl
    case f2x10 => exact rfl
    case d1x10 => decide
    case d2x10 => decide
    case lnx10 => rw [List.length_append, List.length_singleton]; omega
    intro ch2 outC h6 tk6 line2 F6 N6 hnew6 hline2 hq91
    obtain ⟨oCh2, kCh2, hmCh2, diCh2, loCh2, alCh2⟩ := hq91
    rw [line_zero hpos, ← hlin] at hline2
    subst hline2
    have fr := news_fresh N5 hnew6
    obtain ⟨rest3, hrest3⟩ : ∃ r, r = outC ++ rest2 := ⟨_, rfl⟩
    have sR : ∀ p ∈ rest2, p ∈ rest3 := fun p hp => hrest3 ▸ List.mem_append_right _ hp
    have xP : ∀ p ∈ rest3, p.1 ≠ P := hrest3 ▸ all_app (fr (P, _) (by k_mem)) yP
    have xC : ∀ p ∈ rest3, p.1 ≠ C := hrest3 ▸ all_app (fr (C, _) (by k_mem)) yC
    have x1' : ∀ p ∈ rest3, p.1 ≠ L + 1 := hrest3 ▸ all_app (fr (L + 1, _) (by k_mem)) y1
    have x2' : ∀ p ∈ rest3, p.1 ≠ L + 1 + 1 := hrest3 ▸ all_app (fr (L + 1 + 1, _) (by k_mem)) y2
    have x3' : ∀ p ∈ rest3, p.1 ≠ L + 1 + 1 + 1 := hrest3 ▸ all_app (fr (L + 1 + 1 + 1, _) (by k_mem)) y3
    have N7 : News s₁.heap L h6 ((P, x1.p C) :: (C, x1.c) :: (L + 1 + 1 + 1, o3) :: (L + 1 + 1, o2) :: (L + 1, o4) :: rest3) := news_sub N6 (by rw [hrest3]; walk_at "m subl")
    have mCh3 : (ch2, oCh2) ∈ rest3 := hrest3 ▸ List.mem_append_left _ hmCh2
    have hkk : kCh2.map (·.1) = line2 := (al_keys alCh2).trans (chainT_keys hlnd)
    have hkl2 : kCh2.length ≤ 1000 := by rw [← List.length_map (f := (·.1)), hkk]; omega
    have hkl3 : (kCh2.map (·.1)).length < 64 := by rw [hkk]; omega
    have mD3 := sR _ mD
    have mL3 := sR _ mL5
    have mT3 := sR _ mT5
    have mN3 := sR _ mN5
    have mR3 := sR _ mR5
    have sO3 : ∀ p ∈ out, p ∈ rest3 := fun p hp => sR _ (sO5 _ hp)
    have alD3 : Al (fun p (r : Int × T3) => p.1 = r.1 ∧ RowAt (inL rest3) p.2 r.2) kv (chainT line2 gt line2.length) := alD.mono fun p r z => ⟨z.1, z.2.le fun a o e => sR _ e⟩
    have hkv : kv.length ≤ 1000 := by rw [alD.length, chainT_len hlnd]; omega
    (try clear hkZ); (try clear lZ'); (try clear FZ); (try clear NZ); (try clear hk5); (try clear l5); (try clear F5); (try clear N5); (try clear hI5); (try clear hnew6); (try clear fr); (try clear yP); (try clear yC); (try clear y1); (try clear y2); (try clear y3); (try clear N6); (try clear hmCh2); (try clear mD); (try clear mL5); (try clear mT5); (try clear mN5); (try clear mR5); (try clear mK5); (try clear mG5); (try clear sO5); (try clear alD); (try clear alT5); (try clear u5); (try clear sR); (try clear hrest3); (try clear hdT); (try clear loT); (try clear alCh2); (try clear alG); (try clear loG)
    walk_at "m walk"
    rename_i lD lC hL1 lvs FL NL hiL hkL lL sD sC' hS svs sns FS NS hiS hpS hoS hkS lS
    have hsn : sns = line2 := by rw [srt_of hpS hoS, hkk, hlin, srt_line hpos]
    subst hsn
    refine ne_ints (News.isList NS (.head _)) (News.isList NS (by k_mem)) hiS hus (by ke_room) ?_
    have N8 : News s₁.heap L hS ((P, x1.p C) :: (C, x1.c) :: (L + 1 + 1 + 1, o3) :: (L + 1 + 1, o2) :: (L + 1, o4) :: rest3) := news_sub NS (fun p hp => .tail _ (.tail _ hp))
    (try clear FL); (try clear NL); (try clear hiL); (try clear hkL); (try clear lL); (try clear NS); (try clear hiS); (try clear hpS); (try clear hoS); (try clear hkS); (try clear lS); (try clear N7); (try clear F6); (try clear hkk); (try clear diCh2); (try clear loCh2); (try clear mCh3); (try clear hkl2); (try clear hkl3)
    dsimp only
    walk_at "m walk"
    rename_i tT oTb hT1 loTb hdTb hkT lT h7 o5 F7 N7 d5
    exact law_three (s₁ := s₁) (fa := fa) (w10 := w10) (kG := kG) (oG := oG) (kC := kC) KX T K q1 q2 q3 q4 q5 q6 q7 hiN hnd hend d3 d2 d4 hnb hrb hgR hnl hrl hgl diR loR alR hkr hpos hlnd hlin xP xC x1' x2' x3' mN3 mR3 sO3 hll9 alD3 loTb hdTb hkT lT d5 F7 N7
theorem law_one {w : World} {s₀ s₁ : Shared} {mg mb : Str → Option Value} {fa w10 : Addr} {L : Nat} {P C nL gD rD kD S : Addr} {x1 : Pen} {o3 o2 o4 oG oR : Obj} {vsN : List Value} {cN kC tk : Nat} {nums : List Int} {gt : List (Int × Int)} {rt : List (Int × T3)} {kG kR : List (Int × Value)} {out : List (Addr × Obj)} {ch : Addr} {Qk : Flow → Shared → Prop} {oCh : Obj} {kCh : List (Int × Value)} {rest outC : List (Addr × Obj)} {line : List Int} {h10 : Heap}
  (KX : (hd.heap_39 w.params).In s₁.heap) (T : Top hd.view_39 (looseW hd.view_39 [Str.ofString "PaperError"]) (ExcName.means s₀.heap) mg mb s₁.heap) (K : Below callerA s₁.heap [] s₁.heap) (q1 : @Ne Nat P (L + 1)) (q2 : @Ne Nat P (L + 1 + 1)) (q3 : @Ne Nat P (L + 1 + 1 + 1)) (q4 : @Ne Nat C (L + 1)) (q5 : @Ne Nat C (L + 1 + 1)) (q6 : @Ne Nat C (L + 1 + 1 + 1)) (q7 : @Ne Nat P C) (hiN : IntsAre vsN nums) (hnd : nums.Nodup) (hend : ∀ (h' : Heap) (tk : Nat) (m' : Str → Option Value), Fr s₁.heap L h' m' → Qk (.ret (.bool true)) { s₁ with heap := h', toks := tk }) (d3 : o3.data = .cell none) (d2 : o2.data = .cell none) (d4 : o4.data = .cell (some (.ref ch))) (hnb : ∀ (k : Int), k ∈ nums → 0 < k ∧ k < 1000) (hrb : ∀ (p : Int × T3), p ∈ rt → 0 < p.1 ∧ p.1 ∉ nums ∧ p.2.1 ≠ ("free" : Str)) (hgR : GoodT rt) (hnl : nums.length ≤ 12) (hrl : rt.length ≤ 12) (hgl : gt.length ≤ 12) (diG : oG.IsDictOf (intKind PR w) kG) (loG : (gD == sysModules) = false) (alG : Al (fun kv r => kv.1 = r.1 ∧ IntAt kv.2 r.2) kG gt) (diR : oR.IsDictOf (intKind PR w) kR) (loR : (rD == sysModules) = false) (alR : Al (fun kv r => kv.1 = r.1 ∧ RowAt (inL out) kv.2 r.2) kR rt) (hkl : kG.length ≤ 1000) (hkr : kR.length ≤ 1000) (hline : line = 0 :: List.filter (fun a => decide (0 < a)) (srt nums)) (diCh : oCh.IsDictOf (intKind PR w) kCh) (loCh : (ch == sysModules) = false) (alCh : Al (fun kv r => kv.1 = r.1 ∧ EntAt w (inL outC) kv.2 r.2) kCh (chainT line gt line.length)) (sC : ∀ (p : Addr × Obj), p ∈ outC → p ∈ rest) (sO : ∀ (p : Addr × Obj), p ∈ out → p ∈ rest) (mK : (kD, listOf vsN.toArray kC) ∈ rest) (mN : (nL, listOf vsN.toArray cN) ∈ rest) (mG : (gD, oG) ∈ rest) (mR : (rD, oR) ∈ rest) (mCh : (ch, oCh) ∈ rest) (vP : ∀ p ∈ rest, p.1 ≠ P) (vC : ∀ p ∈ rest, p.1 ≠ C) (v3 : ∀ p ∈ rest, p.1 ≠ L + 1 + 1 + 1) (v2 : ∀ p ∈ rest, p.1 ≠ L + 1 + 1) (v1 : ∀ p ∈ rest, p.1 ≠ L + 1) (hkc : kCh.length ≤ 1000) (F10 : Fr s₁.heap L h10 (fun y => if y = Str.ofString "kept" then some (Value.ref kD) else if y = Str.ofString "rows" then some (Value.ref rD) else if y = Str.ofString "generations" then some (Value.ref gD) else if y = Str.ofString "numbers" then some (Value.ref nL) else if y = Str.ofString "pen" then some (Value.ref P) else if y = Str.ofString "script" then some (Value.ref S) else none)) (N10 : News s₁.heap L h10 ((P, x1.p C) :: (C, x1.c) :: (L + 1 + 1 + 1, o3) :: (L + 1 + 1, o2) :: (L + 1, o4) :: rest)) :
  wpAny (model PR w) (callerA.deeper (lawEnv L fa (.ref w10))) (execs lawRest4 (lawEnv L fa (.ref w10))) Qk (fun _ _ => False) { s₁ with heap := h10, toks := tk } := by
  unfold lawEnv
  conv in lawRest4 => whnf
  conv in (occs := *) lawScope => all_goals whnf
  dsimp only
  have pm : PassMark := passMark
  (first | walk1 | (dsimp only; walk1))
  clear pm
  walk_at "m walk"
  refine comp_eval (cl := [(Str.ofString "chain", L + 1)]) (h₀ := s₁.heap) (L := L) ?hcx3 ?hkx3 ?hnx3 ?hcex3 ?hxx3 ?_
  case hcx3 => rfl
  case hkx3 => rfl
  case hnx3 => decide
  case hcex3 => decide
  case hxx3 => rfl
  walk_at "m walk"

  refine compAt_keys (knd := intKind PR w) (d := ch) (kvs := kCh) (ToldJ w P C (L + 1) (L + 1 + 1) (L + 1 + 1 + 1) (x1.p C) x1.c o4 o2 o3 (chainT line gt line.length) rest) rfl (kda_dict N10 (.tail _ (.tail _ (.tail _ (.tail _ (.tail _ mCh))))) diCh) loCh (N10 _ (.tail _ (.tail _ (.tail _ (.tail _ (.tail _ mCh)))))).2.1 hkc F10 N10 ?hJx3 ?turnx3 ?donex3
  case hJx3 => exact ⟨[], [], rfl, (fun _ h => nomatch h), .nil, by rw [List.take_zero]; exact .nil⟩
  case turnx3 =>
    intro I hIT i v ys nw h tk own C' oC' D ep mC hi hyl hP hJ hoC hv hown hn hfp hDC F1 N1
    obtain ⟨out2, prs, rfl, hoff, a1, a2⟩ := hJ
    obtain ⟨k, x, hkx, hkv⟩ := hP
    obtain ⟨tk0, rfl⟩ := intKind_inv hkv
    obtain ⟨⟨k', way, one, two⟩, hr, hkr, ⟨X, dx, k0, k1, k2, t0, t1, t2, rfl, hX, hdx⟩⟩ := alCh.get hkx
    dsimp only at hkr hX hdx
    subst hkr
    have hva : valueAt kCh k = some (.ref X) := valueAt_of_get (keysNodup_of_isDictOf diCh) hkx
    have mX := sC _ hX
    have mdx := sC _ hdx
    obtain ⟨rest2, hrest2⟩ : ∃ r, r = own ++ (out2 ++ rest) := ⟨_, rfl⟩
    have sR : ∀ p ∈ rest, p ∈ rest2 := fun p hp => hrest2 ▸ List.mem_append_right _ (List.mem_append_right _ hp)
    have mX2 := sR _ mX
    have mdx2 := sR _ mdx
    have mCh2 := sR _ mCh
    have hCD : @LT.lt Nat _ D C' := hDC
    have hI := hfp I (.head _)
    have b1 := hn (P, _) (.head _)
    have b2 := hn (C, _) (.tail _ (.head _))
    have b3 := hn (L + 1 + 1 + 1, _) (.tail _ (.tail _ (.head _)))
    have b4 := hn (L + 1 + 1, _) (.tail _ (.tail _ (.tail _ (.head _))))
    have b5 := hn (L + 1, _) (.tail _ (.tail _ (.tail _ (.tail _ (.head _)))))
    have N2 : News s₁.heap L h ((C', oC') :: (D, listOf ys.toArray ep) :: (L + 1, o4) :: (L + 1 + 1, o2) :: (L + 1 + 1 + 1, o3) :: (P, x1.p C) :: (C, x1.c) :: rest2) := news_sub N1 (by rw [hrest2]; walk_at "m subl")
    (try clear N1); (try clear F10); (try clear N10); (try clear mX); (try clear mdx); (try clear mCh); (try clear hX); (try clear hdx); (try clear hmCh); (try clear mN); (try clear mK); (try clear mG); (try clear mR); (try clear hmG); (try clear hmR)
    show wpAny _ _ (pure true) _ _ _
    refine wpAny_pure ?_
    rw [if_pos rfl]
    walk_at "m walk"
    dsimp only [List.append_nil, List.nil_append, List.cons_append]
    refine' told_call (X := X) (r := (way, one, two)) (news := (C', oC') :: (D, listOf ys.toArray ep) :: (L + 1, o4) :: (L + 1 + 1, o2) :: (L + 1 + 1 + 1, o3) :: (P, x1.p C) :: (C, x1.c) :: rest2) K F1 KX T N2 ?f1x4 ?f2x4 ?d1x4 ?hXx4 ?_
    case f1x4 => exact rfl
    case f2x4 => exact rfl
    case d1x4 => decide
    case hXx4 => exact ⟨X, dx, k0, k1, k2, t0, t1, t2, rfl, by k_mem, by k_mem⟩
    intro tp hT tkT u0 u1 u2 FT NT hnT
    have lX : @LT.lt Nat _ C' tp := hnT (C', _) (.head _)
    have lX2 : @LT.lt Nat _ D tp := hnT (D, _) (.tail _ (.head _))
    have lX3 : @LT.lt Nat _ (L + 1) tp := hnT (L + 1, _) (by k_mem)
    have lX4 : @LT.lt Nat _ (L + 1 + 1) tp := hnT (L + 1 + 1, _) (by k_mem)
    have lX5 : @LT.lt Nat _ (L + 1 + 1 + 1) tp := hnT (L + 1 + 1 + 1, _) (by k_mem)
    have lX6 : @LT.lt Nat _ P tp := hnT (P, _) (by k_mem)
    have lX7 : @LT.lt Nat _ C tp := hnT (C, _) (by k_mem)
    (try clear hnT); (try clear F1); (try clear N2)
    walk_at "m walk"
    rename_i D9 h9' F9 N9 hk9 l9
    have hI1 : @LT.lt Nat _ I D := hI.1
    have lY : @LT.lt Nat _ tp D9 := l9.1
    (try clear hk9)
    show CompEnd _ _ _ _ _ _ _ _ _ _ _ _
    refine CompEnd.intro ((P, x1.p C) :: (C, x1.c) :: (L + 1 + 1 + 1, o3) :: (L + 1 + 1, o2) :: (L + 1, o4) :: (((D9, tupOf [.int k tk0, .ref tp]) :: (tp, tupOf [.str way u0, .int one u1, .int two u2]) :: out2) ++ rest)) F9 (news_sub N9 fun p hp => ?_) (fun p hp => ?_) ⟨(D9, tupOf [.int k tk0, .ref tp]) :: (tp, tupOf [.str way u0, .int one u1, .int two u2]) :: out2, prs ++ [(k, .ref tp)], rfl, fun p hp => ?_, Al.snoc (a1.mono fun v p z => let ⟨a, key, e, hm, hk⟩ := z; ⟨a, key, e, .tail _ (.tail _ hm), hk⟩) ⟨D9, .int k tk0, rfl, .head _, hkv⟩, ?_⟩
    · revert hp; revert p; rw [hrest2]; walk_at "m subl"
    · revert hp; revert p; walk_at "m all"
      · exact b1
      · exact b2
      · exact b3
      · exact b4
      · exact b5
      · exact ⟨(by (try dsimp only); k_ne), (by (try dsimp only); k_ne), (by (try dsimp only); k_ne)⟩
      · exact ⟨(by (try dsimp only); k_ne), (by (try dsimp only); k_ne), (by (try dsimp only); k_ne)⟩
      · intro p hp; exact hn _ (.tail _ (.tail _ (.tail _ (.tail _ (.tail _ (List.mem_append_left _ hp))))))
      · intro p hp; exact hn _ (.tail _ (.tail _ (.tail _ (.tail _ (.tail _ (List.mem_append_right _ hp))))))
    · revert hp; revert p; walk_at "m all"
      · exact ⟨(by (try dsimp only); k_ne), (by (try dsimp only); k_ne), (by (try dsimp only); k_ne), (by (try dsimp only); k_ne), (by (try dsimp only); k_ne)⟩
      · exact ⟨(by (try dsimp only); k_ne), (by (try dsimp only); k_ne), (by (try dsimp only); k_ne), (by (try dsimp only); k_ne), (by (try dsimp only); k_ne)⟩
      · intro p hp; exact hoff p hp
    · rw [List.take_add_one, hr]
      exact Al.snoc (a2.mono fun p r z => ⟨z.1, z.2.le fun a o e => .tail _ (.tail _ e)⟩) ⟨rfl, tp, u0, u1, u2, rfl, .tail _ (.head _)⟩
  case donex3 =>
    intro D h2 tk2 ep ys nw hJ F2 N2 hne hyl
    obtain ⟨out2, prs, rfl, hoff, a1, a2⟩ := hJ
    have htl : (chainT line gt line.length).length = kCh.length := alCh.length.symm
    rw [← htl, List.take_length] at a2
    have hpk : prs.map (·.1) = kCh.map (·.1) := (al_keys a2).trans (al_keys alCh).symm
    have hpl : prs.length ≤ 1000 := by rw [a2.length, htl]; exact hkc
    have pm : PassMark := passMark
    walk_at "m walk"
    clear pm
    refine dict_pairs (pairs := prs) rfl F2 N2 T.nolimit (N2.get (.head _)) ?_ ?_ (hpk ▸ keysNodup_of_isDictOf diCh) ?_
    · exact a1.mono fun v p ⟨a, key, e, hm, hk⟩ => ⟨a, key, e, N2.get (.tail _ (.tail _ (.tail _ (.tail _ (.tail _ (.tail _ (List.mem_append_left _ hm))))))), hk⟩
    · rw [List.size_toArray, a1.length]; omega
    intro TR oT h3 tk3 F3 N3 l3 loT hdT
    obtain ⟨rest3, hrest3⟩ : ∃ r, r = (TR, oT) :: (out2 ++ rest) := ⟨_, rfl⟩
    have sR : ∀ p ∈ rest, p ∈ rest3 := fun p hp => hrest3 ▸ .tail _ (List.mem_append_right _ hp)
    have sT : ∀ p ∈ out2, p ∈ rest3 := fun p hp => hrest3 ▸ .tail _ (List.mem_append_left _ hp)
    have mT : (TR, oT) ∈ rest3 := hrest3 ▸ .head _
    have xP : ∀ p ∈ rest3, p.1 ≠ P := hrest3 ▸ all_cons (Nat.ne_of_gt (l3 (P, _) (by k_mem))) (all_app (fun p hp => (hoff p hp).1) vP)
    have xC : ∀ p ∈ rest3, p.1 ≠ C := hrest3 ▸ all_cons (Nat.ne_of_gt (l3 (C, _) (by k_mem))) (all_app (fun p hp => (hoff p hp).2.1) vC)
    have x1' : ∀ p ∈ rest3, p.1 ≠ L + 1 := hrest3 ▸ all_cons (Nat.ne_of_gt (l3 (L + 1, _) (by k_mem))) (all_app (fun p hp => (hoff p hp).2.2.1) v1)
    have x2' : ∀ p ∈ rest3, p.1 ≠ L + 1 + 1 := hrest3 ▸ all_cons (Nat.ne_of_gt (l3 (L + 1 + 1, _) (by k_mem))) (all_app (fun p hp => (hoff p hp).2.2.2.1) v2)
    have x3' : ∀ p ∈ rest3, p.1 ≠ L + 1 + 1 + 1 := hrest3 ▸ all_cons (Nat.ne_of_gt (l3 (L + 1 + 1 + 1, _) (by k_mem))) (all_app (fun p hp => (hoff p hp).2.2.2.2) v3)
    have N4 : News s₁.heap L h3 ((P, x1.p C) :: (C, x1.c) :: (L + 1 + 1 + 1, o3) :: (L + 1 + 1, o2) :: (L + 1, o4) :: rest3) := news_sub N3 (by rw [hrest3]; walk_at "m subl")
    have alT : Al (fun p (r : Int × T3) => p.1 = r.1 ∧ RowAt (inL rest3) p.2 r.2) prs (chainT line gt line.length) := a2.mono fun p r z => ⟨z.1, z.2.le fun a o e => sT _ e⟩
    have mK3 := sR _ mK
    have mN3 := sR _ mN
    have mG3 := sR _ mG
    have mR3 := sR _ mR
    have sO3 : ∀ p ∈ out, p ∈ rest3 := fun p hp => sR _ (sO _ hp)
    have hnl1 : nums.length ≤ 1000 := by omega
    have hll : line.length ≤ nums.length + 1 := by rw [hline, List.length_cons]; have := List.length_filter_le (fun a => decide (0 < a)) (srt nums); rw [(srt_perm nums).length_eq] at this; omega
    (try clear N3); (try clear l3); (try clear a1); (try clear a2); (try clear hpk); (try clear sT); (try clear F2); (try clear N2); (try clear hoff); (try clear hrest3); (try clear sC); (try clear sO); (try clear mK); (try clear mN); (try clear mG); (try clear mR); (try clear mCh); (try clear vP); (try clear vC); (try clear v1); (try clear v2); (try clear v3); (try clear hrest); (try clear sR); (try clear hyl); (try clear hne); (try clear F10); (try clear N10); (try clear alCh); (try clear diCh); (try clear hmCh); (try clear loCh); (try clear hmR); (try clear hmG); (try clear hkc); (try clear htl)
    walk_at "m walk"
    rename_i Z0 tk hZ FZ NZ hkZ lZ SD cS hS vsS nsS FS NS hiS hpS hoS hkS lS
    have hns : nsS = srt nums := srt_of hpS hoS
    subst hns
    have hsl : (srt nums).length ≤ 12 := by rw [(srt_perm nums).length_eq]; exact hnl
    refine kmk_add_ints FS NS (News.isList NS (.tail _ (.head _))) (News.isList NS (.head _)) (.cons _ _ .nil) hiS ?_ ?zx6
    case zx6 => rw [sizeLine_eq, List.length_singleton]; omega
    intro LD us h4 F4 N4 l4 hus
    have hfil : List.filter (fun a => decide (0 < a)) (srt nums) = srt nums := by
      rw [List.filter_eq_self]
      intro a ha
      have := hnb a ((srt_perm nums).mem_iff.mp ha)
      simpa using this.1
    have hlin : line = 0 :: srt nums := by rw [hline, hfil]
    change IntsAre us (0 :: srt nums) at hus
    rw [← hlin] at hus
    have yP : @Ne Nat LD P := Nat.ne_of_gt (l4 (P, _) (by k_mem))
    have yC : @Ne Nat LD C := Nat.ne_of_gt (l4 (C, _) (by k_mem))
    have y1 : @Ne Nat LD (L + 1) := Nat.ne_of_gt (l4 (L + 1, _) (by k_mem))
    have y2 : @Ne Nat LD (L + 1 + 1) := Nat.ne_of_gt (l4 (L + 1 + 1, _) (by k_mem))
    have y3 : @Ne Nat LD (L + 1 + 1 + 1) := Nat.ne_of_gt (l4 (L + 1 + 1 + 1, _) (by k_mem))
    have N5 : News s₁.heap L h4 ((P, x1.p C) :: (C, x1.c) :: (L + 1 + 1 + 1, o3) :: (L + 1 + 1, o2) :: (L + 1, o4) :: (LD, listOf us.toArray 0) :: rest3) := news_sub N4 (by walk_at "m subl")
    (try clear N4); (try clear l4); (try clear FZ); (try clear NZ); (try clear hkZ); (try clear lZ); (try clear FS); (try clear NS); (try clear hiS); (try clear hpS); (try clear hoS); (try clear hkS); (try clear lS)
    dsimp only
    walk_at "m walk"
    rename_i dD hDx oD loD hsD fsD hiD fiD hkD lD h6 F6 N6
    exact law_two (s₁ := s₁) (fa := fa) (w10 := w10) KX T K q1 q2 q3 q4 q5 q6 q7 hiN hnd hend d3 d2 d4 hnb hrb hgR hnl hrl hgl diG loG alG diR loR alR hkl hkr loT hdT mT xP xC x1' x2' x3' alT mK3 mN3 mG3 mR3 sO3 hll hsl hline hlin hus yP yC y1 y2 y3 loD hiD hkD lD F6 N6
local macro_rules | `(tactic| k_qdec) => `(tactic| decide +kernel)
theorem law_head : PySem.Challenge.rw_nn0193_01.Holds := by
  refine hd ?_
  w_strict (k_go0; (all_goals try k_fold))
  rename_i w s₀ s₁ mg mb G Y fa o pm doc ho hg KX X V GL T B TE TW w12 w11 M w10 w9 hcd ns hs hlay0 hL' hr1 hl2 w7 w6 S vs w3 hL ra w1 r0 hI hr hcond1 hcond K0 hD h₁ tk₁ F o3 o2 o1 d3 d2 d1 N0 X0
  have hend : ∀ (h' : Heap) (tk : Nat) (m' : Str → Option Value), Fr s₁.heap s₁.heap.objs.size h' m' → qk (.ret (.bool true)) { s₁ with heap := h', toks := tk } := by
    intro h' tk m' F'
    dsimp only [qk]
    first
    | (k_end; kc_close)
    | (k_end; wrow_close)
    | (kc_close)
    | (wrow_close)
    | exact ⟨.inl ⟨_, _, _, rfl, fun _ => rfl, .bool _, rfl, fun _ => ⟨List.nodup_nil, fun _ h => nomatch h⟩⟩, F'.keep, rfl, hg⟩
  generalize hq : qk = Qk at hend
  have K : Below callerA s₁.heap [] s₁.heap := K0
  (try clear hq); (try clear hs); (try clear hlay0); (try clear hL'); (try clear hr1); (try clear hl2); (try clear hcond); (try clear X0); (try clear hD); (try clear K0); (try clear hr); (try clear w1); (try clear r0); (try clear ra); (try clear M); (try clear hcd); (try clear ho); (try clear hg); (try clear Y); (try clear X); (try clear V); (try clear GL); (try clear B); (try clear TE); (try clear TW)
  refine wpAny_mono (E := fun _ _ => False) ?_ (fun _ _ q => q) (fun _ _ q => q.elim)
  (try clear G); (try clear w12); (try clear w11); (try clear w7); (try clear w6); (try clear w3); (try clear ek); (try clear qk)
  replace d3 : o3.data = .cell none := d3
  replace d2 : o2.data = .cell none := d2
  replace d1 : o1.data = .cell none := d1
  replace F : Fr s₁.heap s₁.heap.objs.size h₁ (fun y => if y = Str.ofString "script" then some (Value.ref S) else none) := F
  generalize hLL : s₁.heap.objs.size = L at *
  walk_at "m walk"
  refine' pen_call K F KX T N0 ?f1x1 ?f2x1 ?d1x1 ?d2x1 (isList_fr F hL) hI ?l1x1 ?_
  case f1x1 => exact rfl
  case f2x1 => exact rfl
  case d1x1 => decide
  case d2x1 => decide
  case l1x1 => omega
  intro P C x0 h2 tk2 F2 N2 hPC hnew2
  have eC1 := (hnew2 _ _ (N0.get (.tail _ (.tail _ (.head _)))))
  have eC2 := (hnew2 _ _ (N0.get (.tail _ (.head _))))
  have eC3 := (hnew2 _ _ (N0.get (.head _)))
  (try clear F); (try clear hnew2); (try clear N0)
  have q1 : @Ne Nat P (L + 1) := eC1.1
  have q2 : @Ne Nat P (L + 1 + 1) := eC2.1
  have q3 : @Ne Nat P (L + 1 + 1 + 1) := eC3.1
  have q4 : @Ne Nat C (L + 1) := eC1.2
  have q5 : @Ne Nat C (L + 1 + 1) := eC2.2
  have q6 : @Ne Nat C (L + 1 + 1 + 1) := eC3.2
  have q7 : @Ne Nat P C := hPC
  (try clear eC1); (try clear eC2); (try clear eC3)
  walk_at "m walk"
  rename_i hA FA NA
  refine' world_call K ?Fx1 KX T ?Nx1 ?U1x1 ?U2x1 hPC ?f1x1 ?f2x1 ?d1x1 ?d2x1 ?_
  case Fx1 => assumption
  case Nx1 => assumption
  case U1x1 => k_updF
  case U2x1 => intro _; k_updF
  case f1x1 => exact rfl
  case f2x1 => exact rfl
  case d1x1 => decide
  case d2x1 => decide
  intro tp nL gD rD vsN cN nums gt rt out h3 tk3 x1 F3 N3 hnew3 hm1 hm2 hiN dG dR hnd hnb hrb hgR hnl hrl hgl
  try dsimp only at N3
  obtain ⟨oG, kG, hmG, diG, loG, alG⟩ := dG
  obtain ⟨oR, kR, hmR, diR, loR, alR⟩ := dR
  have fo : ∀ p ∈ out, p.1 ≠ P ∧ p.1 ≠ C ∧ p.1 ≠ L + 1 + 1 + 1 ∧ p.1 ≠ L + 1 + 1 ∧ p.1 ≠ L + 1 := fun p hp => ⟨hnew3 p hp _ _ (NA.get (.head _)), hnew3 p hp _ _ (NA.get (.tail _ (.head _))), hnew3 p hp _ _ (NA.get (.tail _ (.tail _ (.head _)))), hnew3 p hp _ _ (NA.get (.tail _ (.tail _ (.tail _ (.head _))))), hnew3 p hp _ _ (NA.get (.tail _ (.tail _ (.tail _ (.tail _ (.head _))))))⟩
  have N4 : News s₁.heap L h3 ((P, x1.p C) :: (C, x1.c) :: (L + 1 + 1 + 1, o3) :: (L + 1 + 1, o2) :: (L + 1, o1) :: (tp, tupOf [.ref nL, .ref gD, .ref rD]) :: (nL, listOf vsN.toArray cN) :: (gD, oG) :: (rD, oR) :: out) := news_sub N3 (by
    intro p hp
    simp only [List.mem_cons] at hp
    simp only [List.mem_append, List.mem_cons, List.not_mem_nil, or_false]
    rcases hp with h | h | h | h | h | h | h | h | h | h
    · right; left; exact h
    · right; right; left; exact h
    · right; right; right; left; exact h
    · right; right; right; right; left; exact h
    · right; right; right; right; right; exact h
    · left; rw [h]; exact hm1
    · left; rw [h]; exact hm2
    · left; rw [h]; exact hmG
    · left; rw [h]; exact hmR
    · left; exact h)
  have uP : ∀ p ∈ out, p.1 ≠ P := fun p hp => (fo p hp).1
  have uC : ∀ p ∈ out, p.1 ≠ C := fun p hp => (fo p hp).2.1
  have u3 : ∀ p ∈ out, p.1 ≠ L + 1 + 1 + 1 := fun p hp => (fo p hp).2.2.1
  have u2 : ∀ p ∈ out, p.1 ≠ L + 1 + 1 := fun p hp => (fo p hp).2.2.2.1
  have u1 : ∀ p ∈ out, p.1 ≠ L + 1 := fun p hp => (fo p hp).2.2.2.2
  have r1 : @Ne Nat nL P := uP _ hm2
  have r2 : @Ne Nat nL C := uC _ hm2
  have r3 : @Ne Nat nL (L + 1 + 1 + 1) := u3 _ hm2
  have r4 : @Ne Nat nL (L + 1 + 1) := u2 _ hm2
  have r5 : @Ne Nat nL (L + 1) := u1 _ hm2
  have r11 : @Ne Nat gD P := uP _ hmG
  have r12 : @Ne Nat gD C := uC _ hmG
  have r13 : @Ne Nat gD (L + 1 + 1 + 1) := u3 _ hmG
  have r14 : @Ne Nat gD (L + 1 + 1) := u2 _ hmG
  have r15 : @Ne Nat gD (L + 1) := u1 _ hmG
  have r21 : @Ne Nat rD P := uP _ hmR
  have r22 : @Ne Nat rD C := uC _ hmR
  have r23 : @Ne Nat rD (L + 1 + 1 + 1) := u3 _ hmR
  have r24 : @Ne Nat rD (L + 1 + 1) := u2 _ hmR
  have r25 : @Ne Nat rD (L + 1) := u1 _ hmR
  have r31 : @Ne Nat tp P := uP _ hm1
  have r32 : @Ne Nat tp C := uC _ hm1
  have r33 : @Ne Nat tp (L + 1 + 1 + 1) := u3 _ hm1
  have r34 : @Ne Nat tp (L + 1 + 1) := u2 _ hm1
  have r35 : @Ne Nat tp (L + 1) := u1 _ hm1
  have hkl : kG.length ≤ 1000 := by rw [alG.length]; omega
  have hkr : kR.length ≤ 1000 := by rw [alR.length]; omega
  (try clear N3); (try clear hnew3); (try clear FA); (try clear NA); (try clear fo)
  walk_at "m walk"
  rename_i kD kC h5 hk1 lk1 h6 nD nC h7 F7 N7 hk2 lk2 gE oE h8 F8 N8 loE hdE hk3 lk3
  (try clear F7); (try clear N7); (try clear hk2); (try clear lk2)
  refine' chain_call K F8 KX T N8 ?f1x2 ?f2x2 ?d1x2 ?d2x2 (News.isList N8 (.tail _ (.head _))) hiN ?lnx2 (kda_dict N8 (.head _) hdE) loE alG ?_
  case f1x2 => exact rfl
  case f2x2 => exact rfl
  case d1x2 => decide
  case d2x2 => decide
  case lnx2 => omega
  intro ch outC h9 tk9 line F9 N9 hnew9 hline hq91
  obtain ⟨oCh, kCh, hmCh, diCh, loCh, alCh⟩ := hq91
  have fr := news_fresh N8 hnew9
  obtain ⟨rest, hrest⟩ : ∃ r, r = (kD, listOf vsN.toArray kC) :: (outC ++ out) := ⟨_, rfl⟩
  have sC : ∀ p ∈ outC, p ∈ rest := fun p hp => hrest ▸ .tail _ (List.mem_append_left _ hp)
  have sO : ∀ p ∈ out, p ∈ rest := fun p hp => hrest ▸ .tail _ (List.mem_append_right _ hp)
  have mK : (kD, listOf vsN.toArray kC) ∈ rest := hrest ▸ .head _
  have mN := sO _ hm2
  have mG := sO _ hmG
  have mR := sO _ hmR
  have mCh := sC _ hmCh
  have vP : ∀ p ∈ rest, p.1 ≠ P := hrest ▸ all_cons ((by (try dsimp only); k_ne)) (all_app (fr (P, _) (by k_mem)) uP)
  have vC : ∀ p ∈ rest, p.1 ≠ C := hrest ▸ all_cons ((by (try dsimp only); k_ne)) (all_app (fr (C, _) (by k_mem)) uC)
  have v3 : ∀ p ∈ rest, p.1 ≠ L + 1 + 1 + 1 := hrest ▸ all_cons ((by (try dsimp only); k_ne)) (all_app (fr (L + 1 + 1 + 1, _) (by k_mem)) u3)
  have v2 : ∀ p ∈ rest, p.1 ≠ L + 1 + 1 := hrest ▸ all_cons ((by (try dsimp only); k_ne)) (all_app (fr (L + 1 + 1, _) (by k_mem)) u2)
  have v1 : ∀ p ∈ rest, p.1 ≠ L + 1 := hrest ▸ all_cons ((by (try dsimp only); k_ne)) (all_app (fr (L + 1, _) (by k_mem)) u1)
  have N10 : News s₁.heap L h9 ((P, x1.p C) :: (C, x1.c) :: (L + 1 + 1 + 1, o3) :: (L + 1 + 1, o2) :: (L + 1, o1) :: rest) := news_sub N9 (by rw [hrest]; walk_at "m subl")
  (try clear N9); (try clear hnew9); (try clear fr); (try clear N8); (try clear F8); (try clear hk1); (try clear lk1); (try clear hk3); (try clear lk3); (try clear hdE); (try clear loE); (try clear uP); (try clear uC); (try clear u1); (try clear u2); (try clear u3); (try clear r1); (try clear r2); (try clear r3); (try clear r4); (try clear r5); (try clear r11); (try clear r12); (try clear r13); (try clear r14); (try clear r15); (try clear r21); (try clear r22); (try clear r23); (try clear r24); (try clear r25); (try clear r31); (try clear r32); (try clear r33); (try clear r34); (try clear r35); (try clear hm1); (try clear tp)
  have hkc : kCh.length ≤ 1000 := by
    have := chainT_length line gt line.length
    have : line.length ≤ nums.length + 1 := by rw [hline, List.length_cons]; have := List.length_filter_le (fun a => decide (0 < a)) (srt nums); rw [(srt_perm nums).length_eq] at this; omega
    rw [alCh.length]; omega
  walk_at "m walk"
  rename_i h10 o4 F10 N10 d4
  exact law_one (s₁ := s₁) (fa := fa) (w10 := w10) KX T K q1 q2 q3 q4 q5 q6 q7 hiN hnd hend d3 d2 d4 hnb hrb hgR hnl hrl hgl diG loG alG diR loR alR hkl hkr hline diCh loCh alCh sC sO mK mN mG mR mCh vP vC v3 v2 v1 hkc F10 N10
end
end Mine
theorem PySem.Challenge.cw_nn0193_01_holds : PySem.Challenge.rw_nn0193_01.Holds := by
  exact Mine.law_head
