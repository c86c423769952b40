import PyProof.Rows.All
import Wide.All
import OpenK.AllK
import Wide.FinOn
import Lean
import PySem.Challenge.RW_pc0189_01
set_option Elab.async false
set_option maxRecDepth 100000
set_option maxHeartbeats 0
open PySem PySem.W PyProof.Rows PySem.Spec PySem.Calls
namespace Mine
set_option hygiene false in
local macro_rules | `(tactic| units_room) => `(tactic| (have hcL9 := cLine_is; simp only [units_in1, units_deeper, Around.mark_units]; (try dsimp only [ktrTop]); omega))
local macro_rules | `(tactic| walk_at $s:str) => `(tactic| k_extra $s)
/-! part T0 -/
section
open_top hd for PySem.Challenge.rw_pc0189_01
end
/-! part S0 -/
section
noncomputable def Ext (h h' : Heap) : Prop := ∀ b o, h.get? b = some o → h'.get? b = some o
theorem Ext.rfl' {h : Heap} : Ext h h := fun _ _ e => e
theorem Ext.trans {h h' h'' : Heap} (a : Ext h h') (b : Ext h' h'') : Ext h h'' := fun x o e => b x o (a x o e)
theorem Ext.none {h h' : Heap} (a : Ext h h') {b : Addr} (e : h'.get? b = none) : h.get? b = none := by
  cases q : h.get? b with
  | none => rfl
  | some o => rw [a b o q] at e; cases e
/-- a call of the def at f upon vs makes things alone, and hands back what Out says -/
noncomputable def Pu (w : World) (f : Addr) (vs : List Value) (D U : Nat) (Pre : Heap → Prop) (Out : Heap → Heap → Value → Prop) : Prop :=
  ∀ (mean : ExcName → Option Value) (mg mb : Str → Option Value) (dp un : Nat) (gd : Option (List Code)) (cn : Str) (cs : Scope) (a : Addr) (ccd : Value) (cl : List (Str × Addr)) (outer : List Env) (A₀ : Around) (base h₀ : Heap) (L : Addr) (m : Str → Option Value) (s : Shared)
    (Q E : Value → Shared → Prop),
    Below A₀ base outer h₀ → Fr h₀ L s.heap m → (Mine.hd.heap_39 w.params).In h₀ → Top Mine.hd.view_39 (looseW Mine.hd.view_39 [Str.ofString "RowsError", Str.ofString "LIMITS"]) mean mg mb h₀ → cs.kind = .function → Pre s.heap → dp + D < recursionLimit → un + U < cLine →
    (∀ r h' tk', Ext s.heap h' → Out s.heap h' r → Q r { s with heap := h', toks := tk' }) →
    wpAny (model PySem.Challenge.rw_pc0189_01.row.prog w) (ktrTop dp un gd cn cs L a ccd cl outer) (call (.ref f) vs) Q E s
section
variable {prog : Program} {w : World} {A₀ A : Around} {s : Shared} {base h₀ : Heap} {outer : List Env} {L : Addr} {m mg mb : Str → Option Value} {env : Env} {K : Frag} {p : Program} {loose : List Str} {mean : ExcName → Option Value}
  {R : Result → Shared → Prop} {name qual : Str} {params : Arguments} {body : List Stmt} {scope : Scope} {dV kV doc pm cdv ct oc : Value} {an od : Option Addr} {osl : Array (Option Value)} {f : Addr} {args : Args} {binds : List (Str × Value)}
theorem pu_enter (B : Below A₀ base outer h₀) (F : Fr h₀ L s.heap m) (X₀ : K.In h₀) (T : Top p loose mean mg mb h₀) (hA : A.frames = some (env :: outer)) (hf : env.frame = some L) (hke : env.scope.kind = .function)
    (ho : K.lookup f = some ⟨oc, od, .func (fnOf name qual params body scope dV kV doc pm an cdv ct), osl⟩) (hcd : codeIn K cdv qual = true) (hroom : A.depth < recursionLimit)
    (hbind : BindsTo s (fnOf name qual params body scope dV kV doc pm an cdv ct) args binds) (hloc : ∀ y ∈ binds, scope.names.lookup y.1 = some .local)
    (h : ∀ L' h₁, Fr s.heap L' h₁ (fun y => binds.reverse.lookup y) → News s.heap L' h₁ [] → Below A base (env :: outer) s.heap → K.In s.heap → Top p loose mean mg mb s.heap →
      wpAny (model prog w) (A.deeper (envOf qual scope L' f cdv)) (execs body (envOf qual scope L' f cdv))
        (fun fl s' => R (.ok (.ret (match fl with | .ret v => v | _ => .none))) s')
        (fun e s' => wpAny (model prog w) (A.deeper (envOf qual scope L' f cdv)) (leaving (envOf qual scope L' f cdv) e) (fun _ s'' => R (.error e) s'') (fun e' s'' => R (.error e') s'') s')
        { s with heap := h₁, toks := s.toks + binds.length })
    (hco : scope.isCoroutine = false) (hgen : scope.isGenerator = false) (hk : scope.kind = .function)
    (hcell : ∀ x ∈ scope.names, x.2 ≠ .cell) : codeAny (model prog w) A (.call (.ref f) args) R s := by
  obtain ⟨_, BG, st, _⟩ := groundX (R := R) B F (News.nil (h₀ := h₀) (h := s.heap) (L := L)) hA hf hke
  refine codeAny_call_def (fd := fnX name qual params body scope [] dV kV doc pm an cdv ct) (body := body) (binds := binds) hroom ((X₀.keeps F.keep) _ _ ho) rfl (T.nolimit.keeps F.keep) (codeRec_of (X₀.keeps F.keep) hcd) rfl hbind hcell hloc (fun h₁ hns hk₁ => ?_) hco hgen hk
  exact h s.heap.objs.size h₁ ⟨hns, hk₁, Nat.le_refl _⟩ News.nil BG (X₀.keeps st) (T.keeps st)
theorem pu_enterC (B : Below A₀ base outer h₀) (F : Fr h₀ L s.heap m) (X₀ : K.In h₀) (T : Top p loose mean mg mb h₀) (hA : A.frames = some (env :: outer)) (hf : env.frame = some L) (hke : env.scope.kind = .function)
    (ho : K.lookup f = some ⟨oc, od, .func (fnOf name qual params body scope dV kV doc pm an cdv ct), osl⟩) (hcd : codeIn K cdv qual = true) (hroom : A.depth < recursionLimit)
    (hbind : BindsTo s (fnOf name qual params body scope dV kV doc pm an cdv ct) args binds) (hkind : (binds.all fun y => scope.names.lookup y.1 == some .local || scope.names.lookup y.1 == some .cell) = true)
    (hnd : ((cellsFrom 0 scope.names []).map (·.1)).Nodup)
    (h : ∀ L' h₁ tk cells, Fr s.heap L' h₁ (bindL (envOfC qual scope L' f cdv).kindOf binds fun _ => none) → News s.heap L' h₁ (cells ++ []) →
      CellsAre (bindC (envOfC qual scope L' f cdv).kindOf binds fun _ => none) (cellsFrom (L' + 1) scope.names []) cells → Below A base (env :: outer) s.heap → K.In s.heap → Top p loose mean mg mb s.heap → (∀ q ∈ ([] : List (Addr × Obj)), q.1 < L') →
      wpAny (model prog w) (A.deeper (envOfC qual scope L' f cdv)) (execs body (envOfC qual scope L' f cdv))
        (fun fl s' => R (.ok (.ret (match fl with | .ret v => v | _ => .none))) s')
        (fun e s' => wpAny (model prog w) (A.deeper (envOfC qual scope L' f cdv)) (leaving (envOfC qual scope L' f cdv) e) (fun _ s'' => R (.error e) s'') (fun e' s'' => R (.error e') s'') s')
        { s with heap := h₁, toks := tk })
    (hco : scope.isCoroutine = false) (hgen : scope.isGenerator = false) (hk : scope.kind = .function) : codeAny (model prog w) A (.call (.ref f) args) R s := by
  obtain ⟨_, BG, st, _⟩ := groundX (R := R) B F (News.nil (h₀ := h₀) (h := s.heap) (L := L)) hA hf hke
  refine codeAny_call_function hroom ((X₀.keeps F.keep) _ _ ho) rfl hco hgen rfl (codeRec_of (X₀.keeps F.keep) hcd) (hbind _ _ _ _ ?_)
  refine wpAny_newFunctionEnv_cells hk (kindsX hkind _) fun env' he s' x => ?_
  subst he
  refine ⟨(T.nolimit.keeps F.keep).keeps x.toInCall.keep, codeAny_func ?_⟩
  obtain ⟨h₁, tk, rfl, _⟩ := x.done
  have hk₁ := x.toInCall.keep
  obtain ⟨cells, NC, Y⟩ := Cl.news (h₀ := s.heap) (Nat.le_refl _) fun n c hm => ⟨x.cell n c (lookup_of_mem_nodup (cellsFrom_names scope.names 0 (s.heap.objs.size + 1) [] [] rfl ▸ hnd) hm), x.above n c hm⟩
  refine h s.heap.objs.size h₁ tk cells ⟨x.toInCall.ns, hk₁, Nat.le_refl _⟩ (fun q hp => ?_) Y BG (X₀.keeps st) (T.keeps st) (fun _ hq => nomatch hq)
  rw [List.append_nil] at hp
  exact NC q hp
theorem Fr.ext {h₀ h h' : Heap} {L : Addr} {m : Str → Option Value} (F : Fr h₀ L h m) (e : Ext h h') : Fr h₀ L h' m := Fr.keeps F e
theorem news_ext {h₀ h h' : Heap} {L : Addr} {news : List (Addr × Obj)} (N : News h₀ L h news) (e : Ext h h') : News h₀ L h' news := News.grown N e
/-- a made object onto the ledger -/
theorem news_new {h₀ h h' : Heap} {L T : Addr} {o : Obj} {m : Str → Option Value} {news : List (Addr × Obj)} (F : Fr h₀ L h m) (N : News h₀ L h news) (e : Ext h h') (hn : h.get? T = none) (hT : h'.get? T = some o) : News h₀ L h' ((T, o) :: news) := by
  intro q hq
  rcases List.mem_cons.mp hq with rfl | hq
  · refine ⟨hT, ?_, ?_⟩
    · rintro e'
      obtain ⟨oL, _, _, hL, _⟩ := F.ns
      have hn' : h.get? L = none := by rw [← e']; exact hn
      rw [hn'] at hL; cases hL
    · cases q : h₀.get? T with
      | none => rfl
      | some o' => rw [F.keep _ _ q] at hn; cases hn
  · exact news_ext N e q hq
/-- what stands on the ledger was not there before -/
theorem new_none {h₀ h : Heap} {L T : Addr} {o : Obj} {news : List (Addr × Obj)} (N : News h₀ L h news) (hm : (T, o) ∈ news) : h₀.get? T = none ∧ h.get? T = some o := ⟨(N _ hm).2.2, (N _ hm).1⟩
end
section
variable {w : World} {f : Addr} {vs : List Value} {D U : Nat} {Pre : Heap → Prop} {Out : Heap → Heap → Value → Prop} {mean : ExcName → Option Value} {mg mb : Str → Option Value} {dp un : Nat} {gd : Option (List Code)} {cn : Str} {cs : Scope} {a : Addr} {ccd : Value} {cl : List (Str × Addr)} {outer : List Env} {A₀ : Around} {base h₀ : Heap} {L : Addr} {m : Str → Option Value} {s : Shared}
    {Q E : Value → Shared → Prop} {news : List (Addr × Obj)}
theorem Pu.use (P : Pu w f vs D U Pre Out) (B : Below A₀ base outer h₀) (F : Fr h₀ L s.heap m) (X : (Mine.hd.heap_39 w.params).In h₀) (N : News h₀ L s.heap news) (T : Top Mine.hd.view_39 (looseW Mine.hd.view_39 [Str.ofString "RowsError", Str.ofString "LIMITS"]) mean mg mb h₀) (hk : cs.kind = .function) (hpre : Pre s.heap) (hd : dp + D < recursionLimit) (hu : un + U < cLine)
    (h : ∀ r h' tk', Fr h₀ L h' m → News h₀ L h' news → Ext s.heap h' → Out s.heap h' r → Q r { s with heap := h', toks := tk' }) :
    wpAny (model PySem.Challenge.rw_pc0189_01.row.prog w) (ktrTop dp un gd cn cs L a ccd cl outer) (call (.ref f) vs) Q E s :=
  P mean mg mb dp un gd cn cs a ccd cl outer A₀ base h₀ L m s Q E B F X T hk hpre hd hu fun r h' tk' e o => h r h' tk' (Fr.ext F e) (news_ext N e) e o
theorem pu_ret {Out : Heap → Heap → Value → Prop} {s : Shared} {Q : Value → Shared → Prop} {L : Addr} {h' : Heap} {m : Str → Option Value} {r : Value} {tk : Nat} (hret : ∀ r h' tk', Ext s.heap h' → Out s.heap h' r → Q r { s with heap := h', toks := tk' })
    (F : Fr s.heap L h' m) (o : Out s.heap h' r) : Q r { s with heap := h', toks := tk } := hret r h' tk F.keep o
end
end
/-! part L0 -/
section
open PySem PySem.W PyProof.Rows PySem.Spec PySem.Calls PyProof.V
section
variable {prog : Program} {w : World} {A : Around} {E : Value → Shared → Prop} {s : Shared} {env : Env} {h₀ : Heap} {x : Str} {body : List Stmt} {Q : Flow → Shared → Prop}
theorem map0 {x : Str} {m₁ m₀ : Str → Option Value} {v : Value} (hm : ∀ z, z ≠ x → m₁ z = m₀ z) : (fun z => if z = x then some v else m₁ z) = fun z => if z = x then some v else m₀ z := by
  funext z
  by_cases h1 : z = x
  · simp [h1]
  · simp only [if_neg h1]; exact hm z h1
/-- a range, one int that the turns change -/
theorem range_inv1 {r : Addr} {a₀ b₀ : Int} {t₀ u₀ v₀ : Tok} {n : Nat} {m₀ : Str → Option Value} {news : List (Addr × Obj)} {y : Str} {c₀ : Int} {tc : Tok} (R : Nat → Int → Prop)
    (hh : A.handled = none) (hr : IsRange s.heap r a₀ b₀ 1 t₀ u₀ v₀) (hsmall : Builtin.Range.small a₀ b₀ 1 = true) (hn : Builtin.Range.rangeSize a₀ b₀ 1 = (n : Int)) (F : Fr h₀ env.locals s.heap m₀) (N : News h₀ env.locals s.heap news) (hy : m₀ y = some (.int c₀ tc)) (hR : R 0 c₀)
    (turn : ∀ (j : Nat) t a ta h tk own, j < n → R j a → OwnOff own (news.map (·.1)) → Fr h₀ env.locals h (fun z => if z = x then some (.int (a₀ + (j : Int)) t) else if z = y then some (.int a ta) else m₀ z) → News h₀ env.locals h (news ++ own) →
      wpAny (model prog w) A (execs body env) (InvPostN h₀ env.locals (fun m' nx => nx = news ∧ (∃ a' t', m' y = some (.int a' t') ∧ R (j + 1) a') ∧ ∀ z, z ≠ x → z ≠ y → m' z = m₀ z) own (news.map (·.1)) { s with heap := h, toks := tk } Q) E { s with heap := h, toks := tk })
    (done : ∀ (u : Str → Option Value) a t h tk, R n a → Fr h₀ env.locals h (fun z => if z = x then u z else if z = y then some (.int a t) else m₀ z) → News h₀ env.locals h news → Q .next { s with heap := h, toks := tk }) :
    wpAny (model prog w) A (pyIter (.ref r)) (fun it s₂ => LoopAtV prog w A h₀ env x body Q E it s₂) E s := by
  refine kpr_invN (fun j m nx => nx = news ∧ (∃ a' t', m y = some (.int a' t') ∧ R j a') ∧ ∀ z, z ≠ x → z ≠ y → m z = m₀ z) hh hr hsmall hn F N ⟨rfl, ⟨_, _, hy, hR⟩, fun _ _ _ => rfl⟩ ?_ ?_
  · rintro i k t m₁ nx h tk own hk hoff ⟨rfl, ⟨a, ta, ha, hRa⟩, hm⟩ F₁ N₁
    rw [map_one ha hm] at F₁
    have hi : i < n := by
      have := (List.getElem?_eq_some_iff.mp hk).1
      rwa [rangeKs_length] at this
    have hk' : k = a₀ + (i : Int) := by
      have e : (rangeKs a₀ n)[i]? = some (a₀ + (i : Int)) := by simp [rangeKs, hi]
      rw [e] at hk; exact (Option.some.inj hk).symm
    subst hk'
    exact turn i t a ta h tk own hi hRa hoff F₁ N₁
  · rintro m₁ nx h tk ⟨rfl, ⟨a, t, ha, hRa⟩, hm⟩ F₁ N₁
    rw [rangeKs_length] at hRa
    refine done m₁ a t h tk hRa ?_ N₁
    have e : (fun z => if z = x then m₁ z else if z = y then some (Value.int a t) else m₀ z) = m₁ := by
      funext z
      by_cases h1 : z = x
      · simp [h1]
      · simp only [if_neg h1]
        by_cases h2 : z = y
        · subst h2; simp [ha]
        · simp only [if_neg h2]; exact (hm z h1 h2).symm
    rw [e]; exact F₁
/-- a range whose turns store nothing that lasts -/
theorem range_inv0 {r : Addr} {a₀ b₀ : Int} {t₀ u₀ v₀ : Tok} {n : Nat} {m₀ : Str → Option Value} {news : List (Addr × Obj)} (stored : List Str) (R : Nat → Prop)
    (hh : A.handled = none) (hr : IsRange s.heap r a₀ b₀ 1 t₀ u₀ v₀) (hsmall : Builtin.Range.small a₀ b₀ 1 = true) (hn : Builtin.Range.rangeSize a₀ b₀ 1 = (n : Int)) (F : Fr h₀ env.locals s.heap m₀) (N : News h₀ env.locals s.heap news) (hR : R 0)
    (turn : ∀ (j : Nat) t (u : Str → Option Value) h tk own, j < n → R j → OwnOff own (news.map (·.1)) → Fr h₀ env.locals h (fun z => if z = x then some (.int (a₀ + (j : Int)) t) else if stored.contains z then u z else m₀ z) → News h₀ env.locals h (news ++ own) →
      wpAny (model prog w) A (execs body env) (InvPostN h₀ env.locals (fun m' nx => nx = news ∧ R (j + 1) ∧ ∀ z, z ≠ x → stored.contains z = false → m' z = m₀ z) own (news.map (·.1)) { s with heap := h, toks := tk } Q) E { s with heap := h, toks := tk })
    (done : ∀ (u : Str → Option Value) h tk, R n → Fr h₀ env.locals h (fun z => if z = x then u z else if stored.contains z then u z else m₀ z) → News h₀ env.locals h news → Q .next { s with heap := h, toks := tk }) :
    wpAny (model prog w) A (pyIter (.ref r)) (fun it s₂ => LoopAtV prog w A h₀ env x body Q E it s₂) E s := by
  refine kpr_invN (fun j m nx => nx = news ∧ R j ∧ ∀ z, z ≠ x → stored.contains z = false → m z = m₀ z) hh hr hsmall hn F N ⟨rfl, hR, fun _ _ _ => rfl⟩ ?_ ?_
  · rintro i k t m₁ nx h tk own hk hoff ⟨rfl, hRa, hm⟩ F₁ N₁
    have hi : i < n := by
      have := (List.getElem?_eq_some_iff.mp hk).1
      rwa [rangeKs_length] at this
    have hk' : k = a₀ + (i : Int) := by
      have e : (rangeKs a₀ n)[i]? = some (a₀ + (i : Int)) := by simp [rangeKs, hi]
      rw [e] at hk; exact (Option.some.inj hk).symm
    subst hk'
    refine turn i t m₁ h tk own hi hRa hoff ?_ N₁
    have e : (fun z => if z = x then some (Value.int (a₀ + (i : Int)) t) else m₁ z) = fun z => if z = x then some (Value.int (a₀ + (i : Int)) t) else if stored.contains z then m₁ z else m₀ z := by
      funext z
      by_cases h1 : z = x
      · simp [h1]
      · simp only [if_neg h1]
        cases h2 : stored.contains z with
        | true => rfl
        | false => exact hm z h1 h2
    rw [← e]; exact F₁
  · rintro m₁ nx h tk ⟨rfl, hRa, hm⟩ F₁ N₁
    rw [rangeKs_length] at hRa
    refine done m₁ h tk hRa ?_ N₁
    have e : (fun z => if z = x then m₁ z else if stored.contains z then m₁ z else m₀ z) = m₁ := by
      funext z
      by_cases h1 : z = x
      · simp [h1]
      · simp only [if_neg h1]
        cases h2 : stored.contains z with
        | true => rfl
        | false => exact (hm z h1 h2).symm
    rw [e]; exact F₁
/-- a for over whatever gives its items turn by turn: an invariant over the frame's map and the ledger; sources that lie on the ledger stay there -/
theorem turns_inv {target : Expr} {I : Addr} {fp wr : List Addr} {n : Nat} {P Md : Nat → Value → Heap → Prop} {St : Nat → Heap → Prop} {m₀ : Str → Option Value} {news : List (Addr × Obj)}
    (J : Nat → (Str → Option Value) → List (Addr × Obj) → Prop) (W : KTurns prog w A target I fp wr n P Md St) (hLf : env.locals ∉ fp) (hwr : ∀ b ∈ wr, h₀.get? b = none) (hnw : ∀ p ∈ news, p.1 ∉ wr)
    (hfp : ∀ q ∈ news, q.1 ∈ fp → ∀ i m nx, J i m nx → q ∈ nx) (hst : St 0 s.heap) (F : Fr h₀ env.locals s.heap m₀) (N : News h₀ env.locals s.heap news) (hj : J 0 m₀ news)
    (turn : ∀ i v m₁ news₁ h tk own, i < n → P i v h → OwnOff own (news.map (·.1)) → J i m₁ news₁ → news₁.map (·.1) = news.map (·.1) → Fr h₀ env.locals h m₁ → News h₀ env.locals h (news₁ ++ own) →
      wpAny (model prog w) A (assign target env v) (fun _ s₂ => wpAny (model prog w) A (execs body env) (InvPostN h₀ env.locals (J (i + 1)) own (news.map (·.1)) { s with heap := h, toks := tk } Q) E s₂) E { s with heap := h, toks := tk })
    (done : ∀ m₁ news₁ h tk, J n m₁ news₁ → Fr h₀ env.locals h m₁ → News h₀ env.locals h news₁ → Q .next { s with heap := h, toks := tk }) :
    TurnsAt prog w A h₀ env target body Q E (.ref I) s := by
  let J' : Nat → (Str → Option Value) → List (Addr × Obj) → Prop := fun i m₁ news₁ => news₁.map (·.1) = news.map (·.1) ∧ J i m₁ news₁
  refine ⟨I, fp, wr, n, P, Md, St, m₀, news, J', rfl, W, hLf, hwr, hnw, hst, F, N, ⟨rfl, hj⟩, ?_, ?_⟩
  · rintro i v m₁ news₁ h tk own hin hP ⟨hadr, hJ⟩ hoff hown hget hall hst₁ F₁ N₁
    let own' := own.filter (fun p => decide (p.1 ∉ news.map (·.1)))
    have hsep : OwnOff own' (news.map (·.1)) := by
      intro p hp b hb e
      have := (List.mem_filter.mp hp).2
      rw [e] at this
      exact (of_decide_eq_true this) hb
    have N₂ : News h₀ env.locals h (news₁ ++ own') := fun p hp => N₁ p ((List.mem_append.mp hp).elim (fun h => List.mem_append.mpr (.inr h)) fun h => List.mem_append.mpr (.inl (List.mem_filter.mp h).1))
    refine wpAny_mono (turn i v m₁ news₁ h tk own' hin hP hsep hJ hadr F₁ N₂) (fun _ s₂ h₂ => wpAny_mono h₂ (fun f s₃ p => ?_) fun _ _ e => e) fun _ _ e => e
    have fin : InvEndN h₀ env.locals (J (i + 1)) own' (news.map (·.1)) { s with heap := h, toks := tk } s₃ → LoopStepU h₀ env.locals wr own (J' (i + 1)) { s with heap := h, toks := tk } .next s₃ := by
      rintro ⟨h', tk', m', news', nx, e, F', N', hn, ho, ha, hm⟩
      refine ⟨rfl, h', tk', m', nx, e, F', fun p hp => ?_, fun p hp hq => ?_, ha, hm⟩
      · rcases List.mem_append.mp hp with hp | hp
        · by_cases hin' : p.1 ∈ news.map (·.1)
          · obtain ⟨q, hq, hqe⟩ := List.mem_map.mp hin'
            have hqf : q.1 ∈ fp := by rw [hqe]; exact hown p hp
            have h1 := hfp q hq hqf i m₁ news₁ hJ
            have h2 := hfp q hq hqf (i + 1) m' nx hm
            have h3 := (N₁ q (List.mem_append_right _ h1)).1
            rw [hqe, hget p hp] at h3
            have h4 : p = q := Prod.ext hqe.symm (Option.some.inj h3)
            rw [h4]
            exact N' q (hn q h2)
          · exact N' p (ho p (List.mem_filter.mpr ⟨hp, decide_eq_true hin'⟩))
        · exact N' p (hn p hp)
      · have h1 : p.1 ∈ nx.map (·.1) := List.mem_map.mpr ⟨p, hp, rfl⟩
        rw [ha] at h1
        obtain ⟨q, hq1, hq2⟩ := List.mem_map.mp h1
        exact hnw q hq1 (by rw [hq2]; exact hq)
    cases f with
    | ret v => exact .ret p
    | brk => exact .brk p
    | next => exact .next (fin p)
    | cont => exact .cont (fin p)
  · rintro h' tk m' news' F' N' _ ⟨_, hJ⟩
    exact done m' news' h' tk hJ F' N'
end
end
/-! part E1 -/
section
open PySem PySem.W PyProof.Rows PySem.Spec PySem.Calls PyProof.V
section
variable {prog : Program} {w : World} {A : Around} {E : Value → Shared → Prop} {s : Shared}
theorem tupNext_item {it t : Addr} {i : Nat} {items : Array Value} {x : Value} {Q : Value → Shared → Prop} (hit : s.heap.IsTupleIter it t i) (ht : s.heap.IsTuple t items) (hx : items[i]? = some x)
    (hQ : ∀ h', h'.IsTupleIter it t (i + 1) → Heap.SameBut it s.heap h' → Q x { s with heap := h' }) :
    wpAny (model prog w) A (Builtin.SmallTypes.nextOf (.ref it)) Q E s := by
  obtain ⟨o, ho, hc, hd⟩ := id hit
  obtain ⟨ol, hol, _, nl, hdl⟩ := ht
  unfold Builtin.SmallTypes.nextOf
  refine wpAny_bind (wpAny_callSpecial?_slot (name := Str.ofString "__next__") hit.typeIs F.slot_tuple_iterator_next
    (wpAny_call_entry F.slot_tuple_iterator_next hit.typeIs F.entry_tuple_iterator_next ?_ (F.args_tuple_iterator_next_1 _)))
  show wpAny _ _ (field (.ref it) 0 >>= _) _ _ s
  refine wpAny_bind (wpAny_field ho hd (x := .ref t) rfl ?_)
  show wpAny _ _ (if (Value.ref t == Value.none) = true then _ else _) _ _ s
  rw [if_neg (show ¬ ((Value.ref t == Value.none) = true) from Bool.false_ne_true)]
  show wpAny _ _ (field (.ref it) 1 >>= _) _ _ s
  refine wpAny_bind (wpAny_field ho hd (x := .int i 0) rfl ?_)
  show wpAny _ _ (seqItems? (.ref t) >>= _) _ _ s
  refine wpAny_bind (wpAny_seqItems hol hdl ?_)
  simp only [Int.toNat_natCast, hx]
  refine wpAny_bind (wpAny_setField ho hd (by simp) (wpAny_pure ⟨x, rfl, wpAny_pure (hQ _ ?_ (Heap.SameBut.update ..))⟩))
  exact ⟨_, Heap.get?_update_self _ ho (Obj.isFreed_of_fields (Obj.data_mapFields hd _)), (Obj.cls_mapFields ..).trans hc, by
    rw [Obj.data_mapFields hd]; simp [rawInt]⟩
theorem tupNext_end {it t : Addr} {i : Nat} {items : Array Value} {Q : Value → Shared → Prop} (hh : A.handled = none) (hit : s.heap.IsTupleIter it t i) (ht : s.heap.IsTuple t items) (hx : items[i]? = none)
    (hE : ∀ h' e, Heap.ExtBut it s.heap h' → (∃ o, h'.get? e = some o ∧ o.cls = .type "StopIteration") → E (.ref e) { s with heap := h' }) :
    wpAny (model prog w) A (Builtin.SmallTypes.nextOf (.ref it)) Q E s := by
  obtain ⟨o, ho, hc, hd⟩ := id hit
  obtain ⟨ol, hol, _, nl, hdl⟩ := ht
  unfold Builtin.SmallTypes.nextOf
  refine wpAny_bind (wpAny_callSpecial?_slot (name := Str.ofString "__next__") hit.typeIs F.slot_tuple_iterator_next
    (wpAny_call_entry F.slot_tuple_iterator_next hit.typeIs F.entry_tuple_iterator_next ?_ (F.args_tuple_iterator_next_1 _)))
  show wpAny _ _ (field (.ref it) 0 >>= _) _ _ s
  refine wpAny_bind (wpAny_field ho hd (x := .ref t) rfl ?_)
  show wpAny _ _ (if (Value.ref t == Value.none) = true then _ else _) _ _ s
  rw [if_neg (show ¬ ((Value.ref t == Value.none) = true) from Bool.false_ne_true)]
  show wpAny _ _ (field (.ref it) 1 >>= _) _ _ s
  refine wpAny_bind (wpAny_field ho hd (x := .int i 0) rfl ?_)
  show wpAny _ _ (seqItems? (.ref t) >>= _) _ _ s
  refine wpAny_bind (wpAny_seqItems hol hdl ?_)
  simp only [Int.toNat_natCast, hx]
  refine wpAny_bind (wpAny_rule (wpAny_bind (wpAny_setField ho hd (by simp) ?_)))
  first
    | show wpAny _ _ (newExc (.type "StopIteration") [] >>= _) _ _ _
    | (refine wpAny_bind (wpAny_letGo ?_); show wpAny _ _ (newExc (.type "StopIteration") [] >>= _) _ _ _)
  refine wpAny_bind ?_
  simp only [newExc, newTuple]
  refine wpAny_bind (wpAny_newObj_type ?_ (by size_fits))
  refine wpAny_bind (m := firstArgMember _ _) (wpAny_of_eq (a := Value.none) (by first | rfl | (simp only [firstArgMember]; rfl)) ?_)
  refine wpAny_newObj_type ?_ (by size_fits)
  simp only [raiseNew]
  refine wpAny_bind (wpAny_handled ?_)
  first | rw [show A.in1.handled = none from hh] | rw [hh]
  refine wpAny_bind (wpAny_pure (wpAny_throw ?_))
  exact hE _ _ (((Heap.SameBut.update ..).extBut.push _).push _) ⟨_, Heap.get?_push_size _ rfl, rfl⟩
theorem tupDraws {prog : Program} {w : World} {A : Around} (hh : A.handled = none) (it l : Addr) (hne : l ≠ it) (items : Array Value) :
    Draws prog w A it [it, l] items.size (fun i v => items[i]? = some v) (fun i h => h.IsTupleIter it l i ∧ h.IsTuple l items) where
  live := fun _ _ st => let ⟨o, ho, _⟩ := st.1; ⟨o, ho⟩
  frame := fun _ _ _ st hk => ⟨st.1.at fun o e => hk it (by simp) o e, st.2.at fun o e => hk l (by simp) o e⟩
  item := fun i s Q E hi st hQ => by
    refine tupNext_item st.1 st.2 (x := items[i]) (by simp [hi]) fun h' hit' hs' => ?_
    exact hQ _ h' s.toks (by simp [hi]) ⟨hit', st.2.extBut hs'.extBut hne⟩ hs'
  done := fun s Q E st hE => tupNext_end hh st.1 st.2 (by simp) hE
theorem tupEnumNew (l : Addr) (items : Array Value) (n : Nat) (dct : Option Addr) (sl : Array (Option Value)) :
    Meets (Builtin.«enumerate.__new__» ⟨[.type "enumerate", .ref l], []⟩) (fun _ R s => s.heap.get? l = some { cls := .type "tuple", dict := dct, data := .seq items n, slots := sl } ∧
      R (.ok (.ret (.ref (s.heap.push { cls := .type "tuple_iterator", data := .fields #[.ref l, .int 0 0] }).objs.size)))
        { s with heap := (s.heap.push { cls := .type "tuple_iterator", data := .fields #[.ref l, .int 0 0] }).push { cls := .type "enumerate", data := .fields #[.none, .bool false, .ref s.heap.objs.size, rawInt 0, .none, .none] } }) :=
  .of_wp fun prog w A R s h => by
    obtain ⟨hp, g, d, tk, os⟩ := s; obtain ⟨hl, h⟩ := h
    have hsub := sub_enumerate
    have hL : Heap.IsTuple (Shared.heap ⟨hp, g, d, tk, os⟩) l items := ⟨_, hl, rfl, n, rfl⟩
    wp_walk using AutoSeq1.wpAny_loadPart' hl
    refine wpAny_stack_any fun st => wpAny_pure ?_
    split
    · rename_i c _ _ _ _ _
      cases (c == Value.type "enumerate")
      · wp_walk using AutoSeq1.wpAny_loadPart' hl, wpAny_pyIter_tuple hL
        exact ⟨_, rfl, h⟩
      · wp_walk using AutoSeq1.wpAny_loadPart' hl, wpAny_pyIter_tuple hL
        exact ⟨_, rfl, h⟩
    · wp_walk using AutoSeq1.wpAny_loadPart' hl, wpAny_pyIter_tuple hL
      exact ⟨_, rfl, h⟩
theorem tupEnum {l : Addr} {items : Array Value} {Q : Value → Shared → Prop} (hL : s.heap.IsTuple l items)
    (h : ∀ h', IsEnum h' (s.heap.objs.size + 1) s.heap.objs.size 0 .none → h'.IsTupleIter s.heap.objs.size l 0 → h'.objs.size = s.heap.objs.size + 2 →
      (∀ b o, s.heap.get? b = some o → h'.get? b = some o) → Q (.ref (s.heap.objs.size + 1)) { s with heap := h' }) :
    wpAny (model prog w) A (call (.type "enumerate") [.ref l]) Q E s := by
  obtain ⟨⟨c, dct, dt, sl⟩, hl, hc, n, hd⟩ := hL
  replace hc : c = .type "tuple" := hc
  replace hd : dt = .seq items n := hd
  subst hc hd
  refine callType_new F.called_enumerate (by decide) (F.typeCall_enumerate_1 _) (F.newCall_enumerate_1 _) (fun obj => F.args_object_init_2 obj _) F.entry_enumerate_new
    (tupEnumNew l items n dct sl) ⟨hl, ?_⟩
  have hz : (s.heap.push { cls := .type "tuple_iterator", data := .fields #[.ref l, .int 0 0] }).objs.size = s.heap.objs.size + 1 := Heap.size_push ..
  show _ ∧ _
  rw [hz]
  have he : IsEnum ((s.heap.push { cls := .type "tuple_iterator", data := .fields #[.ref l, .int 0 0] }).push
      { cls := .type "enumerate", data := .fields #[.none, .bool false, .ref s.heap.objs.size, rawInt 0, .none, .none] }) (s.heap.objs.size + 1) s.heap.objs.size 0 .none := by
    have := Heap.get?_push_size (s.heap.push { cls := .type "tuple_iterator", data := .fields #[.ref l, .int 0 0] })
      (o := { cls := .type "enumerate", data := .fields #[.none, .bool false, .ref s.heap.objs.size, rawInt 0, .none, .none] }) rfl
    rw [hz] at this; exact this
  refine ⟨⟨_, he, rfl⟩, h _ he ⟨_, Heap.get?_push_of_some _ (Heap.get?_push_size _ rfl), rfl, rfl⟩ (by rw [Heap.size_push, hz]) fun b o x => Heap.get?_push_of_some _ (Heap.get?_push_of_some _ x)⟩
end
section
variable {prog : Program} {w : World} {A : Around} {E : Value → Shared → Prop} {s : Shared} {env : Env} {h₀ : Heap} {body : List Stmt} {Q : Flow → Shared → Prop}
/-- enumerate over a tuple of the ground -/
theorem enum_base {elts : List Expr} {k : Nat} {pos : Pos} {l : Addr} {vs : List Value} {m₀ : Str → Option Value} {news : List (Addr × Obj)}
    (J : Nat → (Str → Option Value) → List (Addr × Obj) → Prop) (hh : A.handled = none) (hl : h₀.IsTuple l vs.toArray) (F : Fr h₀ env.locals s.heap m₀) (N : News h₀ env.locals s.heap news) (hj : J 0 m₀ news)
    (turn : ∀ i T t x m₁ news₁ h tk own, vs[i]? = some x → IsTup h T #[.int (i : Nat) t, x] → OwnOff own (news.map (·.1)) → J i m₁ news₁ → news₁.map (·.1) = news.map (·.1) → Fr h₀ env.locals h m₁ → News h₀ env.locals h (news₁ ++ own) →
      wpAny (model prog w) A (assign (.Tuple elts k pos) env (.ref T)) (fun _ s₂ => wpAny (model prog w) A (execs body env) (InvPostN h₀ env.locals (J (i + 1)) own (news.map (·.1)) { s with heap := h, toks := tk } Q) E s₂) E { s with heap := h, toks := tk })
    (done : ∀ m₁ news₁ h tk, J vs.length m₁ news₁ → Fr h₀ env.locals h m₁ → News h₀ env.locals h news₁ → Q .next { s with heap := h, toks := tk }) :
    wpAny (model prog w) A (call (.type "enumerate") [.ref l]) (fun xv s₁ => wpAny (model prog w) A (pyIter xv) (fun it s₂ => TurnsAt prog w A h₀ env (.Tuple elts k pos) body Q E it s₂) E s₁) E s := by
  have hls : s.heap.IsTuple l vs.toArray := hl.at fun o e => F.keep l o e
  obtain ⟨ol, hol, _⟩ := id hl
  have hlt0 : l < h₀.objs.size := Heap.lt_size hol
  have hlL : l < env.locals := Nat.lt_of_lt_of_le hlt0 F.above
  have hLs : env.locals < s.heap.objs.size := F.ns.lt
  have hlt : l < s.heap.objs.size := Nat.lt_trans hlL hLs
  refine tupEnum hls fun h' hE hI hsz hk => ?_
  refine wpAny_pyIter_enum hE ?_
  have hne : l ≠ s.heap.objs.size := Nat.ne_of_lt hlt
  have D := tupDraws (prog := prog) (w := w) (A := A.in1) hh s.heap.objs.size l hne vs.toArray
  have W := (WalksT.enumerateD (A := A) D (s.heap.objs.size + 1) (Nat.succ_ne_self _) (by
    intro hm
    rcases List.mem_cons.mp hm with e | hm
    · exact absurd e (Nat.succ_ne_self _)
    · exact absurd (List.mem_singleton.mp hm) (Nat.ne_of_gt (Nat.lt_succ_of_lt hlt))) (by simp)).toU
  have off : ∀ p ∈ news, p.1 < s.heap.objs.size := fun p hp => Heap.lt_size (N p hp).1
  refine turns_inv (s := { s with heap := h' }) J (KTurns.ofWalksU (elts := elts) (k := k) (pos := pos) W) ?_ ?_ ?_ ?_ ?_ (F.keeps hk) (N.grown hk) hj ?_ ?_
  · intro hm
    simp only [List.mem_cons, List.not_mem_nil, or_false] at hm
    rcases hm with e | e | e
    · exact absurd hLs (by rw [e]; exact Nat.not_lt.mpr (Nat.le_succ _))
    · exact absurd hLs (by rw [e]; exact Nat.lt_irrefl _)
    · exact absurd hlL (by rw [e]; exact Nat.lt_irrefl _)
  · intro b hb
    have hb' : b = s.heap.objs.size + 1 ∨ b = s.heap.objs.size := by simpa using hb
    rcases hb' with rfl | rfl
    · exact ktu_new F (Nat.le_add_right _ _)
    · exact ktu_new F (Nat.le_refl _)
  · intro p hp hm
    have h3 := off p hp
    simp only [List.mem_cons, List.not_mem_nil, or_false] at hm
    rcases hm with e | e
    · exact absurd h3 (by rw [e]; exact Nat.not_lt.mpr (Nat.le_succ _))
    · exact absurd h3 (by rw [e]; exact Nat.lt_irrefl _)
  · intro q hq hm
    exfalso
    have h4 := off q hq
    have h3 := (N q hq).2.2
    simp only [List.mem_cons, List.not_mem_nil, or_false] at hm
    rcases hm with e | e | e
    · exact absurd h4 (by rw [e]; exact Nat.not_lt.mpr (Nat.le_succ _))
    · exact absurd h4 (by rw [e]; exact Nat.lt_irrefl _)
    · rw [e, hol] at h3; cases h3
  · exact ⟨⟨_, hE⟩, hI, hls.at fun o e => hk l o e⟩
  · rintro i v m₁ news₁ h tk own hin ⟨T, vals, rfl, ⟨t, x, hx, rfl⟩, hT⟩ hoff hJ hadr F₁ N₁
    exact turn i T t x m₁ news₁ h tk own (by simpa using hx) hT hoff hJ hadr F₁ N₁
  · intro m₁ news₁ h tk hJ F₁ N₁
    have e : vs.toArray.size = vs.length := by simp
    rw [e] at hJ
    exact done m₁ news₁ h tk hJ F₁ N₁
/-- the same, where the turns store nothing that lasts -/
theorem enum_base0 {elts : List Expr} {k : Nat} {pos : Pos} {l : Addr} {vs : List Value} {m₀ : Str → Option Value} {news : List (Addr × Obj)} (stored : List Str)
    (R : Nat → Prop) (hh : A.handled = none) (hl : h₀.IsTuple l vs.toArray) (F : Fr h₀ env.locals s.heap m₀) (N : News h₀ env.locals s.heap news) (hR : R 0)
    (turn : ∀ i T t x (u : Str → Option Value) h tk own, vs[i]? = some x → IsTup h T #[.int (i : Nat) t, x] → OwnOff own (news.map (·.1)) → R i → Fr h₀ env.locals h (fun z => if stored.contains z then u z else m₀ z) → News h₀ env.locals h (news ++ own) →
      wpAny (model prog w) A (assign (.Tuple elts k pos) env (.ref T)) (fun _ s₂ => wpAny (model prog w) A (execs body env) (InvPostN h₀ env.locals (fun m' nx => nx = news ∧ R (i + 1) ∧ ∀ z, stored.contains z = false → m' z = m₀ z) own (news.map (·.1)) { s with heap := h, toks := tk } Q) E s₂) E { s with heap := h, toks := tk })
    (done : ∀ (u : Str → Option Value) h tk, R vs.length → Fr h₀ env.locals h (fun z => if stored.contains z then u z else m₀ z) → News h₀ env.locals h news → Q .next { s with heap := h, toks := tk }) :
    wpAny (model prog w) A (call (.type "enumerate") [.ref l]) (fun xv s₁ => wpAny (model prog w) A (pyIter xv) (fun it s₂ => TurnsAt prog w A h₀ env (.Tuple elts k pos) body Q E it s₂) E s₁) E s := by
  have same : ∀ m₁ : Str → Option Value, (∀ z, stored.contains z = false → m₁ z = m₀ z) → (fun z => if stored.contains z then m₁ z else m₀ z) = m₁ := by
    intro m₁ hm
    funext z
    cases h2 : stored.contains z with
    | true => rfl
    | false => exact (hm z h2).symm
  refine enum_base (fun i m nx => nx = news ∧ R i ∧ ∀ z, stored.contains z = false → m z = m₀ z) hh hl F N ⟨rfl, hR, fun _ _ => rfl⟩ ?_ ?_
  · rintro i T t x m₁ nx h tk own hx hT hoff ⟨rfl, hRi, hm⟩ _ F₁ N₁
    exact turn i T t x m₁ h tk own hx hT hoff hRi (by rw [same m₁ hm]; exact F₁) N₁
  · rintro m₁ nx h tk ⟨rfl, hRi, hm⟩ F₁ N₁
    exact done m₁ h tk hRi (by rw [same m₁ hm]; exact F₁) N₁
end
end
/-! part S1 -/
section
noncomputable def leadOf (o : Int) : Option (Int × Int) := if o < 128 then some (0, o) else if o < 192 then none else if o < 224 then some (1, o - 192) else if o < 240 then some (2, o - 224) else if o < 248 then some (3, o - 240) else none
noncomputable def sizeOf' (c : Int) : Int := if c < 128 then 1 else if c < 2048 then 2 else if c < 65536 then 3 else 4
theorem is_bad_pu (w : World) (c : Int) (t : Tok) : Pu w 55 [.int c t] 1 8 (fun _ => True) (fun _ _ r => r = .bool (decide (55296 ≤ c ∧ c ≤ 57343))) := by
  w_top off
  (
      unfold Pu
      k_fill
      intro mean mg mb dp un gd cn cs a ccd cl outer A₀ base h₀ L m s Q E B F X T hk hpre hd hu hret
      refine wpAny_call ?_
      k_dflt (refine' pu_enter B F X T ?kA ?kF ?kK ?k6 ?k7 ?k8 ?k9 ?kB ?_ ?c2 ?c3 ?c4 ?c5; (case kA => exact rfl); (case kF => exact rfl); (case kK => assumption); (case k6 => k_is); (case k7 => k_is); (case k8 => ktr_room); (case k9 => exact BindsTo.of_eq rfl); (case c5 => decide); (case kB => exact locs rfl); (case c2 => exact rfl); (case c3 => exact rfl); (case c4 => exact rfl); k_whole)
      clear B F X T
      intro L' h' F' N' B' X' T'
      (try dsimp only)
      (try k_fold))
  k_steps
  all_goals (refine' hret _ _ _ (Fr.keep ?kfr) ?_; (case kfr => k_asm))
  all_goals (simp only [Value.bool.injEq, decide_eq_decide]; omega)
theorem is_following_pu (w : World) (c : Int) (t : Tok) : Pu w 83 [.int c t] 1 8 (fun _ => True) (fun _ _ r => r = .bool (decide (128 ≤ c ∧ c < 192))) := by
  w_top off
  (
      unfold Pu
      k_fill
      intro mean mg mb dp un gd cn cs a ccd cl outer A₀ base h₀ L m s Q E B F X T hk hpre hd hu hret
      refine wpAny_call ?_
      k_dflt (refine' pu_enter B F X T ?kA ?kF ?kK ?k6 ?k7 ?k8 ?k9 ?kB ?_ ?c2 ?c3 ?c4 ?c5; (case kA => exact rfl); (case kF => exact rfl); (case kK => assumption); (case k6 => k_is); (case k7 => k_is); (case k8 => ktr_room); (case k9 => exact BindsTo.of_eq rfl); (case c5 => decide); (case kB => exact locs rfl); (case c2 => exact rfl); (case c3 => exact rfl); (case c4 => exact rfl); k_whole)
      clear B F X T
      intro L' h' F' N' B' X' T'
      (try dsimp only)
      (try k_fold))
  k_steps
  all_goals (refine' hret _ _ _ (Fr.keep ?kfr) ?_; (case kfr => k_asm))
  all_goals (simp only [Value.bool.injEq, decide_eq_decide]; omega)
noncomputable def LeadOut (c : Int) (h h' : Heap) (r : Value) : Prop := match leadOf c with
    | none => r = .none
    | some (k, v) => ∃ T t1 t2, r = .ref T ∧ h.get? T = none ∧ h'.get? T = some { cls := .type "tuple", data := .seq #[.int k t1, .int v t2] }
theorem leadOut_some {c k v : Int} {h h' : Heap} {T : Addr} {t1 t2 : Tok} {L : Addr} {news : List (Addr × Obj)} (e : leadOf c = some (k, v)) (N : News h L h' news) (hm : (T, ({ cls := .type "tuple", data := .seq #[.int k t1, .int v t2] } : Obj)) ∈ news) : LeadOut c h h' (.ref T) := by
  unfold LeadOut
  rw [e]
  exact ⟨T, t1, t2, rfl, (N _ hm).2.2, (N _ hm).1⟩
theorem leadOut_none {c : Int} {h h' : Heap} (e : leadOf c = none) : LeadOut c h h' .none := by
  unfold LeadOut
  rw [e]
theorem leadOut_cases {c : Int} {h h' : Heap} {r : Value} {G : Prop} (o : LeadOut c h h' r) (h1 : leadOf c = none → r = .none → G)
    (h2 : ∀ k v T t1 t2, leadOf c = some (k, v) → r = .ref T → h.get? T = none → h'.get? T = some { cls := .type "tuple", data := .seq #[.int k t1, .int v t2] } → G) : G := by
  unfold LeadOut at o
  cases e : leadOf c with
  | none => rw [e] at o; exact h1 e o
  | some kv =>
    obtain ⟨k, v⟩ := kv
    rw [e] at o
    obtain ⟨T, t1, t2, a, b, c⟩ := o
    exact h2 k v T t1 t2 e a b c
theorem lead_sb {c a b : Int} (h : ¬ c < a) (h' : c < b) : 0 ≤ c - a ∧ c - a < b - a := by omega
theorem leadOf_bound {c k v : Int} (e : leadOf c = some (k, v)) (h0 : 0 ≤ c) (h1 : c < 256) : 0 ≤ k ∧ k ≤ 3 ∧ 0 ≤ v ∧ v < 128 := by
  unfold leadOf at e
  by_cases c0 : c < 128
  · rw [if_pos c0] at e; cases e; exact ⟨by decide, by decide, h0, c0⟩
  rw [if_neg c0] at e
  by_cases c1 : c < 192
  · rw [if_pos c1] at e; cases e
  rw [if_neg c1] at e
  by_cases c2 : c < 224
  · rw [if_pos c2] at e; cases e; exact ⟨by decide, by decide, (lead_sb c1 c2).1, Int.lt_of_lt_of_le (lead_sb c1 c2).2 (by decide)⟩
  rw [if_neg c2] at e
  by_cases c3 : c < 240
  · rw [if_pos c3] at e; cases e; exact ⟨by decide, by decide, (lead_sb c2 c3).1, Int.lt_of_lt_of_le (lead_sb c2 c3).2 (by decide)⟩
  rw [if_neg c3] at e
  by_cases c4 : c < 248
  · rw [if_pos c4] at e; cases e; exact ⟨by decide, by decide, (lead_sb c3 c4).1, Int.lt_of_lt_of_le (lead_sb c3 c4).2 (by decide)⟩
  · rw [if_neg c4] at e; cases e
theorem lead_of_pu (w : World) (c : Int) (t : Tok) : Pu w 76 [.int c t] 1 8 (fun _ => True) (LeadOut c) := by
  w_top off
  (
      unfold Pu
      k_fill
      intro mean mg mb dp un gd cn cs a ccd cl outer A₀ base h₀ L m s Q E B F X T hk hpre hd hu hret
      refine wpAny_call ?_
      k_dflt (refine' pu_enter B F X T ?kA ?kF ?kK ?k6 ?k7 ?k8 ?k9 ?kB ?_ ?c2 ?c3 ?c4 ?c5; (case kA => exact rfl); (case kF => exact rfl); (case kK => assumption); (case k6 => k_is); (case k7 => k_is); (case k8 => ktr_room); (case k9 => exact BindsTo.of_eq rfl); (case c5 => decide); (case kB => exact locs rfl); (case c2 => exact rfl); (case c3 => exact rfl); (case c4 => exact rfl); k_whole)
      clear B F X T
      intro L' h' F' N' B' X' T'
      (try dsimp only)
      (try k_fold))
  k_steps
  all_goals (refine' hret _ _ _ (Fr.keep ?kfr) ?_; (case kfr => k_asm))
  all_goals first
    | exact leadOut_some (by unfold leadOf; (repeat' split) <;> first | omega | rfl) (by assumption) (.head _)
    | exact leadOut_none (by unfold leadOf; (repeat' split) <;> first | omega | rfl)
theorem size_of_code_dummy : True := by
  trivial
end
/-! part S1b -/
section
theorem size_of_code_pu (w : World) (c : Int) (t : Tok) (hc : c < 1114112) : Pu w 62 [.int c t] 1 8 (fun _ => True) (fun _ _ r => ∃ t, r = .int (sizeOf' c) t) := by
  w_top off
  (
      unfold Pu
      k_fill
      intro mean mg mb dp un gd cn cs a ccd cl outer A₀ base h₀ L m s Q E B F X T hk hpre hd hu hret
      refine wpAny_call ?_
      k_dflt (refine' pu_enter B F X T ?kA ?kF ?kK ?k6 ?k7 ?k8 ?k9 ?kB ?_ ?c2 ?c3 ?c4 ?c5; (case kA => exact rfl); (case kF => exact rfl); (case kK => assumption); (case k6 => k_is); (case k7 => k_is); (case k8 => ktr_room); (case k9 => exact BindsTo.of_eq rfl); (case c5 => decide); (case kB => exact locs rfl); (case c2 => exact rfl); (case c3 => exact rfl); (case c4 => exact rfl); k_whole)
      clear B F X T
      intro L' h' F' N' B' X' T'
      (try dsimp only)
      (try k_fold))
  k_with_none
  k_with "exec Assign" => k_fold
  k_with "exec Expr" => k_fold
  k_with "exec If" => k_fold
  k_with "exec Return" => k_fold
  k_with "exec AugAssign" => k_fold
  k_with "eval Call" => k_fold
  k_with "eval Compare" => k_fold
  k_with "isTrue Compare" => k_fold
  k_with "eval BinOp" => k_fold
  k_with "eval Subscript" => k_fold
  k_with "eval Tuple" => k_fold
  k_with "eval List" => k_fold
  k_with "eval BoolOp" => k_fold
  k_with "isTrue BoolOp Or" => k_fold
  k_with "isTrue BoolOp" => k_fold
  k_with "eval ListComp" => k_fold
  k_with "execs cons" => k_fold
  k_with "InvEndN" => ((refine' InvEndN.intro ?iF ?iN ⟨rfl, ?_, ?is⟩ (by rfl) ?ia ?io; (case iF => assumption); (case iN => assumption); (case is => (intro z h1; first | rfl | (simp [h1]; done) | (have h2 := h1; simp only [List.contains_cons, List.contains_nil, Bool.or_false, Bool.or_eq_false_iff, beq_eq_false_iff_ne, ne_eq] at h2; simp only [h1, h2, if_false, Bool.false_eq_true, not_false_eq_true]; done) | (have h2 := h1; simp at h2; simp [h1, h2]; done) | (simp_all; done))); (case ia => (with_unfolding_all ((try simp only [List.nil_append, List.cons_append]); k_allIn))); (case io => (intro p hp; k_ownIn))))
  k_with "exec For Tuple Call cons nil" => (k_here; (rename Fr _ _ _ _ => lF'); (with_unfolding_all refine' For_turns lF' ?_; k_whole))
  k_with "call type:enumerate" => (
   (rename Fr _ _ _ _ => lF'); (rename News _ _ _ _ => lN')
   (with_unfolding_all refine' enum_base0 (vs := [.int 128 244, .int 2048 245, .int 65536 246, .int 1114112 248]) [Str.ofString "at", Str.ofString "limit"] (fun i => (0 < i → 128 ≤ c) ∧ (1 < i → 2048 ≤ c) ∧ (2 < i → 65536 ≤ c) ∧ (3 < i → 1114112 ≤ c)) (by rfl) ?hl lF' lN' ?r0 (fun i9 T9 t9 x9 u9 h9 tk9 own9 hx9 hT9 hoff9 hR9 F' N' => ?_) ?done)
   (case hl => exact tupK (by assumption) (by k_is))
   (case r0 => omega)
   (case done => (intro u9 h9 tk9 hR9 F9 N9; exfalso; have h3 := hR9.2.2.2 (by decide); omega))
   (all_goals ((rcases i9 with _ | _ | _ | _ | i9 <;> simp only [List.getElem?_cons_zero, List.getElem?_cons_succ, List.getElem?_nil, Option.some.injEq, reduceCtorEq] at hx9) <;> subst hx9 <;> (try simp only [List.nil_append] at N')))
   (all_goals (try clear lF' lN'))
   (all_goals (try k_fold)))
  k_steps
  all_goals first
    | ((refine' hret _ _ _ (Fr.keep ?kfr) ?_; (case kfr => k_asm)); exact ⟨_, congrArg (fun x => Value.int x _) (by unfold sizeOf'; (repeat' split) <;> omega)⟩)
    | (refine ⟨?_, ?_, ?_, ?_⟩ <;> intro h9 <;> omega)
end
/-! part S2 -/
section
noncomputable def foldAt (ks : List Int) (p : Nat) (v : Int) : Nat → Option Int
  | 0 => some v
  | j + 1 => (foldAt ks p v j).bind fun a => if 128 ≤ ks.getD (p + j) 0 ∧ ks.getD (p + j) 0 < 192 then some (a * 64 + ks.getD (p + j) 0 - 128) else none
noncomputable def wholeAt (ks : List Int) (i : Nat) : Option Int :=
  (leadOf (ks.getD i 0)).bind fun kv => if (ks.length : Int) ≤ (i : Int) + kv.1 then none else
    (foldAt ks (i + 1) kv.2 kv.1.toNat).bind fun c => if 1114111 < c ∨ (55296 ≤ c ∧ c ≤ 57343) ∨ sizeOf' c ≠ kv.1 + 1 then none else some c
noncomputable def OptInt (o : Option Int) (r : Value) : Prop := match o with
  | none => r = .none
  | some c => ∃ t, r = .int c t
theorem foldAt_none {ks : List Int} {p : Nat} {v : Int} {j : Nat} (h : foldAt ks p v j = none) : ∀ k, j ≤ k → foldAt ks p v k = none := by
  intro k hk
  induction k with
  | zero => have : j = 0 := by omega
            subst this; exact h
  | succ k ih =>
    rcases Nat.lt_or_ge k j with h1 | h1
    · have : j = k + 1 := by omega
      subst this; exact h
    · show (foldAt ks p v k).bind _ = none
      rw [ih h1]; rfl
theorem toNat_more {i : Int} {j : Nat} (h0 : 0 ≤ i) : (i + 1 + (j : Int)).toNat = i.toNat + 1 + j := by
  obtain ⟨n, rfl⟩ := Int.eq_ofNat_of_zero_le h0
  rfl
theorem foldAt_step {ks : List Int} {i v a : Int} {j : Nat} (h0 : 0 ≤ i) (h : foldAt ks (i.toNat + 1) v j = some a) (hf : 128 ≤ ks.getD (i + 1 + (j : Int)).toNat 0 ∧ ks.getD (i + 1 + (j : Int)).toNat 0 < 192) :
    foldAt ks (i.toNat + 1) v (j + 1) = some (a * 64 + ks.getD (i + 1 + (j : Int)).toNat 0 - 128) := by
  have e : (i + 1 + (j : Int)).toNat = i.toNat + 1 + j := toNat_more h0
  rw [e] at hf ⊢
  show (foldAt ks (i.toNat + 1) v j).bind _ = _
  rw [h]
  simp only [Option.bind_some]
  rw [if_pos hf]
theorem foldAt_stop {ks : List Int} {i v a : Int} {j : Nat} (h0 : 0 ≤ i) (h : foldAt ks (i.toNat + 1) v j = some a) (hf : ¬ (128 ≤ ks.getD (i + 1 + (j : Int)).toNat 0 ∧ ks.getD (i + 1 + (j : Int)).toNat 0 < 192)) :
    foldAt ks (i.toNat + 1) v (j + 1) = none := by
  have e : (i + 1 + (j : Int)).toNat = i.toNat + 1 + j := toNat_more h0
  rw [e] at hf
  show (foldAt ks (i.toNat + 1) v j).bind _ = _
  rw [h]
  simp only [Option.bind_some]
  rw [if_neg hf]
section
variable {ks : List Int} {i k v a : Int}
theorem wholeAt_1 (e : leadOf (ks.getD i.toNat 0) = none) : OptInt (wholeAt ks i.toNat) .none := by
  unfold wholeAt
  rw [e]
  rfl
theorem wholeAt_2 (e : leadOf (ks.getD i.toNat 0) = some (k, v)) (h0 : 0 ≤ i) (h : (ks.length : Int) ≤ i + k) : OptInt (wholeAt ks i.toNat) .none := by
  have e' : ((i.toNat : Nat) : Int) = i := by omega
  unfold wholeAt
  rw [e, Option.bind_some]
  dsimp only
  rw [e', if_pos h]
  rfl
theorem wholeAt_3 (e : leadOf (ks.getD i.toNat 0) = some (k, v)) (h0 : 0 ≤ i) (h : ¬ (ks.length : Int) ≤ i + k) (f : foldAt ks (i.toNat + 1) v k.toNat = some a) (hb : 1114111 < a ∨ (55296 ≤ a ∧ a ≤ 57343) ∨ sizeOf' a ≠ k + 1) : OptInt (wholeAt ks i.toNat) .none := by
  have e' : ((i.toNat : Nat) : Int) = i := by omega
  unfold wholeAt
  rw [e, Option.bind_some]
  dsimp only
  rw [e', if_neg h, f, Option.bind_some, if_pos hb]
  rfl
theorem wholeAt_4 {t : Tok} (e : leadOf (ks.getD i.toNat 0) = some (k, v)) (h0 : 0 ≤ i) (h : ¬ (ks.length : Int) ≤ i + k) (f : foldAt ks (i.toNat + 1) v k.toNat = some a) (hb : ¬ (1114111 < a ∨ (55296 ≤ a ∧ a ≤ 57343) ∨ sizeOf' a ≠ k + 1)) : OptInt (wholeAt ks i.toNat) (.int a t) := by
  have e' : ((i.toNat : Nat) : Int) = i := by omega
  unfold wholeAt
  rw [e, Option.bind_some]
  dsimp only
  rw [e', if_neg h, f, Option.bind_some, if_neg hb]
  exact ⟨t, rfl⟩
theorem wholeAt_5 {j : Nat} (e : leadOf (ks.getD i.toNat 0) = some (k, v)) (h0 : 0 ≤ i) (h : ¬ (ks.length : Int) ≤ i + k) (hj : j < k.toNat) (f : foldAt ks (i.toNat + 1) v j = some a) (hf : ¬ (128 ≤ ks.getD (i + 1 + (j : Int)).toNat 0 ∧ ks.getD (i + 1 + (j : Int)).toNat 0 < 192)) : OptInt (wholeAt ks i.toNat) .none := by
  have e' : ((i.toNat : Nat) : Int) = i := by omega
  unfold wholeAt
  rw [e, Option.bind_some]
  dsimp only
  rw [e', if_neg h, foldAt_none (foldAt_stop h0 f hf) _ hj]
  rfl
end
theorem whole_at_pu (w : World) (b : Array UInt8) (tb ti : Tok) (i : Int) (ks : List Int) (hks : KBw.bInts b = ks) (hsz : ks.length ≤ 64) (h0 : 0 ≤ i) (h1 : i < (ks.length : Int)) : Pu w 90 [.bytes b tb, .int i ti] 3 24 (fun _ => True) (fun _ _ r => OptInt (wholeAt ks i.toNat) r) := by
  w_top off
  (
      unfold Pu
      k_fill
      intro mean mg mb dp un gd cn cs a ccd cl outer A₀ base h₀ L m s Q E B F X T hk hpre hd hu hret
      refine wpAny_call ?_
      k_dflt (refine' pu_enter B F X T ?kA ?kF ?kK ?k6 ?k7 ?k8 ?k9 ?kB ?_ ?c2 ?c3 ?c4 ?c5; (case kA => exact rfl); (case kF => exact rfl); (case kK => assumption); (case k6 => k_is); (case k7 => k_is); (case k8 => ktr_room); (case k9 => exact BindsTo.of_eq rfl); (case c5 => decide); (case kB => exact locs rfl); (case c2 => exact rfl); (case c3 => exact rfl); (case c4 => exact rfl); k_whole)
      clear B F X T
      intro L' h' F' N' B' X' T'
      (try dsimp only)
      (try k_fold))
  k_with_none
  k_with "exec Assign" => k_fold
  k_with "exec Expr" => k_fold
  k_with "exec If" => k_fold
  k_with "exec Return" => k_fold
  k_with "exec AugAssign" => k_fold
  k_with "eval Call" => k_fold
  k_with "eval Compare" => k_fold
  k_with "isTrue Compare" => k_fold
  k_with "eval BinOp" => k_fold
  k_with "eval Subscript" => k_fold
  k_with "eval Tuple" => k_fold
  k_with "eval List" => k_fold
  k_with "eval BoolOp" => k_fold
  k_with "isTrue BoolOp Or" => k_fold
  k_with "isTrue BoolOp" => k_fold
  k_with "eval ListComp" => k_fold
  k_with "execs cons" => k_fold
  k_with "call ref" => ((k_here; first
      | (refine' Pu.use (is_bad_pu _ _ _) ?k1 ?k2 ?k3 ?k4 ?k5 ?kK ?kp ?kd ?ku ?_; ((case k1 => k_asm); (case k2 => k_asm); (case k3 => k_asm); (case k4 => k_asm); (case k5 => k_asm); (case kK => first | exact rfl | assumption); (try (case kp => exact trivial)); (case kd => ktr_room); (case ku => ktr_units)); intro r9 h9 tk9 F9 N9 e9 o9; subst o9; (try dsimp only); (try k_fold))
      | (refine' Pu.use (is_following_pu _ _ _) ?k1 ?k2 ?k3 ?k4 ?k5 ?kK ?kp ?kd ?ku ?_; ((case k1 => k_asm); (case k2 => k_asm); (case k3 => k_asm); (case k4 => k_asm); (case k5 => k_asm); (case kK => first | exact rfl | assumption); (try (case kp => exact trivial)); (case kd => ktr_room); (case ku => ktr_units)); intro r9 h9 tk9 F9 N9 e9 o9; subst o9; (try dsimp only); (try k_fold))
      | (refine' Pu.use (size_of_code_pu _ _ _ ?hc) ?k1 ?k2 ?k3 ?k4 ?k5 ?kK ?kp ?kd ?ku ?_; (case hc => omega); ((case k1 => k_asm); (case k2 => k_asm); (case k3 => k_asm); (case k4 => k_asm); (case k5 => k_asm); (case kK => first | exact rfl | assumption); (try (case kp => exact trivial)); (case kd => ktr_room); (case ku => ktr_units)); intro r9 h9 tk9 F9 N9 e9 o9; (refine Exists.elim o9 ?_; clear o9; intro t9 o9; subst o9); (try dsimp only); (try k_fold))
      | (refine' Pu.use (lead_of_pu _ _ _) ?k1 ?k2 ?k3 ?k4 ?k5 ?kK ?kp ?kd ?ku ?_; ((case k1 => k_asm); (case k2 => k_asm); (case k3 => k_asm); (case k4 => k_asm); (case k5 => k_asm); (case kK => first | exact rfl | assumption); (try (case kp => exact trivial)); (case kd => ktr_room); (case ku => ktr_units)); intro r9 h9 tk9 F9 N9 e9 o9; refine leadOut_cases o9 ?kc1 ?kc2; (case' kc1 => (intro el9 er9; subst er9; clear o9; (try dsimp only); (try k_fold))); (case' kc2 => (intro k9 v9 T9 t9 u9 el9 er9 hn9 hT9; subst er9; clear o9; have N9' := news_new (by assumption) (by assumption) e9 hn9 hT9; have hb9 := leadOf_bound el9 (by assumption) (by assumption); (try dsimp only); (try k_fold))))))
  k_with "InvEndN" => ((refine' InvEndN.intro ?iF ?iN ⟨rfl, ⟨_, _, ?ie, ?_⟩, ?is⟩ (by rfl) ?ia ?io; (case iF => assumption); (case iN => assumption); (case ie => rfl); (case is => (intro z h1 h2; first | rfl | (simp [h1, h2]; done) | (simp_all; done))); (case ia => (with_unfolding_all ((try simp only [List.nil_append, List.cons_append]); k_allIn))); (case io => (intro p hp; k_ownIn))))
  k_with "pyIter ref" => (
   (rename Fr _ _ _ _ => lF'); (rename News _ _ _ _ => lN'); (rename IsRange _ _ _ _ _ _ _ _ => rgX)
   (with_unfolding_all refine' range_inv1 (n := k9.toNat) (y := Str.ofString "code") (fun j a => foldAt ks (i.toNat+1) v9 j = some a) (by rfl) rgX ?sm ?sz lF' lN' (by rfl) (by rfl) (fun j9 t9 a9 ta9 h9 tk9 own9 hj9 hR9 hoff9 F' N' => ?_) (fun u9 a9 t9 h9 tk9 hR9 F' N' => ?_))
   (case sm => exact small_one (by omega) (by omega) (by omega) (by omega))
   (case sz => (rw [rangeSize_nat]; congr 1; omega))
   (all_goals (try clear lF' lN'))
   (all_goals (try simp only [List.nil_append, List.cons_append, List.append_nil] at N'))
   (all_goals (try k_fold)))
  skip
  (k_steps)
  all_goals first
    | exact foldAt_step h0 (by assumption) (by assumption)
    | ((refine' hret _ _ _ (Fr.keep ?kfr) ?_; (case kfr => k_asm)); first
      | exact wholeAt_1 (by assumption)
      | exact wholeAt_2 (by assumption) h0 (by assumption)
      | exact wholeAt_3 (by assumption) h0 (by assumption) (by assumption) (by omega)
      | exact wholeAt_4 (by assumption) h0 (by assumption) (by assumption) (by omega)
      | exact wholeAt_5 (by assumption) h0 (by assumption) (by assumption) (by assumption) (by assumption))
end
/-! part S3 -/
section
theorem optInt_cases {o : Option Int} {r : Value} {G : Prop} (h : OptInt o r) (h1 : o = none → r = .none → G) (h2 : ∀ c t, o = some c → r = .int c t → G) : G := by
  cases o with
  | none => exact h1 rfl h
  | some c => obtain ⟨t, e⟩ := h; exact h2 c t rfl e
theorem wholeAt_lt {ks : List Int} {i : Nat} {c : Int} (h : wholeAt ks i = some c) : c < 1114112 := by
  unfold wholeAt at h
  cases e : leadOf (ks.getD i 0) with
  | none => rw [e] at h; cases h
  | some kv =>
    rw [e, Option.bind_some] at h
    split at h
    · cases h
    · cases f : foldAt ks (i + 1) kv.2 kv.1.toNat with
      | none => rw [f] at h; cases h
      | some a =>
        rw [f, Option.bind_some] at h
        split at h
        · cases h
        · have := Option.some.inj h; omega
noncomputable def decOf (ks : List Int) (i : Nat) : Int × Int := match wholeAt ks i with
  | none => (-1 - ks.getD i 0, (i : Int) + 1)
  | some c => (c, (i : Int) + sizeOf' c)
noncomputable def PairOut (p : Int × Int) (h h' : Heap) (r : Value) : Prop := ∃ T t1 t2, r = .ref T ∧ h.get? T = none ∧ h'.get? T = some { cls := .type "tuple", data := .seq #[.int p.1 t1, .int p.2 t2] }
theorem pairOut_mk {p : Int × Int} {x y : Int} {h h' : Heap} {T : Addr} {t1 t2 : Tok} {L : Addr} {news : List (Addr × Obj)} (N : News h L h' news) (hm : (T, ({ cls := .type "tuple", data := .seq #[.int x t1, .int y t2] } : Obj)) ∈ news) (e1 : x = p.1) (e2 : y = p.2) : PairOut p h h' (.ref T) := by
  subst e1 e2
  exact ⟨T, t1, t2, rfl, (N _ hm).2.2, (N _ hm).1⟩
theorem decoded_pu (w : World) (b : Array UInt8) (tb ti : Tok) (i : Int) (ks : List Int) (hks : KBw.bInts b = ks) (hsz : ks.length ≤ 64) (h0 : 0 ≤ i) (h1 : i < (ks.length : Int)) : Pu w 97 [.bytes b tb, .int i ti] 4 32 (fun _ => True) (PairOut (decOf ks i.toNat)) := by
  w_top off
  (
      unfold Pu
      k_fill
      intro mean mg mb dp un gd cn cs a ccd cl outer A₀ base h₀ L m s Q E B F X T hk hpre hd hu hret
      refine wpAny_call ?_
      k_dflt (refine' pu_enter B F X T ?kA ?kF ?kK ?k6 ?k7 ?k8 ?k9 ?kB ?_ ?c2 ?c3 ?c4 ?c5; (case kA => exact rfl); (case kF => exact rfl); (case kK => assumption); (case k6 => k_is); (case k7 => k_is); (case k8 => ktr_room); (case k9 => exact BindsTo.of_eq rfl); (case c5 => decide); (case kB => exact locs rfl); (case c2 => exact rfl); (case c3 => exact rfl); (case c4 => exact rfl); k_whole)
      clear B F X T
      intro L' h' F' N' B' X' T'
      (try dsimp only)
      (try k_fold))
  k_with_none
  k_with "exec Assign" => k_fold
  k_with "exec Expr" => k_fold
  k_with "exec If" => k_fold
  k_with "exec Return" => k_fold
  k_with "exec AugAssign" => k_fold
  k_with "eval Call" => k_fold
  k_with "eval Compare" => k_fold
  k_with "isTrue Compare" => k_fold
  k_with "eval BinOp" => k_fold
  k_with "eval Subscript" => k_fold
  k_with "eval Tuple" => k_fold
  k_with "eval List" => k_fold
  k_with "eval BoolOp" => k_fold
  k_with "isTrue BoolOp Or" => k_fold
  k_with "isTrue BoolOp" => k_fold
  k_with "eval ListComp" => k_fold
  k_with "execs cons" => k_fold
  k_with "InvEndN" => ((refine' InvEndN.intro ?iF ?iN ⟨rfl, ?_, ?is⟩ (by rfl) ?ia ?io; (case iF => assumption); (case iN => assumption); (case is => first | (intro z h1; first | rfl | (simp [h1]; done) | (have h2 := h1; simp only [List.contains_cons, List.contains_nil, Bool.or_false, Bool.or_eq_false_iff, beq_eq_false_iff_ne, ne_eq] at h2; simp only [h1, h2, if_false, Bool.false_eq_true, not_false_eq_true]; done) | (have h2 := h1; simp at h2; simp [h1, h2]; done) | (simp_all; done)) | (intro z h1; (intro z h1; first | rfl | (simp [h1]; done) | (have h2 := h1; simp only [List.contains_cons, List.contains_nil, Bool.or_false, Bool.or_eq_false_iff, beq_eq_false_iff_ne, ne_eq] at h2; simp only [h1, h2, if_false, Bool.false_eq_true, not_false_eq_true]; done) | (have h2 := h1; simp at h2; simp [h1, h2]; done) | (simp_all; done)))); (case ia => (with_unfolding_all ((try simp only [List.nil_append, List.cons_append]); k_allIn))); (case io => (intro p hp; k_ownIn))))
  k_with "call ref" => ((k_here; first
      | (refine' Pu.use (is_bad_pu _ _ _) ?k1 ?k2 ?k3 ?k4 ?k5 ?kK ?kp ?kd ?ku ?_; ((case k1 => k_asm); (case k2 => k_asm); (case k3 => k_asm); (case k4 => k_asm); (case k5 => k_asm); (case kK => first | exact rfl | assumption); (try (case kp => exact trivial)); (case kd => ktr_room); (case ku => ktr_units)); intro r9 h9 tk9 F9 N9 e9 o9; subst o9; (try dsimp only); (try k_fold))
      | (refine' Pu.use (is_following_pu _ _ _) ?k1 ?k2 ?k3 ?k4 ?k5 ?kK ?kp ?kd ?ku ?_; ((case k1 => k_asm); (case k2 => k_asm); (case k3 => k_asm); (case k4 => k_asm); (case k5 => k_asm); (case kK => first | exact rfl | assumption); (try (case kp => exact trivial)); (case kd => ktr_room); (case ku => ktr_units)); intro r9 h9 tk9 F9 N9 e9 o9; subst o9; (try dsimp only); (try k_fold))
      | (refine' Pu.use (size_of_code_pu _ _ _ ?hc) ?k1 ?k2 ?k3 ?k4 ?k5 ?kK ?kp ?kd ?ku ?_; (case hc => omega); ((case k1 => k_asm); (case k2 => k_asm); (case k3 => k_asm); (case k4 => k_asm); (case k5 => k_asm); (case kK => first | exact rfl | assumption); (try (case kp => exact trivial)); (case kd => ktr_room); (case ku => ktr_units)); intro r9 h9 tk9 F9 N9 e9 o9; (refine Exists.elim o9 ?_; clear o9; intro t9 o9; subst o9); (try dsimp only); (try k_fold))
      | (refine' Pu.use (whole_at_pu _ _ _ _ _ _ ?hks ?hsz ?h0 ?h1) ?k1 ?k2 ?k3 ?k4 ?k5 ?kK ?kp ?kd ?ku ?_; (case hks => kba_ints); (case hsz => omega); (case h0 => omega); (case h1 => omega); ((case k1 => k_asm); (case k2 => k_asm); (case k3 => k_asm); (case k4 => k_asm); (case k5 => k_asm); (case kK => first | exact rfl | assumption); (try (case kp => exact trivial)); (case kd => ktr_room); (case ku => ktr_units)); intro r9 h9 tk9 F9 N9 e9 o9; refine optInt_cases o9 (fun ew9 er9 => ?_) (fun c9 t9 ew9 er9 => ?_) <;> subst er9 <;> clear o9 <;> (try have hw9 := wholeAt_lt ew9) <;> (try dsimp only) <;> (try k_fold))))
  k_steps
  all_goals (refine' hret _ _ _ (Fr.keep ?kfr) ?_; (case kfr => k_asm))
  all_goals exact pairOut_mk (by assumption) (.head _) (by simp only [decOf]; rw [‹wholeAt ks i.toNat = _›]) (by simp only [decOf]; rw [‹wholeAt ks i.toNat = _›]; simp only []; omega)
noncomputable def Covers (ks : List Int) (i q : Int) : Prop := ∃ c, wholeAt ks q.toNat = some c ∧ i < q + sizeOf' c
noncomputable def IsStart (ks : List Int) (i : Int) : Prop := 0 ≤ i ∧ i < (ks.length : Int) ∧ (¬ (128 ≤ ks.getD i.toNat 0 ∧ ks.getD i.toNat 0 < 192) ∨ ∀ q, 0 ≤ q → i - 3 ≤ q → q < i → ¬ Covers ks i q)
noncomputable def startB (ks : List Int) (i : Int) : Bool := @decide (IsStart ks i) (Classical.propDecidable _)
noncomputable def NoCov (ks : List Int) (i lo : Int) (j : Nat) : Prop := ∀ q, 0 ≤ q → i - 3 ≤ q → q < i → q < lo + (j : Int) → ¬ Covers ks i q
theorem noCov_0 {ks : List Int} {i lo : Int} (h : lo = 0 ∨ lo = i - 3) : NoCov ks i lo 0 := fun q a b c d => by omega
theorem noCov_step {ks : List Int} {i lo : Int} {j : Nat} (h : NoCov ks i lo j) (hn : ¬ Covers ks i (lo + (j : Int))) : NoCov ks i lo (j + 1) := by
  intro q a b c d
  by_cases e : q = lo + (j : Int)
  · rw [e]; exact hn
  · exact h q a b c (by omega)
theorem noCov_none {ks : List Int} {i q : Int} (h : wholeAt ks q.toNat = none) : ¬ Covers ks i q := by
  rintro ⟨c, e, _⟩
  rw [h] at e; cases e
theorem noCov_some {ks : List Int} {i q c : Int} (h : wholeAt ks q.toNat = some c) (hn : ¬ i < q + sizeOf' c) : ¬ Covers ks i q := by
  rintro ⟨c', e, hl⟩
  rw [h] at e; cases e; exact hn hl
theorem startB_true {ks : List Int} {i : Int} (h : IsStart ks i) : Value.bool true = .bool (startB ks i) := congrArg Value.bool (@decide_eq_true _ (Classical.propDecidable _) h).symm
theorem startB_false {ks : List Int} {i : Int} (h : ¬ IsStart ks i) : Value.bool false = .bool (startB ks i) := congrArg Value.bool (@decide_eq_false _ (Classical.propDecidable _) h).symm
theorem isStart_end {ks : List Int} {i lo : Int} (a : 0 ≤ i) (b : i < (ks.length : Int)) (h : NoCov ks i lo (i - lo).toNat) : IsStart ks i := ⟨a, b, .inr fun q c d e => h q c d e (by omega)⟩
theorem isStart_not {ks : List Int} {i lo c : Int} {j : Nat} (f : 128 ≤ ks.getD i.toNat 0 ∧ ks.getD i.toNat 0 < 192) (hj : j < (i - lo).toNat) (e : wholeAt ks (lo + (j : Int)).toNat = some c) (hl : i < lo + (j : Int) + sizeOf' c) (h0 : 0 ≤ lo) (h1 : i - 3 ≤ lo) : ¬ IsStart ks i := by
  rintro ⟨_, _, h | h⟩
  · exact h f
  · exact h (lo + (j : Int)) (by omega) (by omega) (by omega) ⟨c, e, hl⟩
theorem is_start_pu (w : World) (b : Array UInt8) (tb ti : Tok) (i : Int) (ks : List Int) (hks : KBw.bInts b = ks) (hsz : ks.length ≤ 64) (h0 : -2 ≤ i) (h1 : i < 128) : Pu w 104 [.bytes b tb, .int i ti] 4 32 (fun _ => True) (fun _ _ r => r = .bool (startB ks i)) := by
  w_top off
  (
      unfold Pu
      k_fill
      intro mean mg mb dp un gd cn cs a ccd cl outer A₀ base h₀ L m s Q E B F X T hk hpre hd hu hret
      refine wpAny_call ?_
      k_dflt (refine' pu_enter B F X T ?kA ?kF ?kK ?k6 ?k7 ?k8 ?k9 ?kB ?_ ?c2 ?c3 ?c4 ?c5; (case kA => exact rfl); (case kF => exact rfl); (case kK => assumption); (case k6 => k_is); (case k7 => k_is); (case k8 => ktr_room); (case k9 => exact BindsTo.of_eq rfl); (case c5 => decide); (case kB => exact locs rfl); (case c2 => exact rfl); (case c3 => exact rfl); (case c4 => exact rfl); k_whole)
      clear B F X T
      intro L' h' F' N' B' X' T'
      (try dsimp only)
      (try k_fold))
  k_with_none
  k_with "exec Assign" => k_fold
  k_with "exec Expr" => k_fold
  k_with "exec If" => k_fold
  k_with "exec Return" => k_fold
  k_with "exec AugAssign" => k_fold
  k_with "eval Call" => k_fold
  k_with "eval Compare" => k_fold
  k_with "isTrue Compare" => k_fold
  k_with "eval BinOp" => k_fold
  k_with "eval Subscript" => k_fold
  k_with "eval Tuple" => k_fold
  k_with "eval List" => k_fold
  k_with "eval BoolOp" => k_fold
  k_with "isTrue BoolOp Or" => k_fold
  k_with "isTrue BoolOp" => k_fold
  k_with "eval ListComp" => k_fold
  k_with "execs cons" => k_fold
  k_with "InvEndN" => ((refine' InvEndN.intro ?iF ?iN ⟨rfl, ?_, ?is⟩ (by rfl) ?ia ?io; (case iF => assumption); (case iN => assumption); (case is => first | (intro z h1; first | rfl | (simp [h1]; done) | (have h2 := h1; simp only [List.contains_cons, List.contains_nil, Bool.or_false, Bool.or_eq_false_iff, beq_eq_false_iff_ne, ne_eq] at h2; simp only [h1, h2, if_false, Bool.false_eq_true, not_false_eq_true]; done) | (have h2 := h1; simp at h2; simp [h1, h2]; done) | (simp_all; done)) | (intro z h1; (intro z h1; first | rfl | (simp [h1]; done) | (have h2 := h1; simp only [List.contains_cons, List.contains_nil, Bool.or_false, Bool.or_eq_false_iff, beq_eq_false_iff_ne, ne_eq] at h2; simp only [h1, h2, if_false, Bool.false_eq_true, not_false_eq_true]; done) | (have h2 := h1; simp at h2; simp [h1, h2]; done) | (simp_all; done)))); (case ia => (with_unfolding_all ((try simp only [List.nil_append, List.cons_append]); k_allIn))); (case io => (intro p hp; k_ownIn))))
  k_with "call ref" => ((k_here; first
      | (refine' Pu.use (is_bad_pu _ _ _) ?k1 ?k2 ?k3 ?k4 ?k5 ?kK ?kp ?kd ?ku ?_; ((case k1 => k_asm); (case k2 => k_asm); (case k3 => k_asm); (case k4 => k_asm); (case k5 => k_asm); (case kK => first | exact rfl | assumption); (try (case kp => exact trivial)); (case kd => ktr_room); (case ku => ktr_units)); intro r9 h9 tk9 F9 N9 e9 o9; subst o9; (try dsimp only); (try k_fold))
      | (refine' Pu.use (is_following_pu _ _ _) ?k1 ?k2 ?k3 ?k4 ?k5 ?kK ?kp ?kd ?ku ?_; ((case k1 => k_asm); (case k2 => k_asm); (case k3 => k_asm); (case k4 => k_asm); (case k5 => k_asm); (case kK => first | exact rfl | assumption); (try (case kp => exact trivial)); (case kd => ktr_room); (case ku => ktr_units)); intro r9 h9 tk9 F9 N9 e9 o9; subst o9; (try dsimp only); (try k_fold))
      | (refine' Pu.use (size_of_code_pu _ _ _ ?hc) ?k1 ?k2 ?k3 ?k4 ?k5 ?kK ?kp ?kd ?ku ?_; (case hc => omega); ((case k1 => k_asm); (case k2 => k_asm); (case k3 => k_asm); (case k4 => k_asm); (case k5 => k_asm); (case kK => first | exact rfl | assumption); (try (case kp => exact trivial)); (case kd => ktr_room); (case ku => ktr_units)); intro r9 h9 tk9 F9 N9 e9 o9; (refine Exists.elim o9 ?_; clear o9; intro t9 o9; subst o9); (try dsimp only); (try k_fold))
      | (refine' Pu.use (whole_at_pu _ _ _ _ _ _ ?hks ?hsz ?h0 ?h1) ?k1 ?k2 ?k3 ?k4 ?k5 ?kK ?kp ?kd ?ku ?_; (case hks => kba_ints); (case hsz => omega); (case h0 => omega); (case h1 => omega); ((case k1 => k_asm); (case k2 => k_asm); (case k3 => k_asm); (case k4 => k_asm); (case k5 => k_asm); (case kK => first | exact rfl | assumption); (try (case kp => exact trivial)); (case kd => ktr_room); (case ku => ktr_units)); intro r9 h9 tk9 F9 N9 e9 o9; refine optInt_cases o9 (fun ew9 er9 => ?_) (fun c9 t9 ew9 er9 => ?_) <;> subst er9 <;> clear o9 <;> (try have hw9 := wholeAt_lt ew9) <;> (try dsimp only) <;> (try k_fold))))
  k_with "exec For Name Call cons nil" => (k_here; (rename Fr _ _ _ _ => lF'); (with_unfolding_all refine' For_invVF lF' ?k1 ?k2 ?_; (case k1 => exact rfl); (case k2 => exact rfl); k_whole))
  k_with "pyIter ref" => (
   (rename Fr _ _ _ _ => lF'); (rename News _ _ _ _ => lN'); (rename IsRange _ _ _ _ _ _ _ _ => rgX)
   (generalize hlo9 : (if i - 3 > 0 then i - 3 else 0) = lo9 at *)
   (have hlo8 : 0 ≤ lo9 ∧ i - 3 ≤ lo9 ∧ (lo9 = 0 ∨ lo9 = i - 3) := by (rw [← hlo9]; split <;> omega))
   (with_unfolding_all refine' range_inv0 (n := (i - lo9).toNat) [Str.ofString "code"] (NoCov ks i lo9) (by rfl) rgX ?sm ?sz lF' lN' ?r0 (fun j9 t9 u9 h9 tk9 own9 hj9 hR9 hoff9 F' N' => ?_) (fun u9 h9 tk9 hR9 F' N' => ?_))
   (case sm => exact small_one (by omega) (by omega) (by omega) (by omega))
   (case sz => exact rangeSize_nat _ _)
   (case r0 => exact noCov_0 (by omega))
   (all_goals (try clear lF' lN'))
   (all_goals (try simp only [List.nil_append, List.cons_append, List.append_nil] at N'))
   (all_goals (try k_fold)))
  k_steps
  all_goals first
    | exact noCov_step (by assumption) (noCov_none (by assumption))
    | exact noCov_step (by assumption) (noCov_some (by assumption) (by assumption))
    | ((refine' hret _ _ _ (Fr.keep ?kfr) ?_; (case kfr => k_asm)); first
      | exact startB_true (isStart_end (by assumption) (by assumption) (by assumption))
      | exact startB_true ⟨by assumption, by assumption, .inl (by assumption)⟩
      | exact startB_false (isStart_not (by assumption) (by assumption) (by assumption) (by assumption) (by omega) (by omega))
      | exact startB_false (fun h => absurd h.1 (by assumption))
      | exact startB_false (fun h => absurd h.2.1 (by assumption)))
end
/-! part W0 -/
section
open PySem PySem.W PyProof.Rows PySem.Spec PySem.Calls PyProof.V
noncomputable def WEnd (h₀ : Heap) (L : Addr) (J : (Str → Option Value) → List (Addr × Obj) → Prop) (s₁ s₂ : Shared) : Prop :=
  ∃ h' tk m' nx, s₂ = { s₁ with heap := h', toks := tk } ∧ Fr h₀ L h' m' ∧ News h₀ L h' nx ∧ J m' nx
noncomputable def WPost (h₀ : Heap) (L : Addr) (J : (Str → Option Value) → List (Addr × Obj) → Prop) (s₁ : Shared) (Q : Flow → Shared → Prop) (f : Flow) (s₂ : Shared) : Prop :=
  match f with
  | .ret v => Q (.ret v) s₂
  | .brk => Q .next s₂
  | _ => WEnd h₀ L J s₁ s₂
theorem WEnd.intro {h₀ : Heap} {L : Addr} {J : (Str → Option Value) → List (Addr × Obj) → Prop} {m' : Str → Option Value} {nx news' : List (Addr × Obj)} {s₁ : Shared} {h' : Heap} {tk : Nat} (F : Fr h₀ L h' m') (N : News h₀ L h' news')
    (hn : ∀ p ∈ nx, p ∈ news') (hj : J m' nx) : WEnd h₀ L J s₁ { s₁ with heap := h', toks := tk } := ⟨h', tk, m', nx, rfl, F, fun p hp => N p (hn p hp), hj⟩
section
variable {prog : Program} {w : World} {A : Around} {E : Value → Shared → Prop} {s : Shared} {env : Env} {h₀ : Heap} {test : PySem.Expr} {body : List Stmt} {Q : Flow → Shared → Prop}
/-- a while, by what holds ahead of each test, and a measure -/
theorem while_inv {σ : Type} {pos : Pos} {m₀ : Str → Option Value} {news : List (Addr × Obj)} (J : σ → (Str → Option Value) → List (Addr × Obj) → Prop) (μ : σ → Nat) (a₀ : σ)
    (F : Fr h₀ env.locals s.heap m₀) (N : News h₀ env.locals s.heap news) (hj : J a₀ m₀ news) (hE : PassesOwn (model prog w) A env E)
    (turn : ∀ a m₁ nx h tk, J a m₁ nx → Fr h₀ env.locals h m₁ → News h₀ env.locals h nx →
      wpAny (model prog w) A (isTrue test env (eval test env)) (fun b s₂ => WhlIf b (wpAny (model prog w) A (execs body env) (WPost h₀ env.locals (fun m' n' => ∃ a', μ a' < μ a ∧ J a' m' n') { s with heap := h, toks := tk } Q) E s₂) (wpAny (model prog w) A (execs [] env) Q E s₂)) E { s with heap := h, toks := tk }) :
    wpAny (model prog w) A (exec (.While test body [] pos) env) Q E s := by
  have all : ∀ n a m₁ nx h tk, μ a < n → J a m₁ nx → Fr h₀ env.locals h m₁ → News h₀ env.locals h nx → WhlRest prog w A E env test body [] Q 0 { s with heap := h, toks := tk } := by
    intro n
    induction n with
    | zero => intro a m₁ nx h tk hn; exact absurd hn (Nat.not_lt_zero _)
    | succ n ih =>
      intro a m₁ nx h tk hn hJ F₁ N₁
      refine whl_turn (k := 0) hE (wpAny_mono (turn a m₁ nx h tk hJ F₁ N₁) (fun b s₂ h₂ => ?_) fun _ _ e => e)
      cases b with
      | false => exact h₂
      | true =>
        unfold WhlIf at h₂ ⊢
        rw [if_pos rfl] at h₂ ⊢
        refine wpAny_mono h₂ (fun f s₃ h₃ => ?_) fun _ _ e => e
        have fin : WEnd h₀ env.locals (fun m' n' => ∃ a', μ a' < μ a ∧ J a' m' n') { s with heap := h, toks := tk } s₃ → WhlRest prog w A E env test body [] Q 0 s₃ := by
          rintro ⟨h', tk', m', nx', rfl, F', N', a', hlt, hJ'⟩
          exact ih a' m' nx' h' tk' (Nat.lt_of_lt_of_le hlt (Nat.le_of_lt_succ hn)) hJ' F' N'
        cases f with
        | ret v => exact h₃
        | brk => exact h₃
        | next => exact fin h₃
        | cont => exact fin h₃
  exact whl_start 0 (all _ a₀ m₀ news s.heap s.toks (Nat.lt_succ_self _) hj F N)
/-- one int that the turns change -/
theorem while_inv1 {pos : Pos} {m₀ : Str → Option Value} {news : List (Addr × Obj)} {y : Str} {c₀ : Int} {tc : Tok} (R : Int → Prop) (μ : Int → Nat)
    (F : Fr h₀ env.locals s.heap m₀) (N : News h₀ env.locals s.heap news) (hy : m₀ y = some (.int c₀ tc)) (hR : R c₀) (hE : PassesOwn (model prog w) A env E)
    (turn : ∀ a ta h tk, R a → Fr h₀ env.locals h (fun z => if z = y then some (.int a ta) else m₀ z) → News h₀ env.locals h news →
      wpAny (model prog w) A (isTrue test env (eval test env)) (fun b s₂ => WhlIf b (wpAny (model prog w) A (execs body env) (WPost h₀ env.locals (fun m' n' => n' = news ∧ (∃ a' t', m' y = some (.int a' t') ∧ R a' ∧ μ a' < μ a) ∧ ∀ z, z ≠ y → m' z = m₀ z) { s with heap := h, toks := tk } Q) E s₂) (wpAny (model prog w) A (execs [] env) Q E s₂)) E { s with heap := h, toks := tk }) :
    wpAny (model prog w) A (exec (.While test body [] pos) env) Q E s := by
  have same : ∀ (m₁ : Str → Option Value) a t, m₁ y = some (.int a t) → (∀ z, z ≠ y → m₁ z = m₀ z) → (fun z => if z = y then some (Value.int a t) else m₀ z) = m₁ := by
    intro m₁ a t ha hm
    funext z
    by_cases h1 : z = y
    · subst h1; simp [ha]
    · simp only [if_neg h1]; exact (hm z h1).symm
  refine while_inv (σ := Int) (fun a m n => n = news ∧ (∃ t, m y = some (.int a t)) ∧ R a ∧ ∀ z, z ≠ y → m z = m₀ z) μ c₀ F N ⟨rfl, ⟨_, hy⟩, hR, fun _ _ => rfl⟩ hE ?_
  rintro a m₁ nx h tk ⟨rfl, ⟨t, ha⟩, hRa, hm⟩ F₁ N₁
  refine wpAny_mono (turn a t h tk hRa (by rw [same m₁ a t ha hm]; exact F₁) N₁) (fun b s₂ h₂ => ?_) fun _ _ e => e
  cases b with
  | false => exact h₂
  | true =>
    unfold WhlIf at h₂ ⊢
    rw [if_pos rfl] at h₂ ⊢
    refine wpAny_mono h₂ (fun f s₃ h₃ => ?_) fun _ _ e => e
    have fin : ∀ {J₁ J₂ : (Str → Option Value) → List (Addr × Obj) → Prop}, (∀ m n, J₁ m n → J₂ m n) → WEnd h₀ env.locals J₁ { s with heap := h, toks := tk } s₃ → WEnd h₀ env.locals J₂ { s with heap := h, toks := tk } s₃ := by
      rintro J₁ J₂ hJ ⟨h', tk', m', nx', e, F', N', j⟩
      exact ⟨h', tk', m', nx', e, F', N', hJ _ _ j⟩
    have step : ∀ (m' : Str → Option Value) (n' : List (Addr × Obj)), (n' = nx ∧ (∃ a' t', m' y = some (.int a' t') ∧ R a' ∧ μ a' < μ a) ∧ ∀ z, z ≠ y → m' z = m₀ z) → ∃ a', μ a' < μ a ∧ (n' = nx ∧ (∃ t, m' y = some (.int a' t)) ∧ R a' ∧ ∀ z, z ≠ y → m' z = m₀ z) := by
      rintro m' n' ⟨e, ⟨a', t', h1, h2, h3⟩, h4⟩
      exact ⟨a', h3, e, ⟨t', h1⟩, h2, h4⟩
    cases f with
    | ret v => exact h₃
    | brk => exact h₃
    | next => exact fin step h₃
    | cont => exact fin step h₃
/-- one int and one list of ints that the turns change -/
theorem while_invL {pos : Pos} {m₀ : Str → Option Value} {D : Addr} {y : Str} {c₀ : Int} {tc : Tok} {vs₀ : List Value} {n₀ : Nat} {l₀ : List Int} (R : Int → List Int → Prop) (μ : Int → Nat)
    {news : List (Addr × Obj)} (F : Fr h₀ env.locals s.heap m₀) (N : News h₀ env.locals s.heap news) (hmem : (D, listOf vs₀.toArray n₀) ∈ news) (hy : m₀ y = some (.int c₀ tc)) (hl : IntsAre vs₀ l₀) (hR : R c₀ l₀) (hE : PassesOwn (model prog w) A env E)
    (turn : ∀ a ta l vs nn h tk, R a l → IntsAre vs l → Fr h₀ env.locals h (fun z => if z = y then some (.int a ta) else m₀ z) → News h₀ env.locals h [(D, listOf vs.toArray nn)] →
      wpAny (model prog w) A (isTrue test env (eval test env)) (fun b s₂ => WhlIf b (wpAny (model prog w) A (execs body env) (WPost h₀ env.locals (fun m' n' => (∃ vs' nn', n' = [(D, listOf vs'.toArray nn')] ∧ ∃ a' t' l', m' y = some (.int a' t') ∧ IntsAre vs' l' ∧ R a' l' ∧ μ a' < μ a) ∧ ∀ z, z ≠ y → m' z = m₀ z) { s with heap := h, toks := tk } Q) E s₂) (wpAny (model prog w) A (execs [] env) Q E s₂)) E { s with heap := h, toks := tk }) :
    wpAny (model prog w) A (exec (.While test body [] pos) env) Q E s := by
  have same : ∀ (m₁ : Str → Option Value) a t, m₁ y = some (.int a t) → (∀ z, z ≠ y → m₁ z = m₀ z) → (fun z => if z = y then some (Value.int a t) else m₀ z) = m₁ := by
    intro m₁ a t ha hm
    funext z
    by_cases h1 : z = y
    · subst h1; simp [ha]
    · simp only [if_neg h1]; exact (hm z h1).symm
  refine while_inv (σ := Int × List Int) (fun p m n => (∃ vs nn, n = [(D, listOf vs.toArray nn)] ∧ IntsAre vs p.2) ∧ (∃ t, m y = some (.int p.1 t)) ∧ R p.1 p.2 ∧ ∀ z, z ≠ y → m z = m₀ z) (fun p => μ p.1) (c₀, l₀) F (news := [(D, listOf vs₀.toArray n₀)]) (fun p hp => N p (by rw [List.mem_singleton.mp hp]; exact hmem)) ⟨⟨vs₀, n₀, rfl, hl⟩, ⟨_, hy⟩, hR, fun _ _ => rfl⟩ hE ?_
  rintro ⟨a, l⟩ m₁ nx h tk ⟨⟨vs, nn, rfl, hvs⟩, ⟨t, ha⟩, hRa, hm⟩ F₁ N₁
  refine wpAny_mono (turn a t l vs nn h tk hRa hvs (by rw [same m₁ a t ha hm]; exact F₁) N₁) (fun b s₂ h₂ => ?_) fun _ _ e => e
  cases b with
  | false => exact h₂
  | true =>
    unfold WhlIf at h₂ ⊢
    rw [if_pos rfl] at h₂ ⊢
    refine wpAny_mono h₂ (fun f s₃ h₃ => ?_) fun _ _ e => e
    have fin : ∀ {J₁ J₂ : (Str → Option Value) → List (Addr × Obj) → Prop}, (∀ m n, J₁ m n → J₂ m n) → WEnd h₀ env.locals J₁ { s with heap := h, toks := tk } s₃ → WEnd h₀ env.locals J₂ { s with heap := h, toks := tk } s₃ := by
      rintro J₁ J₂ hJ ⟨h', tk', m', nx', e, F', N', j⟩
      exact ⟨h', tk', m', nx', e, F', N', hJ _ _ j⟩
    have step : ∀ (m' : Str → Option Value) (n' : List (Addr × Obj)), ((∃ vs' nn', n' = [(D, listOf vs'.toArray nn')] ∧ ∃ a' t' l', m' y = some (.int a' t') ∧ IntsAre vs' l' ∧ R a' l' ∧ μ a' < μ a) ∧ ∀ z, z ≠ y → m' z = m₀ z) →
        ∃ p : Int × List Int, μ p.1 < μ a ∧ ((∃ vs nn, n' = [(D, listOf vs.toArray nn)] ∧ IntsAre vs p.2) ∧ (∃ t, m' y = some (.int p.1 t)) ∧ R p.1 p.2 ∧ ∀ z, z ≠ y → m' z = m₀ z) := by
      rintro m' n' ⟨⟨vs', nn', e, a', t', l', h1, h2, h3, h4⟩, h5⟩
      exact ⟨(a', l'), h4, ⟨vs', nn', e, h2⟩, ⟨t', h1⟩, h3, h5⟩
    cases f with
    | ret v => exact h₃
    | brk => exact h₃
    | next => exact fin step h₃
    | cont => exact fin step h₃
end
end
/-! part S4 -/
section
theorem startB_cases {ks : List Int} {i : Int} {r : Value} {G : Prop} (o : r = .bool (startB ks i)) (h1 : IsStart ks i → r = .bool true → G) (h2 : ¬ IsStart ks i → r = .bool false → G) : G := by
  cases Classical.em (IsStart ks i) with
  | inl h => exact h1 h (o.trans (startB_true h).symm)
  | inr h => exact h2 h (o.trans (startB_false h).symm)
theorem pairOut_use {p : Int × Int} {h h' : Heap} {r : Value} {G : Prop} (o : PairOut p h h' r) (k : ∀ T t1 t2, r = .ref T → h.get? T = none → h'.get? T = some { cls := .type "tuple", data := .seq #[.int p.1 t1, .int p.2 t2] } → G) : G := by
  obtain ⟨T, t1, t2, a, b, c⟩ := o
  exact k T t1 t2 a b c
noncomputable def NoStart (ks : List Int) (lo hi : Int) : Prop := ∀ q, lo ≤ q → q < hi → ¬ IsStart ks q
noncomputable def NextSpec (ks : List Int) (i v : Int) : Prop := (v = (ks.length : Int) ∧ NoStart ks (i + 1) ks.length) ∨ (i + 1 ≤ v ∧ v < (ks.length : Int) ∧ IsStart ks v ∧ NoStart ks (i + 1) v)
noncomputable def PrevSpec (ks : List Int) (i v : Int) : Prop := (v = -1 ∧ NoStart ks 0 i) ∨ (0 ≤ v ∧ v < i ∧ IsStart ks v ∧ NoStart ks (v + 1) i)
theorem noStart_up {ks : List Int} {lo a : Int} (h : NoStart ks lo a) (n : ¬ IsStart ks a) : NoStart ks lo (a + 1) := by
  intro q c d
  by_cases e : q = a
  · rw [e]; exact n
  · exact h q c (by omega)
theorem noStart_down {ks : List Int} {a hi : Int} (h : NoStart ks (a + 1) hi) (n : ¬ IsStart ks a) : NoStart ks (a - 1 + 1) hi := by
  intro q c d
  by_cases e : q = a
  · rw [e]; exact n
  · exact h q (by omega) d
theorem next_index_pu (w : World) (b : Array UInt8) (tb ti : Tok) (i : Int) (ks : List Int) (hks : KBw.bInts b = ks) (hsz : ks.length ≤ 64) (h0 : -1 ≤ i) (h1 : i < 120) : Pu w 111 [.bytes b tb, .int i ti] 5 40 (fun _ => True) (fun _ _ r => ∃ v t, r = .int v t ∧ NextSpec ks i v) := by
  w_top off
  (
      unfold Pu
      k_fill
      intro mean mg mb dp un gd cn cs a ccd cl outer A₀ base h₀ L m s Q E B F X T hk hpre hd hu hret
      refine wpAny_call ?_
      k_dflt (refine' pu_enter B F X T ?kA ?kF ?kK ?k6 ?k7 ?k8 ?k9 ?kB ?_ ?c2 ?c3 ?c4 ?c5; (case kA => exact rfl); (case kF => exact rfl); (case kK => assumption); (case k6 => k_is); (case k7 => k_is); (case k8 => ktr_room); (case k9 => exact BindsTo.of_eq rfl); (case c5 => decide); (case kB => exact locs rfl); (case c2 => exact rfl); (case c3 => exact rfl); (case c4 => exact rfl); k_whole)
      clear B F X T
      intro L' h' F' N' B' X' T'
      (try dsimp only)
      (try k_fold))
  k_with_none
  k_with "exec Assign" => k_fold
  k_with "exec Expr" => k_fold
  k_with "exec If" => k_fold
  k_with "exec Return" => k_fold
  k_with "exec AugAssign" => k_fold
  k_with "eval Call" => k_fold
  k_with "eval Compare" => k_fold
  k_with "isTrue Compare" => k_fold
  k_with "eval BinOp" => k_fold
  k_with "eval Subscript" => k_fold
  k_with "eval Tuple" => k_fold
  k_with "eval List" => k_fold
  k_with "eval BoolOp" => k_fold
  k_with "isTrue BoolOp Or" => k_fold
  k_with "isTrue BoolOp" => k_fold
  k_with "eval ListComp" => k_fold
  k_with "execs cons" => k_fold
  k_with "call ref" => ((k_here; first
      | (refine' Pu.use (is_bad_pu _ _ _) ?k1 ?k2 ?k3 ?k4 ?k5 ?kK ?kp ?kd ?ku ?_; ((case k1 => k_asm); (case k2 => k_asm); (case k3 => k_asm); (case k4 => k_asm); (case k5 => k_asm); (case kK => first | exact rfl | assumption); (try (case kp => exact trivial)); (case kd => ktr_room); (case ku => ktr_units)); intro r9 h9 tk9 F9 N9 e9 o9; subst o9; (try dsimp only); (try k_fold))
      | (refine' Pu.use (is_following_pu _ _ _) ?k1 ?k2 ?k3 ?k4 ?k5 ?kK ?kp ?kd ?ku ?_; ((case k1 => k_asm); (case k2 => k_asm); (case k3 => k_asm); (case k4 => k_asm); (case k5 => k_asm); (case kK => first | exact rfl | assumption); (try (case kp => exact trivial)); (case kd => ktr_room); (case ku => ktr_units)); intro r9 h9 tk9 F9 N9 e9 o9; subst o9; (try dsimp only); (try k_fold))
      | (refine' Pu.use (size_of_code_pu _ _ _ ?hc) ?k1 ?k2 ?k3 ?k4 ?k5 ?kK ?kp ?kd ?ku ?_; (case hc => omega); ((case k1 => k_asm); (case k2 => k_asm); (case k3 => k_asm); (case k4 => k_asm); (case k5 => k_asm); (case kK => first | exact rfl | assumption); (try (case kp => exact trivial)); (case kd => ktr_room); (case ku => ktr_units)); intro r9 h9 tk9 F9 N9 e9 o9; (refine Exists.elim o9 ?_; clear o9; intro t9 o9; subst o9); (try dsimp only); (try k_fold))
      | (refine' Pu.use (whole_at_pu _ _ _ _ _ _ ?hks ?hsz ?h0 ?h1) ?k1 ?k2 ?k3 ?k4 ?k5 ?kK ?kp ?kd ?ku ?_; (case hks => kba_ints); (case hsz => omega); (case h0 => omega); (case h1 => omega); ((case k1 => k_asm); (case k2 => k_asm); (case k3 => k_asm); (case k4 => k_asm); (case k5 => k_asm); (case kK => first | exact rfl | assumption); (try (case kp => exact trivial)); (case kd => ktr_room); (case ku => ktr_units)); intro r9 h9 tk9 F9 N9 e9 o9; refine optInt_cases o9 (fun ew9 er9 => ?_) (fun c9 t9 ew9 er9 => ?_) <;> subst er9 <;> clear o9 <;> (try have hw9 := wholeAt_lt ew9) <;> (try dsimp only) <;> (try k_fold))
      | (refine' Pu.use (is_start_pu _ _ _ _ _ _ ?hks ?hsz ?h0 ?h1) ?k1 ?k2 ?k3 ?k4 ?k5 ?kK ?kp ?kd ?ku ?_; (case hks => kba_ints); (case hsz => omega); (case h0 => omega); (case h1 => omega); ((case k1 => k_asm); (case k2 => k_asm); (case k3 => k_asm); (case k4 => k_asm); (case k5 => k_asm); (case kK => first | exact rfl | assumption); (try (case kp => exact trivial)); (case kd => ktr_room); (case ku => ktr_units)); intro r9 h9 tk9 F9 N9 e9 o9; refine startB_cases o9 (fun es9 er9 => ?_) (fun es9 er9 => ?_) <;> subst er9 <;> clear o9 <;> (try dsimp only) <;> (try k_fold))
      | (refine' Pu.use (decoded_pu _ _ _ _ _ _ ?hks ?hsz ?h0 ?h1) ?k1 ?k2 ?k3 ?k4 ?k5 ?kK ?kp ?kd ?ku ?_; (case hks => kba_ints); (case hsz => omega); (case h0 => omega); (case h1 => omega); ((case k1 => k_asm); (case k2 => k_asm); (case k3 => k_asm); (case k4 => k_asm); (case k5 => k_asm); (case kK => first | exact rfl | assumption); (try (case kp => exact trivial)); (case kd => ktr_room); (case ku => ktr_units)); intro r9 h9 tk9 F9 N9 e9 o9; refine pairOut_use o9 (fun T9 t9 u9 er9 hn9 hT9 => ?_); subst er9; clear o9; have N9' := news_new (by assumption) (by assumption) e9 hn9 hT9; (try dsimp only); (try k_fold))))
  k_with "WPost" => ((dsimp only [WPost]))
  k_with "WEnd" => ((refine' WEnd.intro ?iF ?iN ?ia ⟨rfl, ⟨_, _, ?ie, ?_⟩, ?is⟩; (case iF => assumption); (case iN => assumption); (case ie => rfl); (case ia => (with_unfolding_all ((try simp only [List.nil_append, List.cons_append]); k_allIn))); (case is => first | (intro z h1; first | rfl | (simp [h1]; done) | (have h2 := h1; simp only [List.contains_cons, List.contains_nil, Bool.or_false, Bool.or_eq_false_iff, beq_eq_false_iff_ne, ne_eq] at h2; simp only [h1, h2, if_false, Bool.false_eq_true, not_false_eq_true]; done) | (have h2 := h1; simp at h2; simp [h1, h2]; done) | (simp_all; done)) | (intro z h1; (intro z h1; first | rfl | (simp [h1]; done) | (have h2 := h1; simp only [List.contains_cons, List.contains_nil, Bool.or_false, Bool.or_eq_false_iff, beq_eq_false_iff_ne, ne_eq] at h2; simp only [h1, h2, if_false, Bool.false_eq_true, not_false_eq_true]; done) | (have h2 := h1; simp at h2; simp [h1, h2]; done) | (simp_all; done))))))
  k_with "exec While BoolOp cons nil" => (
   k_here
   (rename Fr _ _ _ _ => lF'); (rename News _ _ _ _ => lN')
   (with_unfolding_all refine' while_inv1 (y := Str.ofString "place") (fun a => (i + 1 ≤ a ∧ (a ≤ (ks.length : Int) ∨ a = i + 1)) ∧ NoStart ks (i + 1) a) (fun a => ((ks.length : Int) + 1 - a).toNat) lF' lN' (by rfl) ?r0 ?hE (fun a9 ta9 h9 tk9 hR9 F' N' => ?_))
   (case r0 => exact ⟨by omega, fun q a b => by omega⟩)
   (case hE => first | passes_own | with_unfolding_all passes_own)
   (clear lF' lN')
   (have hRa := hR9.1); (have hRb := hR9.2); (clear hR9)
   (all_goals (try k_fold)))
  k_steps
  all_goals first
    | omega
    | exact noStart_up (by assumption) (by assumption)
    | ((refine' hret _ _ _ (Fr.keep ?kfr) ?_; (case kfr => k_asm)); refine ⟨_, _, rfl, ?_⟩; (split <;> first
      | exact .inl ⟨by omega, fun q a b => hRb q a (by omega)⟩
      | exact .inr ⟨by omega, by omega, by assumption, hRb⟩
      | (exfalso; omega)))
theorem prev_index_pu (w : World) (b : Array UInt8) (tb ti : Tok) (i : Int) (ks : List Int) (hks : KBw.bInts b = ks) (hsz : ks.length ≤ 64) (h0 : -1 ≤ i) (h1 : i < 120) : Pu w 118 [.bytes b tb, .int i ti] 5 40 (fun _ => True) (fun _ _ r => ∃ v t, r = .int v t ∧ PrevSpec ks i v) := by
  w_top off
  (
      unfold Pu
      k_fill
      intro mean mg mb dp un gd cn cs a ccd cl outer A₀ base h₀ L m s Q E B F X T hk hpre hd hu hret
      refine wpAny_call ?_
      k_dflt (refine' pu_enter B F X T ?kA ?kF ?kK ?k6 ?k7 ?k8 ?k9 ?kB ?_ ?c2 ?c3 ?c4 ?c5; (case kA => exact rfl); (case kF => exact rfl); (case kK => assumption); (case k6 => k_is); (case k7 => k_is); (case k8 => ktr_room); (case k9 => exact BindsTo.of_eq rfl); (case c5 => decide); (case kB => exact locs rfl); (case c2 => exact rfl); (case c3 => exact rfl); (case c4 => exact rfl); k_whole)
      clear B F X T
      intro L' h' F' N' B' X' T'
      (try dsimp only)
      (try k_fold))
  k_with_none
  k_with "exec Assign" => k_fold
  k_with "exec Expr" => k_fold
  k_with "exec If" => k_fold
  k_with "exec Return" => k_fold
  k_with "exec AugAssign" => k_fold
  k_with "eval Call" => k_fold
  k_with "eval Compare" => k_fold
  k_with "isTrue Compare" => k_fold
  k_with "eval BinOp" => k_fold
  k_with "eval Subscript" => k_fold
  k_with "eval Tuple" => k_fold
  k_with "eval List" => k_fold
  k_with "eval BoolOp" => k_fold
  k_with "isTrue BoolOp Or" => k_fold
  k_with "isTrue BoolOp" => k_fold
  k_with "eval ListComp" => k_fold
  k_with "execs cons" => k_fold
  k_with "call ref" => ((k_here; first
      | (refine' Pu.use (is_bad_pu _ _ _) ?k1 ?k2 ?k3 ?k4 ?k5 ?kK ?kp ?kd ?ku ?_; ((case k1 => k_asm); (case k2 => k_asm); (case k3 => k_asm); (case k4 => k_asm); (case k5 => k_asm); (case kK => first | exact rfl | assumption); (try (case kp => exact trivial)); (case kd => ktr_room); (case ku => ktr_units)); intro r9 h9 tk9 F9 N9 e9 o9; subst o9; (try dsimp only); (try k_fold))
      | (refine' Pu.use (is_following_pu _ _ _) ?k1 ?k2 ?k3 ?k4 ?k5 ?kK ?kp ?kd ?ku ?_; ((case k1 => k_asm); (case k2 => k_asm); (case k3 => k_asm); (case k4 => k_asm); (case k5 => k_asm); (case kK => first | exact rfl | assumption); (try (case kp => exact trivial)); (case kd => ktr_room); (case ku => ktr_units)); intro r9 h9 tk9 F9 N9 e9 o9; subst o9; (try dsimp only); (try k_fold))
      | (refine' Pu.use (size_of_code_pu _ _ _ ?hc) ?k1 ?k2 ?k3 ?k4 ?k5 ?kK ?kp ?kd ?ku ?_; (case hc => omega); ((case k1 => k_asm); (case k2 => k_asm); (case k3 => k_asm); (case k4 => k_asm); (case k5 => k_asm); (case kK => first | exact rfl | assumption); (try (case kp => exact trivial)); (case kd => ktr_room); (case ku => ktr_units)); intro r9 h9 tk9 F9 N9 e9 o9; (refine Exists.elim o9 ?_; clear o9; intro t9 o9; subst o9); (try dsimp only); (try k_fold))
      | (refine' Pu.use (whole_at_pu _ _ _ _ _ _ ?hks ?hsz ?h0 ?h1) ?k1 ?k2 ?k3 ?k4 ?k5 ?kK ?kp ?kd ?ku ?_; (case hks => kba_ints); (case hsz => omega); (case h0 => omega); (case h1 => omega); ((case k1 => k_asm); (case k2 => k_asm); (case k3 => k_asm); (case k4 => k_asm); (case k5 => k_asm); (case kK => first | exact rfl | assumption); (try (case kp => exact trivial)); (case kd => ktr_room); (case ku => ktr_units)); intro r9 h9 tk9 F9 N9 e9 o9; refine optInt_cases o9 (fun ew9 er9 => ?_) (fun c9 t9 ew9 er9 => ?_) <;> subst er9 <;> clear o9 <;> (try have hw9 := wholeAt_lt ew9) <;> (try dsimp only) <;> (try k_fold))
      | (refine' Pu.use (is_start_pu _ _ _ _ _ _ ?hks ?hsz ?h0 ?h1) ?k1 ?k2 ?k3 ?k4 ?k5 ?kK ?kp ?kd ?ku ?_; (case hks => kba_ints); (case hsz => omega); (case h0 => omega); (case h1 => omega); ((case k1 => k_asm); (case k2 => k_asm); (case k3 => k_asm); (case k4 => k_asm); (case k5 => k_asm); (case kK => first | exact rfl | assumption); (try (case kp => exact trivial)); (case kd => ktr_room); (case ku => ktr_units)); intro r9 h9 tk9 F9 N9 e9 o9; refine startB_cases o9 (fun es9 er9 => ?_) (fun es9 er9 => ?_) <;> subst er9 <;> clear o9 <;> (try dsimp only) <;> (try k_fold))
      | (refine' Pu.use (decoded_pu _ _ _ _ _ _ ?hks ?hsz ?h0 ?h1) ?k1 ?k2 ?k3 ?k4 ?k5 ?kK ?kp ?kd ?ku ?_; (case hks => kba_ints); (case hsz => omega); (case h0 => omega); (case h1 => omega); ((case k1 => k_asm); (case k2 => k_asm); (case k3 => k_asm); (case k4 => k_asm); (case k5 => k_asm); (case kK => first | exact rfl | assumption); (try (case kp => exact trivial)); (case kd => ktr_room); (case ku => ktr_units)); intro r9 h9 tk9 F9 N9 e9 o9; refine pairOut_use o9 (fun T9 t9 u9 er9 hn9 hT9 => ?_); subst er9; clear o9; have N9' := news_new (by assumption) (by assumption) e9 hn9 hT9; (try dsimp only); (try k_fold))))
  k_with "WPost" => ((dsimp only [WPost]))
  k_with "WEnd" => ((refine' WEnd.intro ?iF ?iN ?ia ⟨rfl, ⟨_, _, ?ie, ?_⟩, ?is⟩; (case iF => assumption); (case iN => assumption); (case ie => rfl); (case ia => (with_unfolding_all ((try simp only [List.nil_append, List.cons_append]); k_allIn))); (case is => first | (intro z h1; first | rfl | (simp [h1]; done) | (have h2 := h1; simp only [List.contains_cons, List.contains_nil, Bool.or_false, Bool.or_eq_false_iff, beq_eq_false_iff_ne, ne_eq] at h2; simp only [h1, h2, if_false, Bool.false_eq_true, not_false_eq_true]; done) | (have h2 := h1; simp at h2; simp [h1, h2]; done) | (simp_all; done)) | (intro z h1; (intro z h1; first | rfl | (simp [h1]; done) | (have h2 := h1; simp only [List.contains_cons, List.contains_nil, Bool.or_false, Bool.or_eq_false_iff, beq_eq_false_iff_ne, ne_eq] at h2; simp only [h1, h2, if_false, Bool.false_eq_true, not_false_eq_true]; done) | (have h2 := h1; simp at h2; simp [h1, h2]; done) | (simp_all; done))))))
  k_with "exec While BoolOp cons nil" => (
   k_here
   (rename Fr _ _ _ _ => lF'); (rename News _ _ _ _ => lN')
   (have hmn : (if (ks.length : Int) < i then (ks.length : Int) else i) ≤ i ∧ (if (ks.length : Int) < i then (ks.length : Int) else i) ≤ (ks.length : Int) ∧ ((if (ks.length : Int) < i then (ks.length : Int) else i) = i ∨ (if (ks.length : Int) < i then (ks.length : Int) else i) = (ks.length : Int)) := by (split <;> omega))
   (with_unfolding_all refine' while_inv1 (y := Str.ofString "place") (fun a => (-2 ≤ a ∧ a < i ∧ a < (ks.length : Int)) ∧ NoStart ks (a + 1) i) (fun a => (a + 2).toNat) lF' lN' (by rfl) ?r0 ?hE (fun a9 ta9 h9 tk9 hR9 F' N' => ?_))
   (case r0 => exact ⟨by omega, fun q a b h => by have := h.2.1; omega⟩)
   (case hE => first | passes_own | with_unfolding_all passes_own)
   (clear lF' lN')
   (have hRa := hR9.1); (have hRb := hR9.2); (clear hR9)
   (all_goals (try k_fold)))
  k_steps
  all_goals first
    | exact noStart_down (by assumption) (by assumption)
    | ((refine' hret _ _ _ (Fr.keep ?kfr) ?_; (case kfr => k_asm)); refine ⟨_, _, rfl, ?_⟩; (split <;> first
      | exact .inl ⟨by omega, fun q a b => hRb q (by omega) b⟩
      | exact .inr ⟨by omega, by omega, by assumption, hRb⟩
      | (exfalso; omega)))
end
/-! part S5 -/
section
noncomputable def nextN (ks : List Int) (p : Nat) : Nat := (decOf ks p).2.toNat
noncomputable def startsF (ks : List Int) : Nat → Nat → List Int
  | 0, _ => []
  | n + 1, p => if p < ks.length then (p : Int) :: startsF ks n (nextN ks p) else []
noncomputable def startsL (ks : List Int) : List Int := startsF ks ks.length 0
noncomputable def IntsOut (l : List Int) (h h' : Heap) (r : Value) : Prop := ∃ D vs n, r = .ref D ∧ h.get? D = none ∧ h'.get? D = some (listOf vs.toArray n) ∧ IntsAre vs l
noncomputable def StartsR (ks : List Int) (p : Int) (l : List Int) : Prop := (0 ≤ p ∧ (l.length : Int) ≤ p) ∧ l ++ startsF ks (ks.length - p.toNat) p.toNat = startsL ks
theorem whlIf_dec {P : Prop} [Decidable P] {T F : Prop} (h1 : P → T) (h2 : ¬ P → F) : WhlIf (decide P) T F := by
  by_cases h : P
  · exact WhlIf.yes (decide_eq_true h) (h1 h)
  · exact WhlIf.no (decide_eq_false h) (h2 h)
theorem sizeOf_pos (c : Int) : 1 ≤ sizeOf' c ∧ sizeOf' c ≤ 4 := by
  unfold sizeOf'
  (repeat' split) <;> omega
theorem decOf_step (ks : List Int) (i : Nat) : (i : Int) < (decOf ks i).2 ∧ (decOf ks i).2 ≤ i + 4 := by
  unfold decOf
  split
  · dsimp only; omega
  · rename_i c _
    have := sizeOf_pos c
    dsimp only; omega
theorem nextN_more {ks : List Int} {p n : Nat} (h : ks.length ≤ p + (n + 1)) : ks.length ≤ nextN ks p + n := by
  have hs := (decOf_step ks p).1
  unfold nextN
  omega
theorem startsF_more (ks : List Int) : ∀ n m p, ks.length ≤ p + n → ks.length ≤ p + m → startsF ks n p = startsF ks m p
  | 0, 0, _, _, _ => rfl
  | 0, _ + 1, _, h, _ => (if_neg (Nat.not_lt.mpr h)).symm
  | _ + 1, 0, _, _, h => if_neg (Nat.not_lt.mpr h)
  | n + 1, m + 1, p, h, h' => by
    show (if p < ks.length then _ else _) = (if p < ks.length then _ else _)
    rw [startsF_more ks n m (nextN ks p) (nextN_more h) (nextN_more h')]
theorem startsF_step {ks : List Int} {p : Nat} (h : p < ks.length) : startsF ks (ks.length - p) p = (p : Int) :: startsF ks (ks.length - nextN ks p) (nextN ks p) := by
  obtain ⟨k, hk⟩ := Nat.exists_eq_add_of_lt h
  rw [startsF_more ks (ks.length - p) (k + 1) p (Nat.le_of_eq (Nat.add_sub_of_le (Nat.le_of_lt h)).symm) (Nat.le_of_eq hk)]
  show (if p < ks.length then _ else _) = _
  rw [if_pos h, startsF_more ks k _ _ (nextN_more (Nat.le_of_eq hk)) (Nat.sub_le_iff_le_add'.mp (Nat.le_refl _))]
theorem startsF_end {ks : List Int} {p : Nat} (h : ¬ p < ks.length) : startsF ks (ks.length - p) p = [] := by
  have : ks.length - p = 0 := by omega
  rw [this]; rfl
theorem startsR_lt {n p d : Int} (h : p < n) (h0 : 0 ≤ p) (hd : p < d) : (n - d).toNat < (n - p).toNat := by omega
theorem startsR_step {ks : List Int} {p : Int} {l : List Int} (h0 : 0 ≤ p ∧ (l.length : Int) ≤ p) (h : l ++ startsF ks (ks.length - p.toNat) p.toNat = startsL ks) (hp : p < (ks.length : Int)) :
    StartsR ks (decOf ks p.toNat).2 (l ++ [p]) ∧ ((ks.length : Int) - (decOf ks p.toNat).2).toNat < ((ks.length : Int) - p).toNat := by
  have hs := (decOf_step ks p.toNat).1
  rw [Int.toNat_of_nonneg h0.1] at hs
  refine ⟨⟨⟨Int.le_trans h0.1 (Int.le_of_lt hs), ?_⟩, ?_⟩, startsR_lt hp h0.1 hs⟩
  · rw [List.length_append]; exact Int.le_trans (Int.add_le_add_right h0.2 1) hs
  · rw [startsF_step ((Int.toNat_lt h0.1).mpr hp), Int.toNat_of_nonneg h0.1] at h
    rw [List.append_assoc]
    exact h
theorem startsR_end {ks : List Int} {p : Int} {l : List Int} (h : l ++ startsF ks (ks.length - p.toNat) p.toNat = startsL ks) (h0 : 0 ≤ p ∧ (l.length : Int) ≤ p) (hp : ¬ p < (ks.length : Int)) : l = startsL ks := by
  rw [startsF_end (by omega), List.append_nil] at h
  exact h
theorem intsOut_mk {l l' : List Int} {vs : List Value} {n : Nat} {h h' : Heap} {D : Addr} {L : Addr} {news : List (Addr × Obj)} (N : News h L h' news) (hm : (D, listOf vs.toArray n) ∈ news) (hi : IntsAre vs l) (e : l = l') : IntsOut l' h h' (.ref D) := by
  subst e
  exact ⟨D, vs, n, rfl, (N _ hm).2.2, (N _ hm).1, hi⟩
theorem starts_of_pu (w : World) (b : Array UInt8) (tb : Tok) (ks : List Int) (hks : KBw.bInts b = ks) (hsz : ks.length ≤ 64) : Pu w 125 [.bytes b tb] 5 40 (fun _ => True) (IntsOut (startsL ks)) := by
  w_top off
  (
      unfold Pu
      k_fill
      intro mean mg mb dp un gd cn cs a ccd cl outer A₀ base h₀ L m s Q E B F X T hk hpre hd hu hret
      refine wpAny_call ?_
      k_dflt (refine' pu_enter B F X T ?kA ?kF ?kK ?k6 ?k7 ?k8 ?k9 ?kB ?_ ?c2 ?c3 ?c4 ?c5; (case kA => exact rfl); (case kF => exact rfl); (case kK => assumption); (case k6 => k_is); (case k7 => k_is); (case k8 => ktr_room); (case k9 => exact BindsTo.of_eq rfl); (case c5 => decide); (case kB => exact locs rfl); (case c2 => exact rfl); (case c3 => exact rfl); (case c4 => exact rfl); k_whole)
      clear B F X T
      intro L' h' F' N' B' X' T'
      (try dsimp only)
      (try k_fold))
  k_with_none
  k_with "exec Assign" => k_fold
  k_with "exec Expr" => k_fold
  k_with "exec If" => k_fold
  k_with "exec Return" => k_fold
  k_with "exec AugAssign" => k_fold
  k_with "eval Call" => k_fold
  k_with "eval Compare" => k_fold
  k_with "isTrue Compare" => k_fold
  k_with "eval BinOp" => k_fold
  k_with "eval Subscript" => k_fold
  k_with "eval Tuple" => k_fold
  k_with "eval List" => k_fold
  k_with "eval BoolOp" => k_fold
  k_with "isTrue BoolOp Or" => k_fold
  k_with "isTrue BoolOp" => k_fold
  k_with "eval ListComp" => k_fold
  k_with "execs cons" => k_fold
  k_with "call ref" => ((k_here; first
      | (refine' Pu.use (is_bad_pu _ _ _) ?k1 ?k2 ?k3 ?k4 ?k5 ?kK ?kp ?kd ?ku ?_; ((case k1 => k_asm); (case k2 => k_asm); (case k3 => k_asm); (case k4 => k_asm); (case k5 => k_asm); (case kK => first | exact rfl | assumption); (try (case kp => exact trivial)); (case kd => ktr_room); (case ku => ktr_units)); intro r9 h9 tk9 F9 N9 e9 o9; subst o9; (try dsimp only); (try k_fold))
      | (refine' Pu.use (is_following_pu _ _ _) ?k1 ?k2 ?k3 ?k4 ?k5 ?kK ?kp ?kd ?ku ?_; ((case k1 => k_asm); (case k2 => k_asm); (case k3 => k_asm); (case k4 => k_asm); (case k5 => k_asm); (case kK => first | exact rfl | assumption); (try (case kp => exact trivial)); (case kd => ktr_room); (case ku => ktr_units)); intro r9 h9 tk9 F9 N9 e9 o9; subst o9; (try dsimp only); (try k_fold))
      | (refine' Pu.use (size_of_code_pu _ _ _ ?hc) ?k1 ?k2 ?k3 ?k4 ?k5 ?kK ?kp ?kd ?ku ?_; (case hc => omega); ((case k1 => k_asm); (case k2 => k_asm); (case k3 => k_asm); (case k4 => k_asm); (case k5 => k_asm); (case kK => first | exact rfl | assumption); (try (case kp => exact trivial)); (case kd => ktr_room); (case ku => ktr_units)); intro r9 h9 tk9 F9 N9 e9 o9; (refine Exists.elim o9 ?_; clear o9; intro t9 o9; subst o9); (try dsimp only); (try k_fold))
      | (refine' Pu.use (whole_at_pu _ _ _ _ _ _ ?hks ?hsz ?h0 ?h1) ?k1 ?k2 ?k3 ?k4 ?k5 ?kK ?kp ?kd ?ku ?_; (case hks => kba_ints); (case hsz => omega); (case h0 => omega); (case h1 => omega); ((case k1 => k_asm); (case k2 => k_asm); (case k3 => k_asm); (case k4 => k_asm); (case k5 => k_asm); (case kK => first | exact rfl | assumption); (try (case kp => exact trivial)); (case kd => ktr_room); (case ku => ktr_units)); intro r9 h9 tk9 F9 N9 e9 o9; refine optInt_cases o9 (fun ew9 er9 => ?_) (fun c9 t9 ew9 er9 => ?_) <;> subst er9 <;> clear o9 <;> (try have hw9 := wholeAt_lt ew9) <;> (try dsimp only) <;> (try k_fold))
      | (refine' Pu.use (is_start_pu _ _ _ _ _ _ ?hks ?hsz ?h0 ?h1) ?k1 ?k2 ?k3 ?k4 ?k5 ?kK ?kp ?kd ?ku ?_; (case hks => kba_ints); (case hsz => omega); (case h0 => omega); (case h1 => omega); ((case k1 => k_asm); (case k2 => k_asm); (case k3 => k_asm); (case k4 => k_asm); (case k5 => k_asm); (case kK => first | exact rfl | assumption); (try (case kp => exact trivial)); (case kd => ktr_room); (case ku => ktr_units)); intro r9 h9 tk9 F9 N9 e9 o9; refine startB_cases o9 (fun es9 er9 => ?_) (fun es9 er9 => ?_) <;> subst er9 <;> clear o9 <;> (try dsimp only) <;> (try k_fold))
      | (refine' Pu.use (decoded_pu _ _ _ _ _ _ ?hks ?hsz ?h0 ?h1) ?k1 ?k2 ?k3 ?k4 ?k5 ?kK ?kp ?kd ?ku ?_; (case hks => kba_ints); (case hsz => omega); (case h0 => omega); (case h1 => omega); ((case k1 => k_asm); (case k2 => k_asm); (case k3 => k_asm); (case k4 => k_asm); (case k5 => k_asm); (case kK => first | exact rfl | assumption); (try (case kp => exact trivial)); (case kd => ktr_room); (case ku => ktr_units)); intro r9 h9 tk9 F9 N9 e9 o9; refine pairOut_use o9 (fun T9 t9 u9 er9 hn9 hT9 => ?_); subst er9; clear o9; have N9' := news_new (by assumption) (by assumption) e9 hn9 hT9; (try dsimp only); (try k_fold))))
  k_with "WhlIf" => ((refine' whlIf_dec (fun hw8 => ?_) (fun hw8 => ?_)))
  k_with "WPost" => ((dsimp only [WPost]))
  k_with "WEnd" => ((refine' WEnd.intro ?iF ?iN ?ia ⟨⟨_, _, rfl, ⟨_, _, _, ?ie, ?ii, ?_⟩⟩, ?is⟩; (case iF => assumption); (case iN => assumption); (case ie => rfl); (case ia => (with_unfolding_all ((try simp only [List.nil_append, List.cons_append]); k_allIn))); (case is => first | (intro z h1; first | rfl | (simp [h1]; done) | (have h2 := h1; simp only [List.contains_cons, List.contains_nil, Bool.or_false, Bool.or_eq_false_iff, beq_eq_false_iff_ne, ne_eq] at h2; simp only [h1, h2, if_false, Bool.false_eq_true, not_false_eq_true]; done) | (have h2 := h1; simp at h2; simp [h1, h2]; done) | (simp_all; done)) | (intro z h1; (intro z h1; first | rfl | (simp [h1]; done) | (have h2 := h1; simp only [List.contains_cons, List.contains_nil, Bool.or_false, Bool.or_eq_false_iff, beq_eq_false_iff_ne, ne_eq] at h2; simp only [h1, h2, if_false, Bool.false_eq_true, not_false_eq_true]; done) | (have h2 := h1; simp at h2; simp [h1, h2]; done) | (simp_all; done)))); (case ii => first | (simp only [List.concat_eq_append]; exact IntsAre.append (by assumption) (.cons _ _ .nil)) | l_ints)))
  k_with "exec While Compare cons nil" => (
   k_here
   (rename Fr _ _ _ _ => lF'); (rename News _ _ _ _ => lN')
   (with_unfolding_all refine' while_invL (y := Str.ofString "at") (vs₀ := []) (l₀ := []) (StartsR ks) (fun a => ((ks.length : Int) - a).toNat) lF' lN' (by k_mem) (by rfl) (by constructor) ?r0 ?hE (fun a9 ta9 l9 vs9 nn9 h9 tk9 hR9 hI9 F' N' => ?_))
   (case r0 => exact ⟨by simp, rfl⟩)
   (case hE => first | passes_own | with_unfolding_all passes_own)
   (clear lF' lN')
   (have hRa := hR9.1); (have hRb := hR9.2); (clear hR9); (have hI8 := hI9.length)
   (all_goals (try k_fold)))
  k_steps
  all_goals first
    | exact (startsR_step (by assumption) (by assumption) (by assumption)).1
    | exact (startsR_step hRa hRb hw8).2
    | ((refine' hret _ _ _ (Fr.keep ?kfr) ?_; (case kfr => k_asm)); exact intsOut_mk (by assumption) (.head _) (by assumption) (startsR_end (by assumption) (by assumption) (by assumption)))
end
/-! part S6 -/
section
theorem startsF_len (ks : List Int) : ∀ n p, (startsF ks n p).length ≤ n := by
  intro n
  induction n with
  | zero => intro p; exact Nat.le_refl _
  | succ n ih =>
    intro p
    show (if p < ks.length then _ else _ : List Int).length ≤ n + 1
    split
    · rw [List.length_cons]; have := ih (nextN ks p); omega
    · simp
theorem startsF_mem (ks : List Int) : ∀ n p k, k ∈ startsF ks n p → (p : Int) ≤ k ∧ k < (ks.length : Int) := by
  intro n
  induction n with
  | zero => intro p k h; exact absurd h (by simp [startsF])
  | succ n ih =>
    intro p k h
    have h' : k ∈ (if p < ks.length then (p : Int) :: startsF ks n (nextN ks p) else []) := h
    split at h'
    · rcases List.mem_cons.mp h' with e | h'
      · omega
      · have := ih _ _ h'
        have hs := decOf_step ks p
        have hq : p < nextN ks p := by unfold nextN; omega
        omega
    · exact absurd h' (by simp)
theorem startsL_mem {ks : List Int} {k : Int} (h : k ∈ startsL ks) : 0 ≤ k ∧ k < (ks.length : Int) := by
  have := startsF_mem ks _ _ _ h
  exact ⟨by omega, this.2⟩
theorem startsL_len (ks : List Int) : (startsL ks).length ≤ ks.length := startsF_len ks _ _
theorem intsOut_use {l : List Int} {h h' : Heap} {r : Value} {G : Prop} (o : IntsOut l h h' r) (k : ∀ D vs n, r = .ref D → h.get? D = none → h'.get? D = some (listOf vs.toArray n) → IntsAre vs l → G) : G := by
  obtain ⟨D, vs, n, a, b, c, d⟩ := o
  exact k D vs n a b c d
theorem length_pu (w : World) (b : Array UInt8) (tb : Tok) (ks : List Int) (hks : KBw.bInts b = ks) (hsz : ks.length ≤ 64) : Pu w 137 [.bytes b tb] 6 48 (fun _ => True) (fun _ _ r => ∃ t, r = .int ((startsL ks).length : Int) t) := by
  w_top off
  (
      unfold Pu
      k_fill
      intro mean mg mb dp un gd cn cs a ccd cl outer A₀ base h₀ L m s Q E B F X T hk hpre hd hu hret
      refine wpAny_call ?_
      k_dflt (refine' pu_enter B F X T ?kA ?kF ?kK ?k6 ?k7 ?k8 ?k9 ?kB ?_ ?c2 ?c3 ?c4 ?c5; (case kA => exact rfl); (case kF => exact rfl); (case kK => assumption); (case k6 => k_is); (case k7 => k_is); (case k8 => ktr_room); (case k9 => exact BindsTo.of_eq rfl); (case c5 => decide); (case kB => exact locs rfl); (case c2 => exact rfl); (case c3 => exact rfl); (case c4 => exact rfl); k_whole)
      clear B F X T
      intro L' h' F' N' B' X' T'
      (try dsimp only)
      (try k_fold))
  k_with_none
  k_with "exec Assign" => k_fold
  k_with "exec Expr" => k_fold
  k_with "exec If" => k_fold
  k_with "exec Return" => k_fold
  k_with "exec AugAssign" => k_fold
  k_with "eval Call" => k_fold
  k_with "eval Compare" => k_fold
  k_with "isTrue Compare" => k_fold
  k_with "eval BinOp" => k_fold
  k_with "eval Subscript" => k_fold
  k_with "eval Tuple" => k_fold
  k_with "eval List" => k_fold
  k_with "eval BoolOp" => k_fold
  k_with "isTrue BoolOp Or" => k_fold
  k_with "isTrue BoolOp" => k_fold
  k_with "eval ListComp" => k_fold
  k_with "execs cons" => k_fold
  k_with "call ref" => ((k_here; first
      | (refine' Pu.use (is_bad_pu _ _ _) ?k1 ?k2 ?k3 ?k4 ?k5 ?kK ?kp ?kd ?ku ?_;  ((case k1 => k_asm); (case k2 => k_asm); (case k3 => k_asm); (case k4 => k_asm); (case k5 => k_asm); (case kK => first | exact rfl | assumption); (try (case kp => exact trivial)); (case kd => ktr_room); (case ku => ktr_units)); intro r9 h9 tk9 F9 N9 e9 o9; subst o9; (try dsimp only); (try k_fold))
      | (refine' Pu.use (is_following_pu _ _ _) ?k1 ?k2 ?k3 ?k4 ?k5 ?kK ?kp ?kd ?ku ?_;  ((case k1 => k_asm); (case k2 => k_asm); (case k3 => k_asm); (case k4 => k_asm); (case k5 => k_asm); (case kK => first | exact rfl | assumption); (try (case kp => exact trivial)); (case kd => ktr_room); (case ku => ktr_units)); intro r9 h9 tk9 F9 N9 e9 o9; subst o9; (try dsimp only); (try k_fold))
      | (refine' Pu.use (size_of_code_pu _ _ _ ?hc) ?k1 ?k2 ?k3 ?k4 ?k5 ?kK ?kp ?kd ?ku ?_; (case hc => omega); ((case k1 => k_asm); (case k2 => k_asm); (case k3 => k_asm); (case k4 => k_asm); (case k5 => k_asm); (case kK => first | exact rfl | assumption); (try (case kp => exact trivial)); (case kd => ktr_room); (case ku => ktr_units)); intro r9 h9 tk9 F9 N9 e9 o9; (refine Exists.elim o9 ?_; clear o9; intro t9 o9; subst o9); (try dsimp only); (try k_fold))
      | (refine' Pu.use (whole_at_pu _ _ _ _ _ _ ?hks ?hsz ?h0 ?h1) ?k1 ?k2 ?k3 ?k4 ?k5 ?kK ?kp ?kd ?ku ?_; (case hks => kba_ints); (case hsz => (first | assumption | omega)); (case h0 => omega); (case h1 => omega); ((case k1 => k_asm); (case k2 => k_asm); (case k3 => k_asm); (case k4 => k_asm); (case k5 => k_asm); (case kK => first | exact rfl | assumption); (try (case kp => exact trivial)); (case kd => ktr_room); (case ku => ktr_units)); intro r9 h9 tk9 F9 N9 e9 o9; refine optInt_cases o9 (fun ew9 er9 => ?_) (fun c9 t9 ew9 er9 => ?_) <;> subst er9 <;> clear o9 <;> (try have hw9 := wholeAt_lt ew9) <;> (try dsimp only) <;> (try k_fold))
      | (refine' Pu.use (is_start_pu _ _ _ _ _ _ ?hks ?hsz ?h0 ?h1) ?k1 ?k2 ?k3 ?k4 ?k5 ?kK ?kp ?kd ?ku ?_; (case hks => kba_ints); (case hsz => (first | assumption | omega)); (case h0 => omega); (case h1 => omega); ((case k1 => k_asm); (case k2 => k_asm); (case k3 => k_asm); (case k4 => k_asm); (case k5 => k_asm); (case kK => first | exact rfl | assumption); (try (case kp => exact trivial)); (case kd => ktr_room); (case ku => ktr_units)); intro r9 h9 tk9 F9 N9 e9 o9; refine startB_cases o9 (fun es9 er9 => ?_) (fun es9 er9 => ?_) <;> subst er9 <;> clear o9 <;> (try dsimp only) <;> (try k_fold))
      | (refine' Pu.use (decoded_pu _ _ _ _ _ _ ?hks ?hsz ?h0 ?h1) ?k1 ?k2 ?k3 ?k4 ?k5 ?kK ?kp ?kd ?ku ?_; (case hks => kba_ints); (case hsz => (first | assumption | omega)); (case h0 => first | omega | exact (startsL_mem (by assumption)).1); (case h1 => first | omega | exact (startsL_mem (by assumption)).2); ((case k1 => k_asm); (case k2 => k_asm); (case k3 => k_asm); (case k4 => k_asm); (case k5 => k_asm); (case kK => first | exact rfl | assumption); (try (case kp => exact trivial)); (case kd => ktr_room); (case ku => ktr_units)); intro r9 h9 tk9 F9 N9 e9 o9; refine pairOut_use o9 (fun T9 t9 u9 er9 hn9 hT9 => ?_); subst er9; clear o9; have N9' := news_new (by assumption) (by assumption) e9 hn9 hT9; (try dsimp only); (try k_fold))
      | (refine' Pu.use (starts_of_pu _ _ _ _ ?hks ?hsz) ?k1 ?k2 ?k3 ?k4 ?k5 ?kK ?kp ?kd ?ku ?_; (case hks => kba_ints); (case hsz => (first | assumption | omega)); ((case k1 => k_asm); (case k2 => k_asm); (case k3 => k_asm); (case k4 => k_asm); (case k5 => k_asm); (case kK => first | exact rfl | assumption); (try (case kp => exact trivial)); (case kd => ktr_room); (case ku => ktr_units)); intro r9 h9 tk9 F9 N9 e9 o9; refine intsOut_use o9 (fun D9 vs9 n9 er9 hn9 hT9 hI9 => ?_); subst er9; clear o9; have N9' := news_new (by assumption) (by assumption) e9 hn9 hT9; (have hI8 := hI9.length); (try dsimp only); (try k_fold))))
  have hsl := startsL_len ks
  k_steps
  all_goals ((refine' hret _ _ _ (Fr.keep ?kfr) ?_; (case kfr => k_asm)); exact ⟨_, rfl⟩)
noncomputable def codesL (ks : List Int) : List Int := (startsL ks).map fun k => (decOf ks k.toNat).1
theorem codes_of_pu (w : World) (b : Array UInt8) (tb : Tok) (ks : List Int) (hks : KBw.bInts b = ks) (hsz : ks.length ≤ 64) : Pu w 130 [.bytes b tb] 6 48 (fun _ => True) (IntsOut (codesL ks)) := by
  w_top off
  (
      unfold Pu
      k_fill
      intro mean mg mb dp un gd cn cs a ccd cl outer A₀ base h₀ L m s Q E B F X T hk hpre hd hu hret
      refine wpAny_call ?_
      k_dflt (refine' pu_enterC B F X T ?kA ?kF ?kK ?k6 ?k7 ?k8 ?k9 ?kB ?kD ?_ ?c2 ?c3 ?c4; (case kA => exact rfl); (case kF => exact rfl); (case kK => assumption); (case k6 => k_is); (case k7 => k_is); (case k8 => ktr_room); (case k9 => exact BindsTo.of_eq rfl); (case kB => exact rfl); (case kD => decide +kernel); (case c2 => exact rfl); (case c3 => exact rfl); (case c4 => exact rfl); k_whole)
      clear B F X T
      intro L' h' tk' cells' F' N' Y' B' X' T' l1
      clear l1
      k_cells Y'
      (try simp only [List.cons_append, List.nil_append, List.append_nil] at N')
      (try dsimp only)
      (try k_fold))
  k_with_none
  k_with "exec Assign" => k_fold
  k_with "exec Expr" => k_fold
  k_with "exec If" => k_fold
  k_with "exec Return" => k_fold
  k_with "exec AugAssign" => k_fold
  k_with "eval Call" => k_fold
  k_with "eval Compare" => k_fold
  k_with "isTrue Compare" => k_fold
  k_with "eval BinOp" => k_fold
  k_with "eval Subscript" => k_fold
  k_with "eval Tuple" => k_fold
  k_with "eval List" => k_fold
  k_with "eval BoolOp" => k_fold
  k_with "isTrue BoolOp Or" => k_fold
  k_with "isTrue BoolOp" => k_fold
  k_with "eval ListComp" => k_fold
  k_with "execs cons" => k_fold
  k_with "call ref" => ((k_here; first
      | (refine' Pu.use (is_bad_pu _ _ _) ?k1 ?k2 ?k3 ?k4 ?k5 ?kK ?kp ?kd ?ku ?_;  ((case k1 => k_asm); (case k2 => k_asm); (case k3 => k_asm); (case k4 => k_asm); (case k5 => k_asm); (case kK => first | exact rfl | assumption); (try (case kp => exact trivial)); (case kd => ktr_room); (case ku => ktr_units)); intro r9 h9 tk9 F9 N9 e9 o9; subst o9; (try dsimp only); (try k_fold))
      | (refine' Pu.use (is_following_pu _ _ _) ?k1 ?k2 ?k3 ?k4 ?k5 ?kK ?kp ?kd ?ku ?_;  ((case k1 => k_asm); (case k2 => k_asm); (case k3 => k_asm); (case k4 => k_asm); (case k5 => k_asm); (case kK => first | exact rfl | assumption); (try (case kp => exact trivial)); (case kd => ktr_room); (case ku => ktr_units)); intro r9 h9 tk9 F9 N9 e9 o9; subst o9; (try dsimp only); (try k_fold))
      | (refine' Pu.use (size_of_code_pu _ _ _ ?hc) ?k1 ?k2 ?k3 ?k4 ?k5 ?kK ?kp ?kd ?ku ?_; (case hc => omega); ((case k1 => k_asm); (case k2 => k_asm); (case k3 => k_asm); (case k4 => k_asm); (case k5 => k_asm); (case kK => first | exact rfl | assumption); (try (case kp => exact trivial)); (case kd => ktr_room); (case ku => ktr_units)); intro r9 h9 tk9 F9 N9 e9 o9; (refine Exists.elim o9 ?_; clear o9; intro t9 o9; subst o9); (try dsimp only); (try k_fold))
      | (refine' Pu.use (whole_at_pu _ _ _ _ _ _ ?hks ?hsz ?h0 ?h1) ?k1 ?k2 ?k3 ?k4 ?k5 ?kK ?kp ?kd ?ku ?_; (case hks => kba_ints); (case hsz => (first | assumption | omega)); (case h0 => omega); (case h1 => omega); ((case k1 => k_asm); (case k2 => k_asm); (case k3 => k_asm); (case k4 => k_asm); (case k5 => k_asm); (case kK => first | exact rfl | assumption); (try (case kp => exact trivial)); (case kd => ktr_room); (case ku => ktr_units)); intro r9 h9 tk9 F9 N9 e9 o9; refine optInt_cases o9 (fun ew9 er9 => ?_) (fun c9 t9 ew9 er9 => ?_) <;> subst er9 <;> clear o9 <;> (try have hw9 := wholeAt_lt ew9) <;> (try dsimp only) <;> (try k_fold))
      | (refine' Pu.use (is_start_pu _ _ _ _ _ _ ?hks ?hsz ?h0 ?h1) ?k1 ?k2 ?k3 ?k4 ?k5 ?kK ?kp ?kd ?ku ?_; (case hks => kba_ints); (case hsz => (first | assumption | omega)); (case h0 => omega); (case h1 => omega); ((case k1 => k_asm); (case k2 => k_asm); (case k3 => k_asm); (case k4 => k_asm); (case k5 => k_asm); (case kK => first | exact rfl | assumption); (try (case kp => exact trivial)); (case kd => ktr_room); (case ku => ktr_units)); intro r9 h9 tk9 F9 N9 e9 o9; refine startB_cases o9 (fun es9 er9 => ?_) (fun es9 er9 => ?_) <;> subst er9 <;> clear o9 <;> (try dsimp only) <;> (try k_fold))
      | (refine' Pu.use (decoded_pu _ _ _ _ _ _ ?hks ?hsz ?h0 ?h1) ?k1 ?k2 ?k3 ?k4 ?k5 ?kK ?kp ?kd ?ku ?_; (case hks => kba_ints); (case hsz => (first | assumption | omega)); (case h0 => first | omega | exact (startsL_mem (by assumption)).1); (case h1 => first | omega | exact (startsL_mem (by assumption)).2); ((case k1 => k_asm); (case k2 => k_asm); (case k3 => k_asm); (case k4 => k_asm); (case k5 => k_asm); (case kK => first | exact rfl | assumption); (try (case kp => exact trivial)); (case kd => ktr_room); (case ku => ktr_units)); intro r9 h9 tk9 F9 N9 e9 o9; refine pairOut_use o9 (fun T9 t9 u9 er9 hn9 hT9 => ?_); subst er9; clear o9; have N9' := news_new (by assumption) (by assumption) e9 hn9 hT9; (try dsimp only); (try k_fold))
      | (refine' Pu.use (starts_of_pu _ _ _ _ ?hks ?hsz) ?k1 ?k2 ?k3 ?k4 ?k5 ?kK ?kp ?kd ?ku ?_; (case hks => kba_ints); (case hsz => (first | assumption | omega)); ((case k1 => k_asm); (case k2 => k_asm); (case k3 => k_asm); (case k4 => k_asm); (case k5 => k_asm); (case kK => first | exact rfl | assumption); (try (case kp => exact trivial)); (case kd => ktr_room); (case ku => ktr_units)); intro r9 h9 tk9 F9 N9 e9 o9; refine intsOut_use o9 (fun D9 vs9 n9 er9 hn9 hT9 hI9 => ?_); subst er9; clear o9; have N9' := news_new (by assumption) (by assumption) e9 hn9 hT9; (have hI8 := hI9.length); (try dsimp only); (try k_fold))))
  have hsl := startsL_len ks
  k_steps
  all_goals ((refine' hret _ _ _ (Fr.keep ?kfr) ?_; (case kfr => k_asm)); exact intsOut_mk (by assumption) (.head _) (by assumption) rfl)
end
/-! part G0 -/
section
open PySem PySem.W PyProof.Rows PySem.Spec PySem.Calls PyProof.V
/-- two lists, item by item -/
inductive All2 {α : Type} (G : α → Value → Prop) : List α → List Value → Prop
  | nil : All2 G [] []
  | cons {a : α} {v : Value} {l : List α} {vs : List Value} : G a v → All2 G l vs → All2 G (a :: l) (v :: vs)
theorem All2.snoc {α : Type} {G : α → Value → Prop} {a : α} {v : Value} : ∀ {l : List α} {vs : List Value}, All2 G l vs → G a v → All2 G (l ++ [a]) (vs ++ [v])
  | _, _, .nil, h => .cons h .nil
  | _, _, .cons h t, h' => .cons h (All2.snoc t h')
theorem All2.length {α : Type} {G : α → Value → Prop} : ∀ {l : List α} {vs : List Value}, All2 G l vs → vs.length = l.length
  | _, _, .nil => rfl
  | _, _, .cons _ t => by rw [List.length_cons, List.length_cons, All2.length t]
theorem All2.get {α : Type} {G : α → Value → Prop} : ∀ {l : List α} {vs : List Value}, All2 G l vs → ∀ (i : Nat) (v : Value), vs[i]? = some v → ∃ a, l[i]? = some a ∧ G a v
  | _, _, .nil, i, v, h => by simp at h
  | _, _, .cons (a := a) h t, 0, v, e => by
    simp only [List.getElem?_cons_zero, Option.some.injEq] at e
    subst e
    exact ⟨a, rfl, h⟩
  | _, _, .cons h t, i + 1, v, e => by
    simp only [List.getElem?_cons_succ] at e ⊢
    exact All2.get t i v e
theorem All2.imp {α : Type} {G H : α → Value → Prop} (k : ∀ a v, G a v → H a v) : ∀ {l : List α} {vs : List Value}, All2 G l vs → All2 H l vs
  | _, _, .nil => .nil
  | _, _, .cons h t => .cons (k _ _ h) (All2.imp k t)
theorem All2.ints : ∀ {l : List Int} {vs : List Value}, All2 (fun a v => ∃ t, v = .int a t) l vs → IntsAre vs l
  | _, _, .nil => .nil
  | _, _, .cons ⟨t, e⟩ r => by subst e; exact .cons _ t (All2.ints r)
theorem All2.of_ints : ∀ {l : List Int} {vs : List Value}, IntsAre vs l → All2 (fun a v => ∃ t, v = .int a t) l vs
  | _, _, .nil => .nil
  | _, _, .cons _ t r => .cons ⟨t, rfl⟩ (All2.of_ints r)
section
variable {prog : Program} {w : World} {A : Around} {h₀ : Heap} {L : Addr} {m : Str → Option Value} {env : Env} {elt : PySem.Expr} {x : Str} {scope : Scope} {cl : List (Str × Addr)} {s : Shared} {S : List (Addr × Obj) → Prop} {P : Nat → Value → Prop} {Fin : List Value → List (Addr × Obj) → Prop} {news : List (Addr × Obj)}
/-- a comprehension without a test, whose items are what G says of the source's -/
theorem cg_rest {α : Type} {n : Nat} {l : List α} (G : α → Value → Prop) (src : α → Value → Prop) (hl : l.length = n) (hP : ∀ i v, i < n → P i v → ∃ a, l[i]? = some a ∧ src a v)
    (turn : ∀ a v I oI C oC D m₂ ys h tk (E' : Value → Shared → Prop), a ∈ l → src a v → LCg.NsObj oC m₂ → m₂ x = some v → Fr h₀ L h m → News h₀ L h ((I, oI) :: (C, oC) :: (D, LCg.lst ys) :: news) → LCg.Off3 I C D news → ((@Ne Nat I C) ∧ (@Ne Nat I D) ∧ (@Ne Nat C D)) →
      wpAny (model prog w) A (eval elt (compEnvC scope cl C env)) (LCg.CompEnd h₀ L m { s with heap := h, toks := tk } I oI C oC D (LCg.lst ys) S (fun y news' => news' = news ∧ G a y)) E' { s with heap := h, toks := tk })
    (fin : ∀ ys, All2 G l ys → Fin ys news) : LCg.CompRest prog w A h₀ L m env elt x scope cl s S P Fin n 0 [] news := by
  have key : ∀ (j i : Nat) (ys : List Value), i + j = n → All2 G (l.take i) ys → LCg.CompRest prog w A h₀ L m env elt x scope cl s S P Fin j i ys news := by
    intro j
    induction j with
    | zero =>
      intro i ys hi hy
      have e : i = l.length := by omega
      subst e
      rw [List.take_length] at hy
      exact LCg.CompRest.zero (fin ys hy)
    | succ j ih =>
      intro i ys hi hy
      refine LCg.CompRest.succ ?_
      intro v I oI C oC D m₂ h tk E' hv hC hx F N off ne
      obtain ⟨a, ha, hs⟩ := hP i v (by omega) hv
      refine wpAny_mono (turn a v I oI C oC D m₂ ys h tk E' (List.mem_of_getElem? ha) hs hC hx F N off ne) (fun y s₂ hq => ?_) fun _ _ e => e
      obtain ⟨h', tk', nw, e, F', N', off', hS, hn, hG⟩ := hq
      rw [hn] at N' off' hS
      refine ⟨h', tk', news, e, F', N', off', hS, ih (i + 1) _ (by omega) ?_⟩
      rw [List.take_add_one, ha]
      exact All2.snoc hy hG
  exact key n 0 [] (by omega) (by rw [List.take_zero]; exact .nil)
theorem cg_list {vs : List Value} {ns : List Int} (G : Int → Value → Prop) (hi : IntsAre vs ns)
    (turn : ∀ k t I oI C oC D m₂ ys h tk (E' : Value → Shared → Prop), k ∈ ns → LCg.NsObj oC m₂ → m₂ x = some (.int k t) → Fr h₀ L h m → News h₀ L h ((I, oI) :: (C, oC) :: (D, LCg.lst ys) :: news) → LCg.Off3 I C D news → ((@Ne Nat I C) ∧ (@Ne Nat I D) ∧ (@Ne Nat C D)) →
      wpAny (model prog w) A (eval elt (compEnvC scope cl C env)) (LCg.CompEnd h₀ L m { s with heap := h, toks := tk } I oI C oC D (LCg.lst ys) S (fun y news' => news' = news ∧ G k y)) E' { s with heap := h, toks := tk })
    (fin : ∀ ys, All2 G ns ys → Fin ys news) : LCg.CompRest prog w A h₀ L m env elt x scope cl s S (fun i v => vs.toArray[i]? = some v) Fin vs.toArray.size 0 [] news :=
  cg_rest G (fun k v => ∃ t, v = .int k t) (by rw [List.size_toArray]; exact hi.length.symm) (fun i v _ hv => by
    obtain ⟨k, t, e, hk⟩ := IntsAre.at hi i v (by simpa using hv)
    exact ⟨k, hk, t, e⟩) (fun k v I oI C oC D m₂ ys h tk E' hk ⟨t, e⟩ hC hx F N off ne => turn k t I oI C oC D m₂ ys h tk E' hk hC (e ▸ hx) F N off ne) fin
end
section
variable {prog : Program} {w : World} {A : Around} {E : Value → Shared → Prop} {s : Shared} {h₀ : Heap} {L : Addr} {m : Str → Option Value} {news : List (Addr × Obj)}
/-- all(..) of a made list of bools -/
theorem all_made {α : Type} {D : Addr} {o : Obj} {k : Nat} {ys : List Value} {l : List α} {p : α → Bool} {Q : Value → Shared → Prop} (F : Fr h₀ L s.heap m) (N : News h₀ L s.heap news) (hh : A.handled = none) (hm : (D, o) ∈ news) (hc : o.cls = .type "list") (hd : o.data = .seq ys.toArray k)
    (hy : All2 (fun a v => v = .bool (p a)) l ys) (h : ∀ h' tk, Fr h₀ L h' m → News h₀ L h' news → Q (.bool (l.all p)) { s with heap := h', toks := tk }) : wpAny (model prog w) A (call (.builtin "all") [.ref D]) Q E s := by
  have hax := N _ hm
  have hl : s.heap.IsList D ys.toArray := ⟨o, hax.1, hc, k, hd⟩
  have hlt : D < s.heap.objs.size := Heap.lt_size hax.1
  have hne : D ≠ s.heap.objs.size := Nat.ne_of_lt hlt
  refine call_all_walk (wpAny_pyIter_list hl ?_)
  refine ⟨s.heap.objs.size, _, _, _, _, _, fun i => ((l[i]?).map p).getD true, rfl, Walks.list (prog := prog) (w := w) (A := A.in1) hh s.heap.objs.size D hne ys.toArray, ⟨⟨_, Heap.get?_push_size _ rfl, rfl, rfl⟩, hl.at fun o e => Heap.get?_push_of_some _ e⟩, ?_, ?_⟩
  · intro i v s' Q' E' hP hQ
    obtain ⟨a, ha, hv⟩ := hy.get i v (by simpa using hP)
    subst hv
    refine wpAny_truthy_bool ?_
    have e : ((l[i]?).map p).getD true = p a := by rw [ha]; rfl
    dsimp only at hQ
    rw [e] at hQ
    exact hQ
  · intro h' tk hk
    have e : (List.range ys.toArray.size).all (fun i => ((l[i]?).map p).getD true) = l.all p := by
      rw [List.size_toArray, hy.length, Bool.eq_iff_iff, List.all_eq_true, List.all_eq_true]
      constructor
      · intro hx a ha
        obtain ⟨i, hi, rfl⟩ := List.getElem_of_mem ha
        have := hx i (List.mem_range.mpr hi)
        rw [List.getElem?_eq_getElem hi] at this
        exact this
      · intro hx i hi
        have hi' := List.mem_range.mp hi
        rw [List.getElem?_eq_getElem hi']
        exact hx _ (List.getElem_mem hi')
    rw [e]
    have keep : ∀ a o, s.heap.get? a = some o → h'.get? a = some o := fun a o ha => hk a o (fun hm => absurd (Heap.lt_size ha) (by rw [List.mem_singleton.mp hm]; exact Nat.lt_irrefl _)) (Heap.get?_push_of_some _ ha)
    exact h h' tk (F.keeps keep) (N.grown keep)
end
end
/-! part S7 -/
section
theorem codesL_len (ks : List Int) : (codesL ks).length ≤ ks.length := by
  unfold codesL
  rw [List.length_map]
  exact startsL_len ks
section
theorem is_valid_pu (w : World) (b : Array UInt8) (tb : Tok) (ks : List Int) (hks : KBw.bInts b = ks) (hsz : ks.length ≤ 64) : Pu w 142 [.bytes b tb] 7 56 (fun _ => True) (fun _ _ r => r = .bool ((codesL ks).all fun c => decide (0 ≤ c))) := by
  w_top off
  (
      unfold Pu
      k_fill
      intro mean mg mb dp un gd cn cs a ccd cl outer A₀ base h₀ L m s Q E B F X T hk hpre hd hu hret
      refine wpAny_call ?_
      k_dflt (refine' pu_enter B F X T ?kA ?kF ?kK ?k6 ?k7 ?k8 ?k9 ?kB ?_ ?c2 ?c3 ?c4 ?c5; (case kA => exact rfl); (case kF => exact rfl); (case kK => assumption); (case k6 => k_is); (case k7 => k_is); (case k8 => ktr_room); (case k9 => exact BindsTo.of_eq rfl); (case c5 => decide); (case kB => exact locs rfl); (case c2 => exact rfl); (case c3 => exact rfl); (case c4 => exact rfl); k_whole)
      clear B F X T
      intro L' h' F' N' B' X' T'
      (try dsimp only)
      (try k_fold))
  k_with_none
  k_with "exec Assign" => k_fold
  k_with "exec Expr" => k_fold
  k_with "exec If" => k_fold
  k_with "exec Return" => k_fold
  k_with "exec AugAssign" => k_fold
  k_with "eval Call" => k_fold
  k_with "eval Compare" => k_fold
  k_with "isTrue Compare" => k_fold
  k_with "eval BinOp" => k_fold
  k_with "eval Subscript" => k_fold
  k_with "eval Tuple" => k_fold
  k_with "eval List" => k_fold
  k_with "eval BoolOp" => k_fold
  k_with "isTrue BoolOp Or" => k_fold
  k_with "isTrue BoolOp" => k_fold
  k_with "eval ListComp" => k_fold
  k_with "execs cons" => k_fold
  k_with "call ref" => ((k_here; first
      | (refine' Pu.use (size_of_code_pu _ _ _ ?hc) ?k1 ?k2 ?k3 ?k4 ?k5 ?kK ?kp ?kd ?ku ?_; (case hc => omega); ((case k1 => k_asm); (case k2 => k_asm); (case k3 => k_asm); (case k4 => k_asm); (case k5 => k_asm); (case kK => first | exact rfl | assumption); (try (case kp => exact trivial)); (case kd => ktr_room); (case ku => ktr_units)); intro r9 h9 tk9 F9 N9 e9 o9; (refine Exists.elim o9 ?_; clear o9; intro t9 o9; (try rw [hsz9] at o9); subst o9); (try dsimp only); (try k_fold))
      | (refine' Pu.use (codes_of_pu _ _ _ _ ?hks ?hsz) ?k1 ?k2 ?k3 ?k4 ?k5 ?kK ?kp ?kd ?ku ?_; (case hks => kba_ints); (case hsz => (first | assumption | omega)); ((case k1 => k_asm); (case k2 => k_asm); (case k3 => k_asm); (case k4 => k_asm); (case k5 => k_asm); (case kK => first | exact rfl | assumption); (try (case kp => exact trivial)); (case kd => ktr_room); (case ku => ktr_units)); intro r9 h9 tk9 F9 N9 e9 o9; refine intsOut_use o9 (fun D9 vs9 n9 er9 hn9 hT9 hI9 => ?_); subst er9; clear o9; have N9' := news_new (by assumption) (by assumption) e9 hn9 hT9; (have hI8 := hI9.length); (try dsimp only); (try k_fold))
      | (refine' Pu.use (starts_of_pu _ _ _ _ ?hks ?hsz) ?k1 ?k2 ?k3 ?k4 ?k5 ?kK ?kp ?kd ?ku ?_; (case hks => kba_ints); (case hsz => (first | assumption | omega)); ((case k1 => k_asm); (case k2 => k_asm); (case k3 => k_asm); (case k4 => k_asm); (case k5 => k_asm); (case kK => first | exact rfl | assumption); (try (case kp => exact trivial)); (case kd => ktr_room); (case ku => ktr_units)); intro r9 h9 tk9 F9 N9 e9 o9; refine intsOut_use o9 (fun D9 vs9 n9 er9 hn9 hT9 hI9 => ?_); subst er9; clear o9; have N9' := news_new (by assumption) (by assumption) e9 hn9 hT9; (have hI8 := hI9.length); (try dsimp only); (try k_fold))))
  k_with "CompSrc" => ((k_here; k_dflt (refine LCg.CompSrc.ledger (by rfl) (by k_asm) (by k_asm) (by k_mem) (by kcf_size) ?_; intro g'; refine' cg_list (fun k y => y = .bool (decide (0 ≤ k))) (by assumption) (fun k' t' I' oI' C' oC' D' m' ys' h' tk' E' hk' hC' hx' F' N' off' ne' => ?_) (fun ys9 hys9 => ?_); (all_goals (try (simp only [LCg.Off3, and_true] at off'))); kcf_last)))
  k_with "CompEnd" => ((refine' LCg.CompEnd.intro ?cF ?cN _ ?ca ?co ?cs ⟨rfl, ?_⟩; (case cF => assumption); (case cN => assumption); (case ca => kcf_all); (case co => first | assumption | (simp only [LCg.Off3, and_true]; done) | (simp only [LCg.Off3, and_true]; assumption)); (case cs => first | lcg_src | assumption)))
  k_with "call builtin:all" => ((k_here; (refine' all_made ?aF ?aN ?ah ?am ?ac ?ad (by assumption) ?_; (case aF => k_asm); (case aN => k_asm); (case ah => rfl); (case am => k_mem); (case ac => rfl); (case ad => rfl)); intro h9 tk9 F9 N9))
  have hcl := codesL_len ks
  k_steps
  all_goals ((refine' hret _ _ _ (Fr.keep ?kfr) ?_; (case kfr => k_asm)); rfl)
end
noncomputable def encL (c : Int) : List Int := if c < 0 then [-1 - c] else if c < 128 then [c] else if c < 2048 then [192 + c / 64, 128 + c % 64] else if c < 65536 then [224 + c / 4096, 128 + c / 64 % 64, 128 + c % 64] else [240 + c / 262144, 128 + c / 4096 % 64, 128 + c / 64 % 64, 128 + c % 64]
noncomputable def BytesOut (l : List Int) (r : Value) : Prop := ∃ b t, r = .bytes b t ∧ KBw.bInts b = l
theorem fdiv64 {c : Int} (n : Int) (h : 0 ≤ n) : c.fdiv n = c / n := Int.fdiv_eq_ediv_of_nonneg c h
theorem fmod64 {c : Int} (n : Int) (h : 0 ≤ n) : c.fmod n = c % n := Int.fmod_eq_emod_of_nonneg c h
theorem in_nil : KBa.In [] := fun _ h => nomatch h
theorem in_cons {a : Int} {l : List Int} (h0 : 0 ≤ a) (h1 : a < 256) (h : KBa.In l) : KBa.In (a :: l) := by
  intro n hn
  rcases List.mem_cons.mp hn with e | hn
  · rw [e]; exact ⟨h0, h1⟩
  · exact h n hn
theorem fmod_in (c : Int) : 0 ≤ c.fmod 64 ∧ c.fmod 64 < 64 := by
  rw [fmod64 64 (by decide)]; omega
end
/-! part W1 -/
section
section
variable {prog : Program} {w : World} {A : Around} {E : Value → Shared → Prop} {s : Shared} {env : Env} {h₀ : Heap} {x : Str} {body : List Stmt} {Q : Flow → Shared → Prop}
theorem map_back {x y : Str} {m₁ m₀ : Str → Option Value} {v : Value} (hb : m₁ y = some v) (hm : ∀ z, z ≠ x → z ≠ y → m₁ z = m₀ z) : m₁ = fun z => if z = x then m₁ z else if z = y then some v else m₀ z := by
  funext z
  by_cases h1 : z = x
  · rw [if_pos h1]
  · rw [if_neg h1]
    by_cases h2 : z = y
    · rw [if_pos h2, h2, hb]
    · rw [if_neg h2]; exact hm z h1 h2
/-- a short range; an int that the turns change, and a list of ints that they lengthen -/
theorem range_invL {r D : Addr} {b₀ : Int} {t₀ u₀ v₀ tc : Tok} {m₀ : Str → Option Value} {news : List (Addr × Obj)} {y : Str} {vs₀ : List Value} {n₀ : Nat} (ra : Nat → Int) (rl : Nat → List Int)
    (hh : A.handled = none) (hr : IsRange s.heap r 0 b₀ 1 t₀ u₀ v₀) (hb₀ : 0 ≤ b₀) (hb₁ : b₀ < 8) (F : Fr h₀ env.locals s.heap m₀) (N : News h₀ env.locals s.heap news)
    (hD : (D, listOf vs₀.toArray n₀) ∈ news) (hv : IntsAre vs₀ (rl 0)) (hlen : ∀ j, (rl j).length = j) (hy : m₀ y = some (.int (ra 0) tc))
    (turn : ∀ (j : Nat) t ta vs nn h tk own, vs.length < 8 → IntsAre vs (rl j) → OwnOff own [D] → Fr h₀ env.locals h (fun z => if z = x then some (.int (0 + (j : Int)) t) else if z = y then some (.int (ra j) ta) else m₀ z) → News h₀ env.locals h ([(D, listOf vs.toArray nn)] ++ own) →
      wpAny (model prog w) A (execs body env) (InvPostN h₀ env.locals (fun m' nx => (∃ vs' nn', nx = [(D, listOf vs'.toArray nn')] ∧ IntsAre vs' (rl (j + 1))) ∧ (∃ t', m' y = some (.int (ra (j + 1)) t')) ∧ ∀ z, z ≠ x → z ≠ y → m' z = m₀ z) own [D] { s with heap := h, toks := tk } Q) E { s with heap := h, toks := tk })
    (done : ∀ (u : Str → Option Value) vs nn ta h tk, vs.length < 8 → IntsAre vs (rl b₀.toNat) → Fr h₀ env.locals h (fun z => if z = x then u z else if z = y then some (.int (ra b₀.toNat) ta) else m₀ z) → News h₀ env.locals h [(D, listOf vs.toArray nn)] → Q .next { s with heap := h, toks := tk }) :
    wpAny (model prog w) A (pyIter (.ref r)) (fun it s₂ => LoopAtV prog w A h₀ env x body Q E it s₂) E s := by
  have N₀ : News h₀ env.locals s.heap [(D, listOf vs₀.toArray n₀)] := fun p hp => N p (by rw [List.mem_singleton.mp hp]; exact hD)
  have eb : (b₀ - 0).toNat = b₀.toNat := by rw [Int.sub_zero]
  refine kpr_invN (n := (b₀ - 0).toNat) (fun j m nx => (∃ vs nn, nx = [(D, listOf vs.toArray nn)] ∧ IntsAre vs (rl j)) ∧ (∃ t', m y = some (.int (ra j) t')) ∧ ∀ z, z ≠ x → z ≠ y → m z = m₀ z) hh hr (small_one (by omega) (by omega) (by omega) (by omega)) (rangeSize_nat _ _) F N₀ ⟨⟨_, _, rfl, hv⟩, ⟨_, hy⟩, fun _ _ _ => rfl⟩ ?_ ?_
  · rintro i k t m₁ nx h tk own hk hoff ⟨⟨vs, nn, rfl, h1⟩, ⟨t', hb⟩, hm⟩ F₁ N₁
    have hi : i < (b₀ - 0).toNat := by
      have := (List.getElem?_eq_some_iff.mp hk).1
      rwa [rangeKs_length] at this
    have hk' : k = 0 + (i : Int) := by
      have e : (rangeKs 0 (b₀ - 0).toNat)[i]? = some (0 + (i : Int)) := by simp only [rangeKs, List.getElem?_map, List.getElem?_range hi, Option.map_some]
      rw [e] at hk; exact (Option.some.inj hk).symm
    subst hk'
    rw [map_one hb hm] at F₁
    exact turn i t t' vs nn h tk own (by rw [h1.length, hlen]; omega) h1 hoff F₁ N₁
  · rintro m₁ nx h tk ⟨⟨vs, nn, rfl, h1⟩, ⟨t', hb⟩, hm⟩ F₁ N₁
    rw [rangeKs_length, eb] at h1 hb
    refine done m₁ vs nn t' h tk (by rw [h1.length, hlen]; omega) h1 ?_ N₁
    rw [← map_back hb hm]; exact F₁
theorem tup_at {value slice : PySem.Expr} {T : Addr} {vs : List Value} {n : Nat} {news : List (Addr × Obj)} {L : Addr} {k : Int} {u : Tok} {v : Value} {Q : Value → Shared → Prop}
    (N : News h₀ L s.heap news) (hm : (T, ({ cls := .type "tuple", data := .seq vs.toArray n } : Obj)) ∈ news) (h0 : 0 ≤ k) (h1 : k < 2 ^ 63) (hx : vs[k.toNat]? = some v) (h : Q v s)
    (hs : subscripted slice false (.ref T) (.int k u) = operate [.ref T, .int k u] (getItem (.ref T) (.int k u)) := by with_unfolding_all rfl) :
    wpAny (model prog w) A (subscriptTail value slice (.ref T) (.int k u)) Q E s :=
  item_tupleT (N.isTup hm) (by omega) h1 (seqIndex_of h0 (by have := (List.getElem?_eq_some_iff.mp hx).1; omega)) hx h hs
end
end
/-! part S7e -/
section
theorem bytesOut_mk {l ns : List Int} {t : Tok} (h : KBa.In ns) (e : ns = l) : BytesOut l (.bytes (byteArr ns) t) := by
  subst e
  exact ⟨_, t, rfl, KBa.ints_make h⟩
/-- what is left of a code, and the following octets, after j turns -/
noncomputable def restN (c : Int) : Nat → Int
  | 0 => c
  | j + 1 => (restN c j).fdiv 64
noncomputable def tailsN (c : Int) : Nat → List Int
  | 0 => []
  | j + 1 => tailsN c j ++ [128 + (restN c j).fmod 64]
noncomputable def leadB (k : Int) : Int := if k = 2 then 192 else if k = 3 then 224 else 240
theorem tailsN_len (c : Int) : ∀ j, (tailsN c j).length = j
  | 0 => rfl
  | j + 1 => by
    show (tailsN c j ++ _).length = _
    rw [List.length_append, tailsN_len c j]; rfl
theorem tailsN_in (c : Int) : ∀ j, KBa.In (tailsN c j)
  | 0 => in_nil
  | j + 1 => fun a ha => (List.mem_append.mp ha).elim (tailsN_in c j a) fun h => by
    have := fmod_in (restN c j)
    rw [List.mem_singleton.mp h]; omega
theorem lead_item {t0 t1 t2 t3 t4 : Tok} {k : Int} (h0 : 2 ≤ k) (h1 : k ≤ 4) : ∃ t, [Value.int 0 t0, .int 0 t1, .int 192 t2, .int 224 t3, .int 240 t4][k.toNat]? = some (.int (leadB k) t) := by
  rcases (by omega : k = 2 ∨ k = 3 ∨ k = 4) with rfl | rfl | rfl <;> exact ⟨_, rfl⟩
theorem sz_of {c : Int} : (c < 128 ∧ sizeOf' c = 1) ∨ (128 ≤ c ∧ c < 2048 ∧ sizeOf' c = 2) ∨ (2048 ≤ c ∧ c < 65536 ∧ sizeOf' c = 3) ∨ (65536 ≤ c ∧ sizeOf' c = 4) := by
  unfold sizeOf'
  by_cases c0 : c < 128
  · exact .inl ⟨c0, if_pos c0⟩
  refine .inr ?_
  rw [if_neg c0]
  by_cases c1 : c < 2048
  · exact .inl ⟨Int.not_lt.mp c0, c1, if_pos c1⟩
  refine .inr ?_
  rw [if_neg c1]
  by_cases c2 : c < 65536
  · exact .inl ⟨Int.not_lt.mp c1, c2, if_pos c2⟩
  · exact .inr ⟨Int.not_lt.mp c2, if_neg c2⟩
theorem enc_2 {c : Int} (h0 : 128 ≤ c) (h1 : c < 2048) : encL c = [192 + c / 64, 128 + c % 64] := by
  unfold encL
  rw [if_neg (by omega), if_neg (by omega), if_pos h1]
theorem enc_3 {c : Int} (h0 : 2048 ≤ c) (h1 : c < 65536) : encL c = [224 + c / 4096, 128 + c / 64 % 64, 128 + c % 64] := by
  unfold encL
  rw [if_neg (by omega), if_neg (by omega), if_neg (by omega), if_pos h1]
theorem enc_4 {c : Int} (h0 : 65536 ≤ c) : encL c = [240 + c / 262144, 128 + c / 4096 % 64, 128 + c / 64 % 64, 128 + c % 64] := by
  unfold encL
  rw [if_neg (by omega), if_neg (by omega), if_neg (by omega), if_neg (by omega)]
theorem div_div {c : Int} : c / 64 / 64 = c / 4096 := Int.ediv_ediv_of_nonneg (by decide)
theorem div_div2 {c : Int} : c / 4096 / 64 = c / 262144 := Int.ediv_ediv_of_nonneg (by decide)
/-- the octets of a code of two or more -/
theorem enc_tail {c : Int} (h0 : 128 ≤ c) (h1 : c < 1114112) {k : Int} (hk : sizeOf' c = k) : [leadB k + restN c (k - 1).toNat] ++ (tailsN c (k - 1).toNat).reverse = encL c ∧ 0 ≤ leadB k + restN c (k - 1).toNat ∧ leadB k + restN c (k - 1).toNat < 256 := by
  rcases sz_of (c := c) with ⟨h, _⟩ | ⟨_, h, e⟩ | ⟨h, h', e⟩ | ⟨h, e⟩
  · omega
  all_goals rw [e] at hk; subst hk
  · rw [enc_2 h0 h, ← fmod64 64 (by decide), ← fdiv64 64 (by decide)]
    refine ⟨rfl, ?_⟩
    show 0 ≤ 192 + c.fdiv 64 ∧ 192 + c.fdiv 64 < 256
    rw [fdiv64 64 (by decide)]; omega
  · rw [enc_3 h h', ← div_div, ← fmod64 64 (by decide), ← fmod64 64 (by decide), ← fdiv64 64 (by decide), ← fdiv64 64 (by decide)]
    refine ⟨rfl, ?_⟩
    show 0 ≤ 224 + (c.fdiv 64).fdiv 64 ∧ 224 + (c.fdiv 64).fdiv 64 < 256
    rw [fdiv64 64 (by decide), fdiv64 64 (by decide), div_div]; omega
  · rw [enc_4 h, ← div_div2, ← div_div, ← fmod64 64 (by decide), ← fmod64 64 (by decide), ← fmod64 64 (by decide), ← fdiv64 64 (by decide), ← fdiv64 64 (by decide), ← fdiv64 64 (by decide)]
    refine ⟨rfl, ?_⟩
    show 0 ≤ 240 + ((c.fdiv 64).fdiv 64).fdiv 64 ∧ 240 + ((c.fdiv 64).fdiv 64).fdiv 64 < 256
    rw [fdiv64 64 (by decide), fdiv64 64 (by decide), fdiv64 64 (by decide)]; omega
theorem enc_in {c : Int} (h0 : 128 ≤ c) (h1 : c < 1114112) : KBa.In ([leadB (sizeOf' c) + restN c (sizeOf' c - 1).toNat] ++ (tailsN c (sizeOf' c - 1).toNat).reverse) :=
  in_cons (enc_tail h0 h1 rfl).2.1 (enc_tail h0 h1 rfl).2.2 fun a ha => tailsN_in c _ a (List.mem_reverse.mp ha)
theorem enc_neg {c : Int} (h0 : c < 0) : [-1 - c] = encL c := by
  unfold encL
  rw [if_pos h0]
theorem sz_small {c : Int} (h : sizeOf' c = 1) : c < 128 := Int.not_le.mp fun h' => by
  rcases sz_of (c := c) with ⟨a, _⟩ | ⟨_, _, e⟩ | ⟨_, _, e⟩ | ⟨_, e⟩
  · exact absurd a (Int.not_lt.mpr h')
  all_goals exact absurd (h.symm.trans e) (by decide)
theorem enc_1 {c : Int} (h0 : ¬ c < 0) (h : sizeOf' c = 1) : [c] = encL c := by
  unfold encL
  rw [if_neg h0, if_pos (sz_small h)]
theorem sz_big {c : Int} (h : ¬ sizeOf' c = 1) : 128 ≤ c ∧ 2 ≤ sizeOf' c := by
  rcases sz_of (c := c) with ⟨_, e⟩ | ⟨a, _, e⟩ | ⟨a, _, e⟩ | ⟨a, e⟩
  · exact absurd e h
  all_goals exact ⟨Int.le_trans (by decide) a, by rw [e]; decide⟩
section
theorem encoded_pu (w : World) (c : Int) (tc : Tok) (h0 : -256 ≤ c) (h1 : c < 1114112) : Pu w 69 [.int c tc] 3 24 (fun _ => True) (fun _ _ r => BytesOut (encL c) r) := by
  w_top off
  (
      unfold Pu
      k_fill
      intro mean mg mb dp un gd cn cs a ccd cl outer A₀ base h₀ L m s Q E B F X T hk hpre hd hu hret
      refine wpAny_call ?_
      k_dflt (refine' pu_enter B F X T ?kA ?kF ?kK ?k6 ?k7 ?k8 ?k9 ?kB ?_ ?c2 ?c3 ?c4 ?c5; (case kA => exact rfl); (case kF => exact rfl); (case kK => assumption); (case k6 => k_is); (case k7 => k_is); (case k8 => ktr_room); (case k9 => exact BindsTo.of_eq rfl); (case c5 => decide); (case kB => exact locs rfl); (case c2 => exact rfl); (case c3 => exact rfl); (case c4 => exact rfl); k_whole)
      clear B F X T
      intro L' h' F' N' B' X' T'
      (try dsimp only)
      (try k_fold))
  k_with_none
  k_with "exec Assign" => k_fold
  k_with "exec Expr" => k_fold
  k_with "exec If" => k_fold
  k_with "exec Return" => k_fold
  k_with "exec AugAssign" => k_fold
  k_with "eval Call" => k_fold
  k_with "eval Compare" => k_fold
  k_with "isTrue Compare" => k_fold
  k_with "eval BinOp" => k_fold
  k_with "eval Subscript" => k_fold
  k_with "eval Tuple" => k_fold
  k_with "eval List" => k_fold
  k_with "eval BoolOp" => k_fold
  k_with "isTrue BoolOp Or" => k_fold
  k_with "isTrue BoolOp" => k_fold
  k_with "eval ListComp" => k_fold
  k_with "execs cons" => k_fold
  k_with "call ref" => ((k_here; first
      | (refine' Pu.use (size_of_code_pu _ _ _ ?hc) ?k1 ?k2 ?k3 ?k4 ?k5 ?kK ?kp ?kd ?ku ?_; (case hc => omega); ((case k1 => k_asm); (case k2 => k_asm); (case k3 => k_asm); (case k4 => k_asm); (case k5 => k_asm); (case kK => first | exact rfl | assumption); (try (case kp => exact trivial)); (case kd => ktr_room); (case ku => ktr_units)); intro r9 h9 tk9 F9 N9 e9 o9; (refine Exists.elim o9 ?_; clear o9; intro t9 o9; (try rw [hsz9] at o9); subst o9); (try dsimp only); (try k_fold))))
  k_with "subscriptTail" => ((k_here; k_dflt (obtain ⟨t9, e9⟩ := lead_item hs2 hs4; refine' tup_at ?ea ?eb ?e0 ?e1 e9 ?_ ?ec; (case ea => k_asm); (case eb => k_mem); (case e0 => omega); (case e1 => omega); (case ec => with_unfolding_all rfl); k_whole)))
  k_with "InvEndN" => (((rename News _ _ _ _ => lN'); (rw [List.push_toArray] at lN'); k_dflt (refine' InvEndN.intro ?iF ?iN ⟨⟨_, _, rfl, ?ii⟩, ⟨_, ?ie⟩, ?is⟩ ?it ?ia ?io; (case iF => assumption); (case iN => assumption); (case ie => rfl); (case ia => (intro p hp; rw [List.mem_singleton.mp hp]; exact List.mem_cons_self)); (case io => exact fun p hp => List.mem_cons_of_mem _ hp); (case it => rfl); (case ii => exact IntsAre.append (by assumption) (.cons _ _ .nil)); (case is => (intro z h1 h2; simp only [h1, h2, if_false])))))
  have hs1 := sizeOf_pos c
  obtain ⟨hs1, hs4⟩ := hs1
  k_with "pyIter ref" => (
   (rename Fr _ _ _ _ => lF'); (rename News _ _ _ _ => lN'); (rename IsRange _ _ _ _ _ _ _ _ => rgX)
   (obtain ⟨h2, hs2⟩ := sz_big (by assumption)); (have hin9 := enc_in h2 h1)
   (with_unfolding_all refine' range_invL (y := Str.ofString "rest") (vs₀ := []) (restN c) (tailsN c) (by rfl) rgX (by omega) (by omega) lF' lN' (by k_mem) (by constructor) (tailsN_len c) (by rfl) (fun j9 t9 ta9 vs9 nn9 h9 tk9 own9 hz9 hI9 hoff9 F' N' => ?_) (fun u9 vs9 nn9 ta9 h9 tk9 hz9 hI9 F' N' => ?_))
   (all_goals (try clear lF' lN'))
   (all_goals (try simp only [List.nil_append, List.cons_append, List.append_nil] at N'))
   (all_goals (try k_fold)))
  k_with "call type:bytes" => first
    | (k_here; (fail_if_success (have q9 : c < 128 := by assumption)); (have q9 : c < 128 := sz_small (by assumption)))
    | (k_here; k_dflt (refine' KBa.make_K ?kbaF ?kbaN ?kbah ?kbal ?kbai ?kbar ?kban ?_; (case kbaF => k_asm); (case kbaN => k_asm); (case kbah => rfl); (case kbal => exact News.isList (by k_asm) (by k_mem)); (case kbai => exact hI8); (case kbar => exact hin9); (case kban => (rw [List.length_append, List.length_reverse, tailsN_len]; simp only [List.length_cons, List.length_nil]; omega))); intro h9 t9 tk9 F9 N9 hin8)
  k_with "binaryOp Add ref ref" => (k_here; k_dflt (refine' kmk_add_ints ?aF ?aN ?aa ?ab ?ai ?aj ?_ ?az; (case aF => k_asm); (case aN => k_asm); (case aa => exact News.isList (by k_asm) (by k_mem)); (case ab => exact News.isList (by k_asm) (by k_mem)); (case ai => exact .cons _ _ .nil); (case aj => assumption); (case az => (rw [List.length_reverse, tailsN_len, sizeLine_eq]; simp only [List.length_cons, List.length_nil]; omega)); k_whole); intro D8 us8 h8 F8 N8 l8 hI8)
  k_with "call type:range" => ((rename Fr _ _ _ _ => lF'); (rename News _ _ _ _ => lN'); (with_unfolding_all refine range1_rows lF' lN' ?_); intro _ _ _ _ _ _ _ _ _)
  k_steps
  all_goals ((refine' hret _ _ _ (Fr.keep ?kfr) ?_; (case kfr => k_asm)); first
    | exact bytesOut_mk (ns := [-1 - c]) (in_cons (by omega) (by omega) in_nil) (enc_neg (by assumption))
    | exact bytesOut_mk (ns := [c]) (in_cons (by omega) (by omega) in_nil) (enc_1 (by assumption) (by assumption))
    | exact bytesOut_mk hin9 (enc_tail h2 h1 rfl).1)
end
end
/-! part J0 -/
section
open PySem PySem.W PyProof.Rows PySem.Spec PySem.Calls PyProof.V PySem.Builtin
theorem bj_buf : typeLookup (.type "bytes") "__buffer__" = pure (some (.builtin "bytes.__buffer__")) := by rw [typeLookup_type, builtinLookup_eq_fast]; kernel_rfl
theorem bj_rel : typeLookup (.type "bytes") "__release_buffer__" = pure none := by rw [typeLookup_type, builtinLookup_eq_fast]; kernel_rfl
theorem bj_sub : isSubtype (.type "bytes") (.type "bytes") = pure true := by rw [isSubtype_type]; kernel_rfl
theorem bj_entry : entryFor table "bytes.join" = some Builtin.«bytes.join» := by first | exact entryFor_of_fast (by kernel_rfl) | exact entryFor_of_tree (by kernel_rfl)
namespace Bj
open PySem.W
theorem slot_join : Slot "bytes" "join" "bytes.join" :=
  .of (owner := "bytes") (n := "join") (by rw [typeLookup_type, builtinLookup_eq_fast]; kernel_rfl) (by decide +kernel) (by decide +kernel) (by decide +kernel)
    (by first | exact .inl (by decide +kernel) | exact .inr (by decide +kernel)) (by rw [isSubtype_type]; kernel_rfl)
theorem type_join : typeOf (.builtin "bytes.join") = pure (.type "method_descriptor") := by show builtinType _ = _; rw [builtinType_eq_fast]; kernel_rfl
theorem args_join (a b : Value) : argsOk "bytes.join" ⟨[a, b], []⟩ := by
  unfold argsOk; rw [signature?_of (id := "bytes.join") (n := ['n', 'i', 'o', 'j']) (o := ['s', 'e', 't', 'y', 'b']) (by kernel_rfl) FB.owner_bytes]; kernel_rfl
end Bj
section
variable {prog : Program} {w : World} {A : Around} {E : Value → Shared → Prop} {s : Shared}
theorem bj_own {b : Array UInt8} {t : Tok} {Q : Bool → Shared → Prop} (h : Q true s) : wpAny (model prog w) A (Bytes.slotIsOwn (.bytes b t) "__buffer__") Q E s := by
  unfold Bytes.slotIsOwn
  refine wpAny_bind (wpAny_specialOf (W.typeIs_bytes s b t) bj_buf ?_)
  refine bm_if_false (by decide +kernel) ?_
  rw [show "bytes.__buffer__".dropRight ("__buffer__".length + 1) = "bytes" from by decide +kernel]
  exact wpAny_isInstance (W.typeIs_bytes s b t) bj_sub h
theorem bj_buffer {b : Array UInt8} {t : Tok} {full : Bool} {Q : Option (Array UInt8) → Shared → Prop} (h : Q (some b) s) : wpAny (model prog w) A (Bytes.buffer? "bytes.join" (.bytes b t) full) Q E s := by
  unfold Bytes.buffer?
  refine wpAny_bind (wpAny_specialOf (W.typeIs_bytes s b t) bj_buf ?_)
  refine wpAny_bind (bj_own ?_)
  refine bm_if_false rfl ?_
  refine wpAny_bind (wpAny_specialOf (W.typeIs_bytes s b t) bj_buf ?_)
  refine wpAny_bind ?_
  unfold Bytes.ownRelease Bytes.slotIsOwn
  refine wpAny_bind (wpAny_bind (wpAny_specialOf (W.typeIs_bytes s b t) bj_rel (wpAny_pure (wpAny_pure ?_))))
  refine bm_if_false rfl ?_
  exact wpAny_bind (wpAny_pure (wpAny_pure h))
theorem bj_take {b : Array UInt8} {t : Tok} {Q : Option (Array UInt8 × Option Value) → Shared → Prop} (h : Q (some (b, none)) s) : wpAny (model prog w) A (Bytes.takeBufferQuiet? "bytes.join" (.bytes b t) 0) Q E s := by
  unfold Bytes.takeBufferQuiet?
  refine wpAny_bind (wpAny_attempt ?_)
  unfold Bytes.takeBuffer?
  refine wpAny_bind (wpAny_specialOf (W.typeIs_bytes s b t) bj_buf ?_)
  refine wpAny_bind (bj_own ?_)
  refine bm_if_false rfl ?_
  refine wpAny_bind (wpAny_specialOf (W.typeIs_bytes s b t) bj_buf ?_)
  exact wpAny_bind (bj_buffer (wpAny_pure (wpAny_pure h)))
theorem bj_letGo {R : Unit → Shared → Prop} : ∀ (l : List (Array UInt8 × Tok)) (keep : List Value), R () s → wpAny (model prog w) A (Bytes.joinLetGo (l.map fun p => (Value.bytes p.1 p.2, none)) keep) R E s
  | [], _, h => wpAny_pure h
  | p :: l, keep, h => by
    show wpAny _ _ (Bytes.joinLetGo ((Value.bytes p.1 p.2, none) :: l.map _) keep) _ _ _
    unfold Bytes.joinLetGo
    exact wpAny_bind (wpAny_letGo (bj_letGo l keep h))
end
end
/-! part J1 -/
section
open PySem PySem.W PyProof.Rows PySem.Spec PySem.Calls PyProof.V PySem.Builtin
section
variable {prog : Program} {w : World} {A : Around} {E : Value → Shared → Prop} {s : Shared}
theorem bj_size : ∀ (l : List (Array UInt8)), Array.foldl (fun x1 x2 => x1 + x2.size) ((#[] : Array UInt8).size * (l.toArray.size - 1)) l.toArray = (Bytes.joined #[] l).size := by
  intro l
  have fold : ∀ (l : List (Array UInt8)) (acc : Array UInt8) (i : Nat), ((l.zipIdx i).foldl (fun out (p : Array UInt8 × Nat) => (if p.2 > 0 then out ++ (#[] : Array UInt8) else out) ++ p.1) acc).size = l.foldl (fun n x => n + x.size) acc.size := by
    intro l
    induction l with
    | nil => intro acc i; rfl
    | cons x r ih =>
      intro acc i
      rw [List.zipIdx_cons, List.foldl_cons, ih, List.foldl_cons]
      congr 1
      split <;> simp
  have := fold l #[] 0
  unfold Bytes.joined
  refine Eq.trans ?_ this.symm
  simp
theorem bj_call {D : Addr} {t : Tok} {bs : List (Array UInt8 × Tok)} {Q : Value → Shared → Prop} (hl : s.heap.IsList D (bs.map fun p => Value.bytes p.1 p.2).toArray)
    (hz : (Bytes.joined #[] (bs.map (·.1))).size ≤ sizeLine) (hQ : ∀ t' k, Q (.bytes (Bytes.joined #[] (bs.map (·.1))) t') { s with toks := k }) :
    wpAny (model prog w) A (call (.builtin "bytes.join") [.bytes #[] t, .ref D]) Q E s := by
  have hT : s.TypeIs (.ref D) "list" := hl.typeIs
  obtain ⟨o, ho, hc, n, hd⟩ := id hl
  refine wpAny_call (codeAny_call_builtin Bj.slot_join.plain bj_entry (Bj.slot_join.check _ _ _ _ _ _ _ _ (W.typeIs_bytes _ _ _) (Bj.args_join _ _) ?_))
  unfold Builtin.«bytes.join» Bytes.joinM
  refine wpAny_bind (wpAny_pure ?_)
  dsimp only
  refine bm_if_true rfl ?_
  unfold Bytes.joinItems
  refine wpAny_bind (wpAny_bind (wpAny_typeOf hT ?_))
  refine bm_if_true rfl (wpAny_pure ?_)
  refine wpAny_bind (wpAny_seqItems ho hd ?_)
  dsimp only
  refine bm_if_true rfl ?_
  have hidx : ∀ i, i < bs.length → ∃ p, bs[i]? = some p ∧ (bs.map fun p => Value.bytes p.1 p.2).toArray.getD i Value.none = Value.bytes p.1 p.2 := by
    intro i hi
    refine ⟨bs[i], List.getElem?_eq_getElem hi, ?_⟩
    simp [Array.getD, hi]
  have fin : ∀ (l : List (Array UInt8 × Tok)), l = bs → wpAny (model prog w) A.in1 (do
      let sep ← Bytes.payload (Value.bytes #[] t)
      if Bytes.tooLong (Array.foldl (fun x1 x2 => x1 + x2.size) (sep.size * ((l.map (·.1)).toArray.size - 1)) (l.map (·.1)).toArray) = true then do
          unsupported (toString (toString Bytes.Kind.bytes.name ++ toString ".join") ++ toString ":memory")
          let result ← Bytes.Kind.bytes.new (Bytes.joined sep (l.map (·.1)).toArray.toList)
          holding (result :: List.flatMap (fun x => x.fst :: x.snd.toList) (l.map fun p => (Value.bytes p.1 p.2, (none : Option Value)))) point
          Bytes.joinLetGo (l.map fun p => (Value.bytes p.1 p.2, (none : Option Value))) [result]
          ret result
        else do
          let result ← Bytes.Kind.bytes.new (Bytes.joined sep (l.map (·.1)).toArray.toList)
          holding (result :: List.flatMap (fun x => x.fst :: x.snd.toList) (l.map fun p => (Value.bytes p.1 p.2, (none : Option Value)))) point
          Bytes.joinLetGo (l.map fun p => (Value.bytes p.1 p.2, (none : Option Value))) [result]
          ret result) (fun fin s' => match fin with
      | Fin.done f => (match (Except.ok f : Result) with | .ok (.ret v) => Q v s' | .ok _ => False | .error e => E e s')
      | Fin.again c' => c'.quiet = true ∧ codeAny (model prog w) A c' (fun r s' => match r with | .ok (.ret v) => Q v s' | .ok _ => False | .error e => E e s') s') (fun e s' => E e s') s := by
    rintro l rfl
    refine wpAny_bind ?_
    unfold Bytes.payload Bytes.payload?
    refine wpAny_bind (wpAny_pure (wpAny_pure ?_))
    refine bm_if_false ?_ ?_
    · unfold Bytes.tooLong
      refine decide_eq_false ?_
      refine Nat.not_lt.mpr (Nat.le_trans (Nat.le_of_eq ?_) hz)
      exact bj_size _
    · refine wpAny_bind ?_
      unfold Bytes.Kind.new
      refine wpAny_mkBytes ?_ hz
      refine wpAny_bind (wpAny_holding (wpAny_point ?_))
      exact wpAny_bind (bj_letGo _ _ (wpAny_pure (hQ _ _)))
  have turns : ∀ (f : Nat → (Array (Array UInt8) × List (Value × Option Value)) → Sem (ForInStep (Array (Array UInt8) × List (Value × Option Value)))) (K : (Array (Array UInt8) × List (Value × Option Value)) → Shared → Prop),
      (∀ i p pre, bs[i]? = some p → pre = bs.take i → ∀ K' : ForInStep (Array (Array UInt8) × List (Value × Option Value)) → Shared → Prop, K' (.yield (((pre.map (·.1)).toArray.push p.1), (pre.map fun p => (Value.bytes p.1 p.2, (none : Option Value))) ++ [(Value.bytes p.1 p.2, none)])) s → wpAny (model prog w) A.in1 (f i ((pre.map (·.1)).toArray, pre.map fun p => (Value.bytes p.1 p.2, (none : Option Value)))) K' (fun e s' => E e s') s) →
      K ((bs.map (·.1)).toArray, bs.map fun p => (Value.bytes p.1 p.2, (none : Option Value))) s →
      wpAny (model prog w) A.in1 (forIn [:(bs.map fun p => Value.bytes p.1 p.2).toArray.size] (#[], []) f) K (fun e s' => E e s') s := by
    intro f K hf hK
    rw [show (bs.map fun p => Value.bytes p.1 p.2).toArray.size = bs.length from by simp]
    rw [Std.Legacy.Range.forIn_eq_forIn_range']
    refine wpAny_forIn_list f (fun l b s' => s' = s ∧ ∃ i, i ≤ bs.length ∧ l = List.range' i (bs.length - i) ∧ b = (((bs.take i).map (·.1)).toArray, (bs.take i).map fun p => (Value.bytes p.1 p.2, (none : Option Value)))) K ?_ ?_ _ _ ⟨rfl, 0, Nat.zero_le _, by simp [Std.Legacy.Range.size], by simp⟩
    · rintro x rest b s' ⟨rfl, i, hi, hl', rfl⟩
      have hlt : i < bs.length := by
        rcases Nat.lt_or_ge i bs.length with h | h
        · exact h
        · have : bs.length - i = 0 := by omega
          rw [this] at hl'; cases hl'
      have hx : x = i ∧ rest = List.range' (i + 1) (bs.length - (i + 1)) := by
        have e : bs.length - i = (bs.length - (i + 1)) + 1 := by omega
        rw [e, List.range'_succ] at hl'
        exact ⟨(List.cons.inj hl').1, (List.cons.inj hl').2⟩
      obtain ⟨rfl, rfl⟩ := hx
      refine hf x bs[x] _ (List.getElem?_eq_getElem hlt) rfl _ ⟨rfl, x + 1, hlt, rfl, ?_⟩
      have e : bs.take (x + 1) = bs.take x ++ [bs[x]] := by rw [List.take_add_one, List.getElem?_eq_getElem hlt]; rfl
      rw [e, List.map_append, List.map_append]
      simp only [List.map_cons, List.map_nil, List.push_toArray]
    · rintro b s' ⟨rfl, i, hi, hl', rfl⟩
      have hin : i = bs.length := by
        rcases Nat.lt_or_ge i bs.length with h | h
        · have e : bs.length - i = (bs.length - (i + 1)) + 1 := by omega
          rw [e, List.range'_succ] at hl'; cases hl'
        · omega
      subst hin
      rw [List.take_length]
      exact hK
  rcases bs with _ | ⟨q, _ | ⟨q', r⟩⟩
  · refine wpAny_bind (turns _ _ ?_ (fin _ rfl))
    intro i p pre hp
    simp at hp
  · refine wpAny_bind (wpAny_typeOf (W.typeIs_bytes s q.1 q.2) ?_)
    refine bm_if_true rfl (wpAny_bind (wpAny_rule ?_))
    refine wpAny_pure ?_
    have := hQ q.2 s.toks
    rw [show Bytes.joined #[] ([q].map (·.1)) = q.1 from by simp [Bytes.joined]] at this
    exact this
  · refine wpAny_bind (turns _ _ ?_ (fin _ rfl))
    intro i p pre hp hpre K' hK'
    have hi := (List.getElem?_eq_some_iff.mp hp).1
    obtain ⟨p', hp', hg⟩ := hidx i hi
    rw [hp] at hp'
    cases hp'
    refine wpAny_bind (wpAny_seqItems ho hd ?_)
    dsimp only
    rw [hg]
    refine bm_if_false ?_ ?_
    · rw [Bool.or_eq_false_iff]
      refine ⟨rfl, ?_⟩
      rw [List.any_eq_false]
      intro x hx
      obtain ⟨y, _, rfl⟩ := List.mem_map.mp hx
      exact Bool.false_ne_true
    · refine wpAny_bind (wpAny_holding (bj_take ?_))
      refine wpAny_bind (wpAny_seqItems ho hd ?_)
      refine bm_if_false ?_ (wpAny_pure hK')
      simp
end
end
/-! part S8 -/
section
theorem bytes_all2 : ∀ {cs : List Int} {ys : List Value}, All2 (fun c y => ∃ b t, y = .bytes b t ∧ KBw.bInts b = encL c) cs ys → ∃ bs : List (Array UInt8 × Tok), ys = bs.map (fun p => Value.bytes p.1 p.2) ∧ bs.map (fun p => KBw.bInts p.1) = cs.map encL
  | _, _, .nil => ⟨[], rfl, rfl⟩
  | _, _, .cons ⟨b, t, e, h⟩ r => by
    obtain ⟨bs, h1, h2⟩ := bytes_all2 r
    exact ⟨(b, t) :: bs, by rw [e, h1]; rfl, by rw [List.map_cons, List.map_cons, h2]; congr 1⟩
theorem joined_ints (l : List (Array UInt8)) : KBw.bInts (Builtin.Bytes.joined #[] l) = (l.map KBw.bInts).flatten := by
  have fold : ∀ (l : List (Array UInt8)) (acc : Array UInt8) (i : Nat), KBw.bInts ((l.zipIdx i).foldl (fun out (p : Array UInt8 × Nat) => (if p.2 > 0 then out ++ (#[] : Array UInt8) else out) ++ p.1) acc) = KBw.bInts acc ++ (l.map KBw.bInts).flatten := by
    intro l
    induction l with
    | nil => intro acc i; simp
    | cons x r ih =>
      intro acc i
      rw [List.zipIdx_cons, List.foldl_cons, ih, List.map_cons, List.flatten_cons, ← List.append_assoc]
      congr 1
      have e : (if i > 0 then acc ++ (#[] : Array UInt8) else acc) = acc := by split <;> simp
      dsimp only
      rw [e]
      exact KBw.ints_app rfl rfl
  have := fold l #[] 0
  unfold Builtin.Bytes.joined
  refine this.trans ?_
  rfl
theorem encL_len (c : Int) : (encL c).length ≤ 4 := by
  unfold encL
  (repeat' split) <;> simp
theorem encs_len : ∀ cs : List Int, (cs.map encL).flatten.length ≤ 4 * cs.length
  | [] => by simp
  | c :: r => by
    rw [List.map_cons, List.flatten_cons, List.length_append, List.length_cons]
    have := encL_len c
    have := encs_len r
    omega
theorem bj_K {prog : Program} {w : World} {A : Around} {E : Value → Shared → Prop} {s : Shared} {h₀ : Heap} {L : Addr} {m : Str → Option Value} {news : List (Addr × Obj)} {D : Addr} {o : Obj} {k : Nat} {t : Tok} {ys : List Value} {cs : List Int} {Q : Value → Shared → Prop}
    (F : Fr h₀ L s.heap m) (N : News h₀ L s.heap news) (hm : (D, o) ∈ news) (hc : o.cls = .type "list") (hd : o.data = .seq ys.toArray k)
    (hy : All2 (fun c y => ∃ b t, y = .bytes b t ∧ KBw.bInts b = encL c) cs ys) (hlen : cs.length ≤ 64) (h : ∀ b t' k', Fr h₀ L s.heap m → News h₀ L s.heap news → KBw.bInts b = (cs.map encL).flatten → Q (.bytes b t') { s with toks := k' }) :
    wpAny (model prog w) A (call (.builtin "bytes.join") [.bytes #[] t, .ref D]) Q E s := by
  obtain ⟨bs, rfl, h2⟩ := bytes_all2 hy
  have e : KBw.bInts (Builtin.Bytes.joined #[] (bs.map (·.1))) = (cs.map encL).flatten := by
    rw [joined_ints, List.map_map, ← h2]
    rfl
  refine bj_call ⟨o, (N _ hm).1, hc, k, hd⟩ ?_ fun t' k' => h _ t' k' F N e
  rw [← KBw.ints_length, e]
  have := encs_len cs
  rw [sizeLine_eq]
  omega
theorem bj_method {M : Model} {A : Around} {E : Value → Shared → Prop} {s : Shared} {b : Array UInt8} {t : Tok} {pl : Sem Bool} {Q : Value × List Value → Shared → Prop} (h : Q (.builtin "bytes.join", [.bytes b t]) s) : wpAny M A (getMethod (.bytes b t) "join" pl) Q E s := by
  with_reducible exact KBd.method_of (.bytes b t) (typeIs_bytes _ _ _) Bj.slot_join Bj.type_join KBd.noRef h
section
theorem joined_codes_pu (w : World) (l : Addr) (vs : List Value) (cs : List Int) (hi : IntsAre vs cs) (hc : ∀ c ∈ cs, -256 ≤ c ∧ c < 1114112) (hlen : cs.length ≤ 64) : Pu w 147 [.ref l] 4 32 (fun h => h.IsList l vs.toArray) (fun _ _ r => BytesOut ((cs.map encL).flatten) r) := by
  w_top off
  (
      unfold Pu
      k_fill
      intro mean mg mb dp un gd cn cs a ccd cl outer A₀ base h₀ L m s Q E B F X T hk hpre hd hu hret
      refine wpAny_call ?_
      k_dflt (refine' pu_enter B F X T ?kA ?kF ?kK ?k6 ?k7 ?k8 ?k9 ?kB ?_ ?c2 ?c3 ?c4 ?c5; (case kA => exact rfl); (case kF => exact rfl); (case kK => assumption); (case k6 => k_is); (case k7 => k_is); (case k8 => ktr_room); (case k9 => exact BindsTo.of_eq rfl); (case c5 => decide); (case kB => exact locs rfl); (case c2 => exact rfl); (case c3 => exact rfl); (case c4 => exact rfl); k_whole)
      clear B F X T
      intro L' h' F' N' B' X' T'
      (try dsimp only)
      (try k_fold))
  k_with_none
  k_with "exec Assign" => k_fold
  k_with "exec Expr" => k_fold
  k_with "exec If" => k_fold
  k_with "exec Return" => k_fold
  k_with "exec AugAssign" => k_fold
  k_with "eval Call" => k_fold
  k_with "eval Compare" => k_fold
  k_with "isTrue Compare" => k_fold
  k_with "eval BinOp" => k_fold
  k_with "eval Subscript" => k_fold
  k_with "eval Tuple" => k_fold
  k_with "eval List" => k_fold
  k_with "eval BoolOp" => k_fold
  k_with "isTrue BoolOp Or" => k_fold
  k_with "isTrue BoolOp" => k_fold
  k_with "eval ListComp" => k_fold
  k_with "execs cons" => k_fold
  k_with "call ref" => ((k_here; first
      | (refine' Pu.use (encoded_pu _ _ _ ?h0 ?h1) ?k1 ?k2 ?k3 ?k4 ?k5 ?kK ?kp ?kd ?ku ?_; (case h0 => first | omega | exact (hc _ (by assumption)).1); (case h1 => first | omega | exact (hc _ (by assumption)).2); ((case k1 => k_asm); (case k2 => k_asm); (case k3 => k_asm); (case k4 => k_asm); (case k5 => k_asm); (case kK => first | exact rfl | assumption); (try (case kp => exact trivial)); (case kd => ktr_room); (case ku => ktr_units)); intro r9 h9 tk9 F9 N9 e9 o9; (refine Exists.elim o9 ?_; clear o9; intro b9 o9; refine Exists.elim o9 ?_; clear o9; intro t9 o9; have hb9 := o9.2; have er9 := o9.1; clear o9; subst er9); (try dsimp only); (try k_fold))))
  k_with "getMethod bytes" => ((k_here; (with_reducible refine bj_method ?_)))
  k_with "CompSrc" => ((k_here; k_dflt (refine LCg.CompSrc.base (by rfl) (by k_asm) (by k_asm) (by assumption) (by kcf_size) ?_; intro g'; refine' cg_list (fun c y => ∃ b t, y = Value.bytes b t ∧ KBw.bInts b = encL c) (by assumption) (fun k' t' I' oI' C' oC' D' m' ys' h' tk' E' hk' hC' hx' F' N' off' ne' => ?_) (fun ys9 hys9 => ?_); (all_goals (try (simp only [LCg.Off3, and_true] at off'))); kcf_last)))
  k_with "CompEnd" => ((refine' LCg.CompEnd.intro ?cF ?cN _ ?ca ?co ?cs ⟨rfl, ?_⟩; (case cF => assumption); (case cN => assumption); (case ca => kcf_all); (case co => first | assumption | (simp only [LCg.Off3, and_true]; done) | (simp only [LCg.Off3, and_true]; assumption)); (case cs => first | lcg_src | assumption)))
  k_with "call builtin:bytes.join" => ((k_here; (refine' bj_K ?aF ?aN ?am ?ac ?ad (by assumption) ?al ?_; (case aF => k_asm); (case aN => k_asm); (case am => k_mem); (case ac => rfl); (case ad => rfl); (case al => omega)); intro b9 t9 tk9 F9 N9 hb9))
  have hvl := hi.length
  k_steps
  all_goals ((refine' hret _ _ _ (Fr.keep ?kfr) ?_; (case kfr => k_asm)); exact ⟨_, _, rfl, by assumption⟩)
end
end
/-! part G1 -/
section
open PySem PySem.W PyProof.Rows PySem.Spec PySem.Calls PyProof.V
section
variable {prog : Program} {w : World} {A : Around} {h₀ : Heap} {L : Addr} {m : Str → Option Value} {env : Env} {ct elt : PySem.Expr} {x : Str} {scope : Scope} {cl : List (Str × Addr)} {s : Shared} {S : List (Addr × Obj) → Prop} {P : Nat → Value → Prop} {Fin : List Value → List (Addr × Obj) → Prop} {news : List (Addr × Obj)}
/-- what the items of a list with objects of their own are: tl bears the objects -/
noncomputable abbrev AllT {α : Type} (G : α → Value → List (Addr × Obj) → Prop) (l : List α) (ys : List Value) (tl : List (Addr × Obj)) : Prop := All2 (fun a v => ∃ q, (∀ e ∈ q, e ∈ tl) ∧ G a v q) l ys
theorem AllT.grow {α : Type} {G : α → Value → List (Addr × Obj) → Prop} {l : List α} {ys : List Value} {tl tl' : List (Addr × Obj)} (h : AllT G l ys tl) (k : ∀ e ∈ tl, e ∈ tl') : AllT G l ys tl' :=
  All2.imp (fun _ _ ⟨q, h1, h2⟩ => ⟨q, fun e he => k e (h1 e he), h2⟩) h
/-- a comprehension with a test, whose items may be made -/
theorem ct_rest {α : Type} {n : Nat} {l : List α} (p : α → Bool) (G : α → Value → List (Addr × Obj) → Prop) (src : α → Value → Prop) (hl : l.length = n) (hP : ∀ i v, i < n → P i v → ∃ a, l[i]? = some a ∧ src a v)
    (turn : ∀ a v I oI C oC D m₂ ys tl h tk (E' : Value → Shared → Prop), a ∈ l → src a v → LCg.NsObj oC m₂ → m₂ x = some v → Fr h₀ L h m → News h₀ L h ((I, oI) :: (C, oC) :: (D, LCg.lst ys) :: (news ++ tl)) → LCg.Off3 I C D (news ++ tl) → ((@Ne Nat I C) ∧ (@Ne Nat I D) ∧ (@Ne Nat C D)) →
      wpAny (model prog w) A (isTrue ct (compEnvC scope cl C env) (eval ct (compEnvC scope cl C env))) (fun b s' => if b = true then wpAny (model prog w) A (eval elt (compEnvC scope cl C env)) (LCg.CompEnd h₀ L m { s with heap := h, toks := tk } I oI C oC D (LCg.lst ys) S (fun y news' => p a = true ∧ ∃ q, news' = news ++ (tl ++ q) ∧ G a y q)) E' s'
        else LCg.CompEnd h₀ L m { s with heap := h, toks := tk } I oI C oC D (LCg.lst ys) S (fun _ news' => p a = false ∧ news' = news ++ tl) Value.none s') E' { s with heap := h, toks := tk })
    (fin : ∀ ys tl, AllT G (l.filter p) ys tl → Fin ys (news ++ tl)) : LCt.CompRestT prog w A h₀ L m env ct elt x scope cl s S P Fin n 0 [] news := by
  have key : ∀ (j i : Nat) (ys : List Value) (tl : List (Addr × Obj)), i + j = n → AllT G ((l.take i).filter p) ys tl → LCt.CompRestT prog w A h₀ L m env ct elt x scope cl s S P Fin j i ys (news ++ tl) := by
    intro j
    induction j with
    | zero =>
      intro i ys tl hi hy
      have e : i = l.length := by omega
      subst e
      rw [List.take_length] at hy
      exact LCt.CompRestT.zero (fin ys tl hy)
    | succ j ih =>
      intro i ys tl hi hy
      refine LCt.CompRestT.succ ?_
      intro v I oI C oC D m₂ h tk E' hv hC hx F N off ne
      obtain ⟨a, ha, hs⟩ := hP i v (by omega) hv
      have ht : l.take (i + 1) = l.take i ++ [a] := by rw [List.take_add_one, ha]; rfl
      refine wpAny_mono (turn a v I oI C oC D m₂ ys tl h tk E' (List.mem_of_getElem? ha) hs hC hx F N off ne) (fun b s₂ hq => ?_) fun _ _ e => e
      cases b with
      | true =>
        simp only [if_true] at hq ⊢
        refine wpAny_mono hq (fun y s₃ hr => ?_) fun _ _ e => e
        obtain ⟨h', tk', nw, e, F', N', off', hS, hp, q, hn, hG⟩ := hr
        rw [hn] at N' off' hS
        refine ⟨h', tk', _, e, F', N', off', hS, ih (i + 1) _ _ (by omega) ?_⟩
        rw [ht, List.filter_append]
        have e2 : [a].filter p = [a] := by simp [hp]
        rw [e2]
        exact All2.snoc (AllT.grow hy fun e he => List.mem_append_left _ he) ⟨q, fun e he => List.mem_append_right _ he, hG⟩
      | false =>
        simp only [Bool.false_eq_true, if_false] at hq ⊢
        obtain ⟨h', tk', nw, e, F', N', off', hS, hp, hn⟩ := hq
        rw [hn] at N' off' hS
        refine ⟨h', tk', _, e, F', N', off', hS, ih (i + 1) _ _ (by omega) ?_⟩
        rw [ht, List.filter_append]
        have e2 : [a].filter p = [] := by simp [hp]
        rw [e2, List.append_nil]
        exact hy
  have h0 := key n 0 [] [] (by omega) (by rw [List.take_zero]; exact .nil)
  rw [List.append_nil] at h0
  exact h0
end
theorem off1_sub {D : Addr} {news news' : List (Addr × Obj)} (o : LCg.Off1 D news) (k : ∀ p ∈ news', p ∈ news) : LCg.Off1 D news' := by
  have mem : ∀ {l : List (Addr × Obj)}, LCg.Off1 D l → ∀ p ∈ l, @Ne Nat p.1 D := by
    intro l
    induction l with
    | nil => intro _ p hp; exact nomatch hp
    | cons q r ih =>
      intro hl p hp
      rcases List.mem_cons.mp hp with rfl | hp
      · exact hl.1
      · exact ih hl.2 p hp
  have of : ∀ {l : List (Addr × Obj)}, (∀ p ∈ l, @Ne Nat p.1 D) → LCg.Off1 D l := by
    intro l
    induction l with
    | nil => intro _; trivial
    | cons q r ih => intro hl; exact ⟨hl q List.mem_cons_self, ih fun p hp => hl p (List.mem_cons_of_mem _ hp)⟩
  exact of fun p hp => mem o p (k p hp)
theorem finA_drop {h₀ : Heap} {L : Addr} {m : Str → Option Value} {s : Shared} {y : Str} {Q : Flow → Shared → Prop} {ys : List Value} {news news' : List (Addr × Obj)} (h : LCg.FinA h₀ L m s y Q ys news') (k : ∀ p ∈ news', p ∈ news) : LCg.FinA h₀ L m s y Q ys news := by
  intro D h tk F N o
  refine ‹LCg.FinA h₀ L m s y Q ys news'› D h tk F (fun p hp => N p ?_) (off1_sub o k)
  rcases List.mem_cons.mp hp with rfl | hp
  · exact List.mem_cons_self
  · exact List.mem_cons_of_mem _ (k p hp)
theorem finE_drop {h₀ : Heap} {L : Addr} {m : Str → Option Value} {s : Shared} {Q : Value → Shared → Prop} {ys : List Value} {news news' : List (Addr × Obj)} (h : LCg.FinE h₀ L m s Q ys news') (k : ∀ p ∈ news', p ∈ news) : LCg.FinE h₀ L m s Q ys news := by
  intro D h tk F N o
  refine ‹LCg.FinE h₀ L m s Q ys news'› D h tk F (fun p hp => N p ?_) (off1_sub o k)
  rcases List.mem_cons.mp hp with rfl | hp
  · exact List.mem_cons_self
  · exact List.mem_cons_of_mem _ (k p hp)
end
/-! part S9a -/
section
noncomputable def sizes (o : Int) : Int × Int × Int :=
  if 0 ≤ o ∧ o ≤ 127 then (1, 0, 0) else if 194 ≤ o ∧ o ≤ 223 then (2, 128, 191) else if o = 224 then (3, 160, 191) else if 225 ≤ o ∧ o ≤ 236 then (3, 128, 191) else if o = 237 then (3, 128, 159)
  else if 238 ≤ o ∧ o ≤ 239 then (3, 128, 191) else if o = 240 then (4, 144, 191) else if 241 ≤ o ∧ o ≤ 243 then (4, 128, 191) else if o = 244 then (4, 128, 143) else (0, 0, 0)
noncomputable abbrev tupO (vs : List Value) : Obj := { cls := .type "tuple", data := .seq vs.toArray 0 }
noncomputable abbrev Rw := Int × Int × Int × Int × Int
noncomputable def rowsP (o lo hi : Int) : Bool := decide (lo ≤ o) && decide (o ≤ hi)
noncomputable abbrev SzG (r : Addr × Rw) (y : Value) (q : List (Addr × Obj)) : Prop := ∃ T u1 u2 u3, y = .ref T ∧ q = [(T, tupO [.int r.2.2.2.1 u1, .int r.2.2.2.2.1 u2, .int r.2.2.2.2.2 u3])]
noncomputable abbrev RwIn (news : List (Addr × Obj)) (r : Addr × Rw) : Prop := ∃ t1 t2 t3 t4 t5, (r.1, tupO [.int r.2.1 t1, .int r.2.2.1 t2, .int r.2.2.2.1 t3, .int r.2.2.2.2.1 t4, .int r.2.2.2.2.2 t5]) ∈ news
inductive IntsE : List PySem.Expr → List Int → Prop
  | nil : IntsE [] []
  | cons {es : List PySem.Expr} {ns : List Int} {i : Int} {k : Nat} {p : Pos} : IntsE es ns → IntsE (.Constant (.int i) k p :: es) (i :: ns)
inductive RowsE : List PySem.Expr → List Rw → Prop
  | nil : RowsE [] []
  | cons {es es' : List PySem.Expr} {tb : List Rw} {a b c d e : Int} {k : Nat} {p : Pos} : IntsE es' [a, b, c, d, e] → RowsE es tb → RowsE (.Tuple es' k p :: es) ((a, b, c, d, e) :: tb)
theorem args_ints {M : PySem.Model} {A : Around} {E : Value → Shared → Prop} {env : Env} {pos : Pos} {es : List PySem.Expr} {ns : List Int} (hE : IntsE es ns) : ∀ {s : Shared} {Q : List Value → Shared → Prop}, (∀ vs tk, IntsAre vs ns → Q vs { s with toks := tk }) → wpAny M A (spliced (backTo pos (starEach es env))) Q E s := by
  induction hE with
  | nil => exact fun h => args_nil (h [] _ .nil)
  | cons _ ih => exact fun h => args_cons (wpAny_Constant_int (ih fun vs tk hv => h _ tk (.cons _ _ hv))) rfl
theorem ints5 {a b c d e : Int} {us : List Value} (h : IntsAre us [a, b, c, d, e]) : ∃ t1 t2 t3 t4 t5, us = [.int a t1, .int b t2, .int c t3, .int d t4, .int e t5] := by
  obtain ⟨t1, v1, e1, h1⟩ := h.cons_inv
  obtain ⟨t2, v2, e2, h2⟩ := h1.cons_inv
  obtain ⟨t3, v3, e3, h3⟩ := h2.cons_inv
  obtain ⟨t4, v4, e4, h4⟩ := h3.cons_inv
  obtain ⟨t5, v5, e5, h5⟩ := h4.cons_inv
  rw [e1, e2, e3, e4, e5, h5.nil_inv]
  exact ⟨t1, t2, t3, t4, t5, rfl⟩
theorem rows_eval {M : PySem.Model} {A : Around} {E : Value → Shared → Prop} {env : Env} {pos : Pos} {h₀ : Heap} {L : Addr} {m : Str → Option Value} {es : List PySem.Expr} {tb : List Rw} (hE : RowsE es tb) : ∀ {s : Shared} {news : List (Addr × Obj)} {Q : List Value → Shared → Prop}, Fr h₀ L s.heap m → News h₀ L s.heap news →
    (∀ (l : List (Addr × Rw)) h' tk nw, Fr h₀ L h' m → News h₀ L h' nw → (∀ p ∈ news, p ∈ nw) → l.map (·.2) = tb → (∀ r ∈ l, RwIn nw r) → Q (l.map fun r => .ref r.1) { s with heap := h', toks := tk }) → wpAny M A (spliced (backTo pos (starEach es env))) Q E s := by
  induction hE with
  | nil => exact fun F N h => args_nil (h [] _ _ _ F N (fun _ h => h) rfl fun _ h => nomatch h)
  | cons ti _ ih =>
    refine fun F N h => args_cons (Tuple_ (args_ints ti fun vs tk hv => kup_newTuple F N (fun D h' F' N' _ => ih F' N' fun l h'' tk' nw F'' N'' hs hl hm => ?_) (by rw [hv.length]; exact Nat.le_of_ble_eq_true rfl))) rfl
    obtain ⟨t1, t2, t3, t4, t5, rfl⟩ := ints5 hv
    exact h ((D, _) :: l) h'' tk' nw F'' N'' (fun p hp => hs p (.tail _ hp)) (congrArg (_ :: ·) hl) fun r hr => (List.mem_cons.mp hr).elim (fun e => by subst e; exact ⟨t1, t2, t3, t4, t5, hs _ (.head _)⟩) (hm r)
section
variable {prog : Program} {w : World} {A : Around} {h₀ : Heap} {L : Addr} {m : Str → Option Value} {env : Env} {ct elt : PySem.Expr} {x : Str} {scope : Scope} {cl : List (Str × Addr)} {s : Shared} {S : List (Addr × Obj) → Prop} {Fin : List Value → List (Addr × Obj) → Prop} {news : List (Addr × Obj)}
theorem sz_rest (o : Int) (c : Addr) {oc : Obj} (hcell : (c, oc) ∈ news) (l : List (Addr × Rw)) (hS : ∀ q, S (news ++ q)) (hm : ∀ r ∈ l, RwIn news r)
    (turn : ∀ a lo hi sz lw hg t1 t2 t3 t4 t5 I oI C oC D m₂ N9 ys h tk (E' : Value → Shared → Prop), LCg.NsObj oC m₂ → m₂ x = some (.ref a) → Fr h₀ L h m → News h₀ L h ((a, tupO [.int lo t1, .int hi t2, .int sz t3, .int lw t4, .int hg t5]) :: (c, oc) :: (I, oI) :: (C, oC) :: (D, LCg.lst ys) :: N9) → (∀ q, S (N9 ++ q)) → LCg.Off3 I C D N9 → ((@Ne Nat I C) ∧ (@Ne Nat I D) ∧ (@Ne Nat C D)) →
      wpAny (model prog w) A (isTrue ct (compEnvC scope cl C env) (eval ct (compEnvC scope cl C env))) (fun b s' => if b = true then wpAny (model prog w) A (eval elt (compEnvC scope cl C env)) (LCg.CompEnd h₀ L m { s with heap := h, toks := tk } I oI C oC D (LCg.lst ys) S (fun y news' => rowsP o lo hi = true ∧ ∃ T u1 u2 u3, y = .ref T ∧ news' = N9 ++ [(T, tupO [.int sz u1, .int lw u2, .int hg u3])])) E' s'
        else LCg.CompEnd h₀ L m { s with heap := h, toks := tk } I oI C oC D (LCg.lst ys) S (fun _ news' => rowsP o lo hi = false ∧ news' = N9) Value.none s') E' { s with heap := h, toks := tk })
    (fin : ∀ ys tl, AllT SzG (l.filter fun r => rowsP o r.2.1 r.2.2.1) ys tl → Fin ys (news ++ tl)) : LCt.CompRestT prog w A h₀ L m env ct elt x scope cl s S (fun i v => (l.map fun r => Value.ref r.1).toArray[i]? = some v) Fin (l.map fun r => Value.ref r.1).toArray.size 0 [] news := by
  refine ct_rest (fun r => rowsP o r.2.1 r.2.2.1) SzG (fun r v => v = .ref r.1) (by rw [List.size_toArray, List.length_map]) ?_ ?_ fin
  · intro i v _ hv
    rw [List.getElem?_toArray, List.getElem?_map, Option.map_eq_some_iff] at hv
    obtain ⟨r, hr, e⟩ := hv
    exact ⟨r, hr, e.symm⟩
  · rintro ⟨a, lo, hi, sz, lw, hg⟩ v I oI C oC D m₂ ys tl h tk E' hr rfl hC hx F N off ne
    obtain ⟨t1, t2, t3, t4, t5, hmem⟩ := hm _ hr
    have N2 : News h₀ L h ((a, tupO [.int lo t1, .int hi t2, .int sz t3, .int lw t4, .int hg t5]) :: (c, oc) :: (I, oI) :: (C, oC) :: (D, LCg.lst ys) :: (news ++ tl)) := by
      intro p hp
      rcases List.mem_cons.mp hp with rfl | hp
      · exact N _ (.tail _ (.tail _ (.tail _ (List.mem_append_left _ hmem))))
      rcases List.mem_cons.mp hp with rfl | hp
      · exact N _ (.tail _ (.tail _ (.tail _ (List.mem_append_left _ hcell))))
      · exact N _ hp
    refine wpAny_mono (turn a lo hi sz lw hg t1 t2 t3 t4 t5 I oI C oC D m₂ (news ++ tl) ys h tk E' hC hx F N2 (fun q => by rw [List.append_assoc]; exact hS _) off ne) (fun b s₂ hq => ?_) fun _ _ e => e
    cases b with
    | true =>
      rw [if_pos rfl] at hq ⊢
      refine wpAny_mono hq (fun y s₃ hr => ?_) fun _ _ e => e
      obtain ⟨h', tk', nw, e, F', N', off', hS, hp, T, u1, u2, u3, hy, hn⟩ := hr
      exact ⟨h', tk', nw, e, F', N', off', hS, hp, _, by rw [hn, List.append_assoc], T, u1, u2, u3, hy, rfl⟩
    | false => exact hq
end
theorem rwIn_more {nw : List (Addr × Obj)} {q : Addr × Obj} {l : List (Addr × Rw)} (h : ∀ r ∈ l, RwIn nw r) : ∀ r ∈ l, RwIn (q :: nw) r := fun r hr => by
  obtain ⟨t1, t2, t3, t4, t5, hm⟩ := h r hr
  exact ⟨t1, t2, t3, t4, t5, .tail _ hm⟩
noncomputable def szT (o : Int) : List Rw → Int × Int × Int
  | [] => (0, 0, 0)
  | (lo, hi, p) :: l => if lo ≤ o ∧ o ≤ hi then p else szT o l
noncomputable def okT : Int → List Rw → Bool
  | _, [] => true
  | b, (lo, hi, _) :: l => decide (b < lo) && (decide (lo ≤ hi) && okT hi l)
theorem okT_cons {b lo hi : Int} {p : Int × Int × Int} {l : List Rw} (h : okT b ((lo, hi, p) :: l) = true) : b < lo ∧ lo ≤ hi ∧ okT hi l = true :=
  have h' := Bool.and_eq_true_iff.mp h
  have h'' := Bool.and_eq_true_iff.mp h'.2
  ⟨of_decide_eq_true h'.1, of_decide_eq_true h''.1, h''.2⟩
theorem szL_low {o : Int} : ∀ (l : List (Addr × Rw)) (b : Int), okT b (l.map (·.2)) = true → o ≤ b → l.filter (fun r => rowsP o r.2.1 r.2.2.1) = []
  | [], _, _, _ => rfl
  | (a, lo, hi, p) :: l, b, h, hb => by
    obtain ⟨h1, h2, h3⟩ := okT_cons h
    have h4 : ¬ lo ≤ o := by omega
    rw [List.filter_cons_of_neg (by unfold rowsP; rw [decide_eq_false h4]; exact Bool.false_ne_true)]
    exact szL_low l hi h3 (by omega)
theorem szL_fin {o : Int} {ys : List Value} {tl : List (Addr × Obj)} : ∀ (l : List (Addr × Rw)) (b : Int), okT b (l.map (·.2)) = true → AllT SzG (l.filter fun r => rowsP o r.2.1 r.2.2.1) ys tl →
    (ys = [] ∧ szT o (l.map (·.2)) = (0, 0, 0)) ∨ ∃ T u1 u2 u3, ys = [.ref T] ∧ (T, tupO [.int (szT o (l.map (·.2))).1 u1, .int (szT o (l.map (·.2))).2.1 u2, .int (szT o (l.map (·.2))).2.2 u3]) ∈ tl
  | [], _, _, h => by
    cases h
    exact .inl ⟨rfl, rfl⟩
  | (a, lo, hi, p) :: l, b, h, ha => by
    obtain ⟨_, _, h3⟩ := okT_cons h
    by_cases c : lo ≤ o ∧ o ≤ hi
    · rw [List.filter_cons_of_pos (by unfold rowsP; rw [decide_eq_true c.1, decide_eq_true c.2]; rfl), szL_low l hi h3 c.2] at ha
      rw [show szT o (((a, lo, hi, p) :: l).map (·.2)) = p from if_pos c]
      cases ha with
      | cons h1 h2 =>
        cases h2
        obtain ⟨q, hq, T, u1, u2, u3, hy, hq'⟩ := h1
        exact .inr ⟨T, u1, u2, u3, by rw [hy], hq _ (by rw [hq']; exact List.mem_singleton.mpr rfl)⟩
    · rw [List.filter_cons_of_neg (by unfold rowsP; rw [Bool.and_eq_true_iff, decide_eq_true_iff, decide_eq_true_iff]; exact c)] at ha
      rw [show szT o (((a, lo, hi, p) :: l).map (·.2)) = szT o (l.map (·.2)) from if_neg c]
      exact szL_fin l hi h3 ha
noncomputable abbrev tblT : List Rw := [(0, 127, 1, 0, 0), (194, 223, 2, 128, 191), (224, 224, 3, 160, 191), (225, 236, 3, 128, 191), (237, 237, 3, 128, 159), (238, 239, 3, 128, 191), (240, 240, 4, 144, 191), (241, 243, 4, 128, 191), (244, 244, 4, 128, 143)]
theorem eq_rng (o k : Int) : (k ≤ o ∧ o ≤ k) = (o = k) := propext ⟨fun h => Int.le_antisymm h.2 h.1, fun h => by subst h; exact ⟨Int.le_refl _, Int.le_refl _⟩⟩
theorem szT_sizes {o : Int} : szT o tblT = sizes o := by
  unfold sizes
  simp only [szT, eq_rng]
theorem sz_fin {o : Int} {l : List (Addr × Rw)} {ys : List Value} {tl : List (Addr × Obj)} (hl : l.map (·.2) = tblT) (h : AllT SzG (l.filter fun r => rowsP o r.2.1 r.2.2.1) ys tl) :
    (ys = [] ∧ sizes o = (0, 0, 0)) ∨ ∃ T u1 u2 u3, ys = [.ref T] ∧ (T, tupO [.int (sizes o).1 u1, .int (sizes o).2.1 u2, .int (sizes o).2.2 u3]) ∈ tl := by
  have := szL_fin l (-1) (by rw [hl]; decide) h
  rwa [hl, szT_sizes] at this
theorem tbl_len {l : List (Addr × Rw)} (hl : l.map (·.2) = tblT) : (l.map fun r => Value.ref r.1).length = 9 := by
  rw [List.length_map, ← List.length_map (f := fun r : Addr × Rw => r.2), hl]; rfl
end
/-! part S9 -/
section
noncomputable def Tup3Out (p : Int × Int × Int) (h h' : Heap) (r : Value) : Prop := ∃ T u1 u2 u3, r = .ref T ∧ h.get? T = none ∧ h'.get? T = some (tupO [.int p.1 u1, .int p.2.1 u2, .int p.2.2 u3])
theorem off3_snoc {I C D T : Addr} {o : Obj} {news : List (Addr × Obj)} (h : LCg.Off3 I C D news) (k : @Ne Nat T I ∧ @Ne Nat T C ∧ @Ne Nat T D) : LCg.Off3 I C D (news ++ [(T, o)]) := by
  refine LCg.Off3.of fun p hp => ?_
  rcases List.mem_append.mp hp with hp | hp
  · exact h.mem p hp
  · rw [List.mem_singleton.mp hp]; exact k
theorem rowsF1 {o lo hi : Int} (h : ¬ lo ≤ o) : rowsP o lo hi = false := by unfold rowsP; rw [decide_eq_false h, Bool.false_and]
theorem rowsF2 {o lo hi : Int} (h : ¬ o ≤ hi) : rowsP o lo hi = false := by unfold rowsP; rw [decide_eq_false h, Bool.and_false]
theorem rowsT {o lo hi : Int} (h : lo ≤ o) (h' : o ≤ hi) : rowsP o lo hi = true := by unfold rowsP; rw [decide_eq_true h, decide_eq_true h']; rfl
theorem slice_two {prog : Program} {w : World} {A : Around} {E : Value → Shared → Prop} {s : Shared} {h₀ : Heap} {L t : Addr} {m : Str → Option Value} {news : List (Addr × Obj)} {value slice : PySem.Expr} {v1 v2 v3 v4 v5 : Value} {u : Tok} {Q : Value → Shared → Prop}
    (F : Fr h₀ L s.heap m) (N : News h₀ L s.heap news) (hm : (t, tupO [v1, v2, v3, v4, v5]) ∈ news)
    (h : ∀ D h', Fr h₀ L h' m → News h₀ L h' ((D, tupO [v3, v4, v5]) :: news) → (∀ p ∈ news, p.1 < D) → Q (.ref D) { s with heap := h' })
    (hs : subscripted slice false (.ref t) (.ref s.heap.objs.size) = operate [.ref s.heap.objs.size, .ref t] (getItem (.ref t) (.ref s.heap.objs.size)) := by with_unfolding_all rfl)
    (hg : ∀ r, letTemporaryGo value (.ref t) r = pure () := by intro _; with_unfolding_all rfl) :
    wpAny (model prog w) A (subscriptTail value slice (.ref t) (.ref s.heap.objs.size)) Q E { s with heap := s.heap.push { cls := .type "slice", data := .fields #[.int 2 u, .none, .none] } } := by
  refine slice_tuple_from (a := 2) F N (N.isTup hm) (by decide) (Nat.le_of_ble_eq_true rfl) (fun h' F' N' => h _ h' F' N' fun p hp => ?_) hs hg (Nat.le_of_ble_eq_true rfl)
  exact Nat.lt_succ_of_lt (Heap.lt_size (N p hp).1)
theorem tup3_end {h h' : Heap} {L T : Addr} {p : Int × Int × Int} {u1 u2 u3 : Tok} {news : List (Addr × Obj)} (N : News h L h' news) (hm : (T, tupO [.int p.1 u1, .int p.2.1 u2, .int p.2.2 u3]) ∈ news) : Tup3Out p h h' (.ref T) :=
  ⟨T, u1, u2, u3, rfl, (new_none N hm).1, (new_none N hm).2⟩
section
theorem law_sizes_pu (w : World) (o : Int) (t : Tok) (h0 : 0 ≤ o) (h1 : o < 256) : Pu w 173 [.int o t] 2 90 (fun _ => True) (fun h h' r => Tup3Out (sizes o) h h' r) := by
  w_top off
  (
      unfold Pu
      k_fill
      intro mean mg mb dp un gd cn cs a ccd cl outer A₀ base h₀ L m s Q E B F X T hk hpre hd hu hret
      refine wpAny_call ?_
      k_dflt (refine' pu_enterC B F X T ?kA ?kF ?kK ?k6 ?k7 ?k8 ?k9 ?kB ?kD ?_ ?c2 ?c3 ?c4; (case kA => exact rfl); (case kF => exact rfl); (case kK => assumption); (case k6 => k_is); (case k7 => k_is); (case k8 => ktr_room); (case k9 => exact BindsTo.of_eq rfl); (case kB => exact rfl); (case kD => decide +kernel); (case c2 => exact rfl); (case c3 => exact rfl); (case c4 => exact rfl); k_whole)
      clear B F X T
      intro L' h' tk' cells' F' N' Y' B' X' T' l1
      clear l1
      k_cells Y'
      (try simp only [List.cons_append, List.nil_append, List.append_nil] at N')
      (try dsimp only)
      (try k_fold))
  k_with_none
  k_with "exec Assign" => k_fold
  k_with "exec Expr" => k_fold
  k_with "exec If" => k_fold
  k_with "exec Return" => k_fold
  k_with "exec AugAssign" => k_fold
  k_with "eval Call" => k_fold
  k_with "eval Compare" => k_fold
  k_with "isTrue Compare" => k_fold
  k_with "eval BinOp" => k_fold
  k_with "eval Subscript" => k_fold
  k_with "eval Tuple" => k_fold
  k_with "eval BoolOp" => k_fold
  k_with "isTrue BoolOp Or" => k_fold
  k_with "isTrue BoolOp" => k_fold
  k_with "eval ListComp" => k_fold
  k_with "execs cons" => k_fold
  k_with "subscriptTail Name Slice ref ref" => ((k_here; (with_unfolding_all refine slice_two (s := ⟨_, _, _, _, _⟩) (by k_asm) (by k_asm) (by k_mem) ?_); intro D9' h9' F9' N9' l9'))
  k_with "CompEnd" => (first
      | (refine' LCg.CompEnd.intro ?cF ?cN N9 ?ca off' ?cs ⟨?cp, rfl⟩; (case cF => assumption); (case cN => assumption); (case ca => kcf_all); (case cs => (have hS9 := hS' []; rwa [List.append_nil] at hS9)); (case cp => first | exact rowsF1 (by assumption) | exact rowsF2 (by assumption) | exact rowsT (by assumption) (by assumption)))
      | (refine' LCg.CompEnd.intro ?cF ?cN (N9 ++ [(_, _)]) ?ca ?co (hS' _) ⟨?cp, _, _, _, _, rfl, rfl⟩; (case cF => assumption); (case cN => assumption); (case ca => kcf_all); (case co => exact off3_snoc off' ⟨Nat.ne_of_gt (l9' (I', _) (by k_mem)), Nat.ne_of_gt (l9' (C', _) (by k_mem)), Nat.ne_of_gt (l9' (D', _) (by k_mem))⟩); (case cp => first | exact rowsF1 (by assumption) | exact rowsF2 (by assumption) | exact rowsT (by assumption) (by assumption))))
  k_with "exec Assign cons ListComp" => ((k_here; lct_look; lcg_calm; k_dflt (refine LCt.Assign_ListComp_T (F₀ := by k_asm) (by rfl) (by with_unfolding_all rfl) (by with_unfolding_all rfl) (by decide) (by rfl) (by decide) (by rfl) (by rfl) (by rfl) ?_); k_dflt lct_toSrc))
  k_with "eval List" => ((k_here; (rename Fr _ _ _ _ => lF'); (rename News _ _ _ _ => lN'); (refine List_ (rows_eval (tb := tblT) (by (repeat' first | exact RowsE.nil | exact IntsE.nil | refine RowsE.cons ?_ ?_ | refine IntsE.cons ?_)) lF' lN' (fun l9 h9 tk9 nw9 F9 N9 hs9 hl9 hm9 => ?_)); clear lF' lN'; have hz9 := tbl_len hl9)))
  k_with "newList" => ((k_here; (k_dflt (refine newList_K (by k_asm) (by k_asm) (fun D9 h8 F8 N8 l8 => ?_) (by rw [hz9]; exact Nat.le_of_ble_eq_true rfl))); have hm8 := rwIn_more (q := (D9, W.listOf (l9.map fun r => Value.ref r.1).toArray 0)) hm9))
  k_with "CompSrcT" => ((k_here; k_dflt (refine LCt.CompSrcT.ledger (by rfl) (by k_asm) (by k_asm) (by k_mem) (by rw [List.size_toArray, hz9]; exact Nat.le_of_ble_eq_true rfl) ?_; intro g'; refine' sz_rest o (L' + 1) (.tail _ (hs9 _ (by k_mem))) l9 ?kS hm8 (fun a9 lo9 hi9 sz9 lw9 hg9 u1 u2 u3 u4 u5 I' oI' C' oC' D' m' N9 ys' h' tk' E' hC' hx' F' N' hS' off' ne' => ?_) (fun ys9 tl9 hys9 => ?_); (case kS => intro q; exact .inr ⟨_, .head _, rfl, _, rfl⟩); rotate_left; (rcases sz_fin hl9 hys9 with ⟨ey9, es9⟩ | ⟨T9, q1, q2, q3, ey9, ht9⟩ <;> subst ey9); (refine finA_drop (news' := []) ?_ (fun _ hp => nomatch hp)); rotate_left; (refine finA_drop (news' := [(T9, tupO [.int (sizes o).1 q1, .int (sizes o).2.1 q2, .int (sizes o).2.2 q3])]) ?_ (fun p hp => by rw [List.mem_singleton.mp hp]; exact List.mem_append_right _ ht9)); rotate_left)))
  k_steps
  all_goals ((refine' hret _ _ _ (Fr.keep ?kfr) ?_; (case kfr => k_asm)); first | exact tup3_end (by k_asm) (by k_mem) | (rw [show sizes o = (0, 0, 0) by assumption]; exact tup3_end (p := (0, 0, 0)) (by k_asm) (by k_mem)))
end
end
/-! part R0 -/
section
open PySem PySem.W PyProof.Rows PySem.Spec PySem.Calls PyProof.V
section
variable {prog : Program} {w : World} {A : Around} {E : Value → Shared → Prop} {s : Shared} {h₀ : Heap} {L : Addr} {m : Str → Option Value} {env : Env}
/-- the source of a comprehension with a test is a bytes -/
noncomputable def SrcTB (prog : Program) (w : World) (A : Around) (h₀ : Heap) (L : Addr) (m : Str → Option Value) (env : Env) (ct elt : PySem.Expr) (x : Str) (scope : Scope) (cl : List (Str × Addr)) (Fin : Shared → List Value → List (Addr × Obj) → Prop) (xv : Value) (s₁ : Shared) : Prop :=
  ∃ (b : Array UInt8) (tb : Tok) (news : List (Addr × Obj)), xv = .bytes b tb ∧ A.handled = none ∧ Fr h₀ L s₁.heap m ∧ News h₀ L s₁.heap news ∧ b.size ≤ sizeLine ∧
    ∀ g : Heap, LCt.CompRestT prog w A h₀ L m env ct elt x scope cl { s₁ with heap := g } (fun _ => True) (fun i v => ∃ c u, b[i]? = some c ∧ v = .int (c.toNat : Int) u) (Fin { s₁ with heap := g }) b.size 0 [] news
/-- a comprehension that keeps the ints of which p is so -/
theorem cf_rest {ct elt : PySem.Expr} {x : Str} {scope : Scope} {cl : List (Str × Addr)} {S : List (Addr × Obj) → Prop} {P : Nat → Value → Prop} {Fin : List Value → List (Addr × Obj) → Prop} {news : List (Addr × Obj)} {n : Nat} {ks : List Int} (p : Int → Bool) (hks : ks.length = n) (hP : ∀ i v, i < n → P i v → ∃ k t, ks[i]? = some k ∧ v = .int k t)
    (turn : ∀ k t I oI C oC D m₂ ys h tk (E' : Value → Shared → Prop), k ∈ ks → LCg.NsObj oC m₂ → m₂ x = some (.int k t) → Fr h₀ L h m → News h₀ L h ((I, oI) :: (C, oC) :: (D, LCg.lst ys) :: news) → LCg.Off3 I C D news → ((@Ne Nat I C) ∧ (@Ne Nat I D) ∧ (@Ne Nat C D)) →
      wpAny (model prog w) A (isTrue ct (compEnvC scope cl C env) (eval ct (compEnvC scope cl C env))) (fun b s' => if b = true then wpAny (model prog w) A (eval elt (compEnvC scope cl C env)) (LCg.CompEnd h₀ L m { s with heap := h, toks := tk } I oI C oC D (LCg.lst ys) S (fun y news' => p k = true ∧ news' = news ∧ ∃ t', y = .int k t')) E' s'
        else LCg.CompEnd h₀ L m { s with heap := h, toks := tk } I oI C oC D (LCg.lst ys) S (fun _ news' => p k = false ∧ news' = news) Value.none s') E' { s with heap := h, toks := tk })
    (fin : ∀ ys, IntsAre ys (ks.filter p) → Fin ys news) : LCt.CompRestT prog w A h₀ L m env ct elt x scope cl s S P Fin n 0 [] news := by
  have key : ∀ (j i : Nat) (ys : List Value), i + j = n → IntsAre ys ((ks.take i).filter p) → LCt.CompRestT prog w A h₀ L m env ct elt x scope cl s S P Fin j i ys news := by
    intro j
    induction j with
    | zero =>
      intro i ys hi hy
      have e : i = ks.length := by omega
      subst e
      rw [List.take_length] at hy
      exact LCt.CompRestT.zero (fin ys hy)
    | succ j ih =>
      intro i ys hi hy
      refine LCt.CompRestT.succ ?_
      intro v I oI C oC D m₂ h tk E' hv hC hx F N off ne
      obtain ⟨k, t, hk, hv'⟩ := hP i v (by omega) hv
      rw [hv'] at hx
      have ht : ks.take (i + 1) = ks.take i ++ [k] := by rw [List.take_add_one, hk]; rfl
      refine wpAny_mono (turn k t I oI C oC D m₂ ys h tk E' (List.mem_of_getElem? hk) hC hx F N off ne) (fun b s₂ hq => ?_) fun _ _ e => e
      cases b with
      | true =>
        simp only [if_true] at hq ⊢
        refine wpAny_mono hq (fun y s₃ hr => ?_) fun _ _ e => e
        obtain ⟨h', tk', nw, e, F', N', off', hS, hp, hn, t', hy'⟩ := hr
        rw [hn] at N' off' hS
        refine ⟨h', tk', news, e, F', N', off', hS, ?_⟩
        rw [hy']
        refine ih (i + 1) _ (by omega) ?_
        rw [ht, List.filter_append, show [k].filter p = [k] by simp [hp]]
        exact IntsAre.append hy (.cons k t' .nil)
      | false =>
        simp only [Bool.false_eq_true, if_false] at hq ⊢
        obtain ⟨h', tk', nw, e, F', N', off', hS, hp, hn⟩ := hq
        rw [hn] at N' off' hS
        refine ⟨h', tk', news, e, F', N', off', hS, ih (i + 1) _ (by omega) ?_⟩
        rw [ht, List.filter_append, show [k].filter p = [] by simp [hp], List.append_nil]
        exact hy
  exact key n 0 [] (by omega) (by rw [List.take_zero]; exact .nil)
theorem cf_list {ct elt : PySem.Expr} {x : Str} {scope : Scope} {cl : List (Str × Addr)} {S : List (Addr × Obj) → Prop} {Fin : List Value → List (Addr × Obj) → Prop} {news : List (Addr × Obj)} {vs : List Value} {ks : List Int} (p : Int → Bool) (hi : IntsAre vs ks)
    (turn : ∀ k t I oI C oC D m₂ ys h tk (E' : Value → Shared → Prop), k ∈ ks → LCg.NsObj oC m₂ → m₂ x = some (.int k t) → Fr h₀ L h m → News h₀ L h ((I, oI) :: (C, oC) :: (D, LCg.lst ys) :: news) → LCg.Off3 I C D news → ((@Ne Nat I C) ∧ (@Ne Nat I D) ∧ (@Ne Nat C D)) →
      wpAny (model prog w) A (isTrue ct (compEnvC scope cl C env) (eval ct (compEnvC scope cl C env))) (fun b s' => if b = true then wpAny (model prog w) A (eval elt (compEnvC scope cl C env)) (LCg.CompEnd h₀ L m { s with heap := h, toks := tk } I oI C oC D (LCg.lst ys) S (fun y news' => p k = true ∧ news' = news ∧ ∃ t', y = .int k t')) E' s'
        else LCg.CompEnd h₀ L m { s with heap := h, toks := tk } I oI C oC D (LCg.lst ys) S (fun _ news' => p k = false ∧ news' = news) Value.none s') E' { s with heap := h, toks := tk })
    (fin : ∀ ys, IntsAre ys (ks.filter p) → Fin ys news) : LCt.CompRestT prog w A h₀ L m env ct elt x scope cl s S (fun i v => vs.toArray[i]? = some v) Fin vs.toArray.size 0 [] news :=
  cf_rest p (by rw [List.size_toArray]; exact hi.length.symm) (fun i v _ hv => by
    obtain ⟨k, t, e, hk⟩ := IntsAre.at hi i v (by simpa using hv)
    exact ⟨k, t, hk, e⟩) turn fin
theorem SrcTB.intro {ct elt : PySem.Expr} {x : Str} {scope : Scope} {cl : List (Str × Addr)} {Fin : Shared → List Value → List (Addr × Obj) → Prop} {b : Array UInt8} {tb : Tok} {ks : List Int} {news : List (Addr × Obj)} {s₁ : Shared} (hb : KBw.bInts b = ks) (hsz : ks.length ≤ sizeLine)
    (hh : A.handled = none) (F : Fr h₀ L s₁.heap m) (N : News h₀ L s₁.heap news)
    (R : ∀ g : Heap, LCt.CompRestT prog w A h₀ L m env ct elt x scope cl { s₁ with heap := g } (fun _ => True) (fun i v => ∃ c u, b[i]? = some c ∧ v = .int (c.toNat : Int) u) (Fin { s₁ with heap := g }) b.size 0 [] news) : SrcTB prog w A h₀ L m env ct elt x scope cl Fin (.bytes b tb) s₁ :=
  ⟨b, tb, news, rfl, hh, F, N, by rw [← KBw.ints_length, hb]; exact hsz, R⟩
theorem cf_bytes {ct elt : PySem.Expr} {x : Str} {scope : Scope} {cl : List (Str × Addr)} {S : List (Addr × Obj) → Prop} {Fin : List Value → List (Addr × Obj) → Prop} {news : List (Addr × Obj)} {b : Array UInt8} {ks : List Int} (p : Int → Bool) (hb : KBw.bInts b = ks)
    (turn : ∀ k t I oI C oC D m₂ ys h tk (E' : Value → Shared → Prop), k ∈ ks → LCg.NsObj oC m₂ → m₂ x = some (.int k t) → Fr h₀ L h m → News h₀ L h ((I, oI) :: (C, oC) :: (D, LCg.lst ys) :: news) → LCg.Off3 I C D news → ((@Ne Nat I C) ∧ (@Ne Nat I D) ∧ (@Ne Nat C D)) →
      wpAny (model prog w) A (isTrue ct (compEnvC scope cl C env) (eval ct (compEnvC scope cl C env))) (fun b s' => if b = true then wpAny (model prog w) A (eval elt (compEnvC scope cl C env)) (LCg.CompEnd h₀ L m { s with heap := h, toks := tk } I oI C oC D (LCg.lst ys) S (fun y news' => p k = true ∧ news' = news ∧ ∃ t', y = .int k t')) E' s'
        else LCg.CompEnd h₀ L m { s with heap := h, toks := tk } I oI C oC D (LCg.lst ys) S (fun _ news' => p k = false ∧ news' = news) Value.none s') E' { s with heap := h, toks := tk })
    (fin : ∀ ys, IntsAre ys (ks.filter p) → Fin ys news) : LCt.CompRestT prog w A h₀ L m env ct elt x scope cl s S (fun i v => ∃ c u, b[i]? = some c ∧ v = .int (c.toNat : Int) u) Fin b.size 0 [] news :=
  cf_rest p (by rw [← KBw.ints_length, hb]) (fun i v _ hv => by
    obtain ⟨c, u, hc, e⟩ := hv
    have := KBw.ints_get hc
    rw [hb] at this
    exact ⟨_, u, this, e⟩) turn fin
theorem ListComp_TB {ct elt iter : PySem.Expr} {x : Str} {px : Pos} {scope : Scope} {cl : List (Str × Addr)} {pos : Pos} {Q : Value → Shared → Prop} (_F₀ : Fr h₀ L s.heap m)
    (hclos : closureFor scope env = pure cl) (hcell : ∀ y ∈ scope.names, y.2 ≠ .cell) (hkind : scope.kind = .function)
    (hnames : ∀ y ∈ scope.names, y.2 = .local → scope.names.lookup y.1 = some .local) (hx : scope.names.lookup x = some .local)
    (h : wpAny (model prog w) A (eval iter env) (SrcTB prog w A h₀ L m env ct elt x scope cl (fun s₂ => LCg.FinE h₀ L m s₂ Q)) E s)
    (hs : ∀ x, foldedSetIterable iter env x = pure x := by intro _; rfl) :
    wpAny (model prog w) A (eval (.ListComp elt [⟨.Name x px, iter, [ct], 0⟩] scope pos) env) Q E s := by
  rw [eval_ListComp]
  refine wpAny_comprehension_free (use := none) rfl hs hclos hkind hnames (wpAny_mono h (fun xv s₁ h₁ => ?_) fun _ _ e => e)
  obtain ⟨b, tb, news, rfl, hh, F, N, hsz, R⟩ := h₁
  refine KBw.pyIter_bytes ?_
  refine LCt.block_T (KBw.walks hh s₁.heap.objs.size b tb) hsz (fun i h st => by obtain ⟨o, e, _⟩ := st; exact ⟨o, e⟩) (fun i h h' o nw st e e' _ _ _ => ?_) hcell hkind hx ⟨_, Heap.get?_push_size _ rfl, rfl, rfl⟩ (fun b hb => ?_)
    (F.push _) (N.grown fun _ _ e => Heap.get?_push_of_some _ e) (Nat.ne_of_lt F.ns.lt) (next_is_new F) (fun p hp => Nat.ne_of_lt (Heap.lt_size (N p hp).1)) trivial (R _) ?_
  · obtain ⟨o', e1, r⟩ := st
    rw [e] at e1
    cases e1
    exact ⟨o, e', r⟩
  · rw [List.mem_singleton.mp hb]
    show s₁.heap.objs.size < (s₁.heap.push _).objs.size
    rw [Heap.size_push]; exact Nat.lt_succ_self _
  · intro D C h tk m' ys news' F' N' o1 hn hC₀ hD₀ hCL hDL hCD offC fin
    refine ⟨m', hn, fun h'' hs'' => fin D h'' tk (F'.change hs'' hCL hC₀) (fun p hp => ?_) o1⟩
    refine ⟨hs''.extBut _ _ ?_ (N' p hp).1, (N' p hp).2⟩
    rcases List.mem_cons.mp hp with rfl | hp
    · exact Ne.symm hCD
    · exact offC p hp
end
/-- a list of pairs of ints, whose tuples stand beside it -/
noncomputable def RowsAre (D : Addr) (l : List (Int × Int)) (vs : List Value) (tl : List (Addr × Obj)) : Prop :=
  All2 (fun (p : Int × Int) v => ∃ T t1 t2, v = .ref T ∧ (T, tupO [.int p.1 t1, .int p.2 t2]) ∈ tl) l vs ∧ ∀ p ∈ tl, p.1 ≠ D
theorem RowsAre.nil {D : Addr} : RowsAre D [] [] [] := ⟨.nil, fun _ h => nomatch h⟩
theorem RowsAre.snoc {D T : Addr} {l : List (Int × Int)} {vs : List Value} {tl : List (Addr × Obj)} {a c : Int} {t1 t2 : Tok} (h : RowsAre D l vs tl) (hT : T ≠ D) : RowsAre D (l ++ [(a, c)]) (vs ++ [.ref T]) ((T, tupO [.int a t1, .int c t2]) :: tl) := by
  refine ⟨All2.snoc (All2.imp (fun p v ⟨T, t1, t2, e, hm⟩ => ⟨T, t1, t2, e, List.mem_cons_of_mem _ hm⟩) h.1) ⟨T, t1, t2, rfl, List.mem_cons_self⟩, ?_⟩
  intro p hp
  rcases List.mem_cons.mp hp with rfl | hp
  · exact hT
  · exact h.2 p hp
section
variable {prog : Program} {w : World} {A : Around} {E : Value → Shared → Prop} {s : Shared} {env : Env} {h₀ : Heap} {test : PySem.Expr} {body : List Stmt} {Q : Flow → Shared → Prop}
/-- one int and one list of pairs that the turns change, and names that they store as they like -/
theorem while_invR {pos : Pos} {m₀ : Str → Option Value} {D : Addr} {y : Str} {c₀ : Int} {tc : Tok} {n₀ : Nat} (stored : List Str) (R : Int → List (Int × Int) → Prop) (μ : Int → Nat)
    {news : List (Addr × Obj)} (F : Fr h₀ env.locals s.heap m₀) (N : News h₀ env.locals s.heap news) (hmem : (D, listOf (([] : List Value).toArray) n₀) ∈ news) (hy : m₀ y = some (.int c₀ tc)) (hR : R c₀ []) (hE : PassesOwn (model prog w) A env E)
    (turn : ∀ a ta l vs nn tl (u : Str → Option Value) h tk, R a l → RowsAre D l vs tl → Fr h₀ env.locals h (fun z => if z = y then some (.int a ta) else if stored.contains z then u z else m₀ z) → News h₀ env.locals h ((D, listOf vs.toArray nn) :: tl) →
      wpAny (model prog w) A (isTrue test env (eval test env)) (fun b s₂ => WhlIf b (wpAny (model prog w) A (execs body env) (WPost h₀ env.locals (fun m' n' => (∃ vs' nn' tl' a' t' l', n' = (D, listOf vs'.toArray nn') :: tl' ∧ m' y = some (.int a' t') ∧ RowsAre D l' vs' tl' ∧ R a' l' ∧ μ a' < μ a) ∧ ∀ z, z ≠ y → stored.contains z = false → m' z = m₀ z) { s with heap := h, toks := tk } Q) E s₂) (wpAny (model prog w) A (execs [] env) Q E s₂)) E { s with heap := h, toks := tk }) :
    wpAny (model prog w) A (exec (.While test body [] pos) env) Q E s := by
  have same : ∀ (m₁ : Str → Option Value) a t, m₁ y = some (.int a t) → (∀ z, z ≠ y → stored.contains z = false → m₁ z = m₀ z) → (fun z => if z = y then some (Value.int a t) else if stored.contains z then m₁ z else m₀ z) = m₁ := by
    intro m₁ a t ha hm
    funext z
    by_cases h1 : z = y
    · subst h1; simp [ha]
    · simp only [if_neg h1]
      cases h2 : stored.contains z with
      | true => rfl
      | false => exact (hm z h1 h2).symm
  refine while_inv (σ := Int × List (Int × Int)) (fun p m n => (∃ vs nn tl, n = (D, listOf vs.toArray nn) :: tl ∧ RowsAre D p.2 vs tl) ∧ (∃ t, m y = some (.int p.1 t)) ∧ R p.1 p.2 ∧ ∀ z, z ≠ y → stored.contains z = false → m z = m₀ z) (fun p => μ p.1) (c₀, []) F (news := [(D, listOf (([] : List Value).toArray) n₀)]) (fun p hp => N p (by rw [List.mem_singleton.mp hp]; exact hmem)) ⟨⟨[], n₀, [], rfl, .nil⟩, ⟨_, hy⟩, hR, fun _ _ _ => rfl⟩ hE ?_
  rintro ⟨a, l⟩ m₁ nx h tk ⟨⟨vs, nn, tl, rfl, hvs⟩, ⟨t, ha⟩, hRa, hm⟩ F₁ N₁
  refine wpAny_mono (turn a t l vs nn tl m₁ h tk hRa hvs (by rw [same m₁ a t ha hm]; exact F₁) N₁) (fun b s₂ h₂ => ?_) fun _ _ e => e
  cases b with
  | false => exact h₂
  | true =>
    unfold WhlIf at h₂ ⊢
    rw [if_pos rfl] at h₂ ⊢
    refine wpAny_mono h₂ (fun f s₃ h₃ => ?_) fun _ _ e => e
    have fin : ∀ {J₁ J₂ : (Str → Option Value) → List (Addr × Obj) → Prop}, (∀ m n, J₁ m n → J₂ m n) → WEnd h₀ env.locals J₁ { s with heap := h, toks := tk } s₃ → WEnd h₀ env.locals J₂ { s with heap := h, toks := tk } s₃ := by
      rintro J₁ J₂ hJ ⟨h', tk', m', nx', e, F', N', j⟩
      exact ⟨h', tk', m', nx', e, F', N', hJ _ _ j⟩
    have step : ∀ (m' : Str → Option Value) (n' : List (Addr × Obj)), ((∃ vs' nn' tl' a' t' l', n' = (D, listOf vs'.toArray nn') :: tl' ∧ m' y = some (.int a' t') ∧ RowsAre D l' vs' tl' ∧ R a' l' ∧ μ a' < μ a) ∧ ∀ z, z ≠ y → stored.contains z = false → m' z = m₀ z) →
        ∃ p : Int × List (Int × Int), μ p.1 < μ a ∧ ((∃ vs nn tl, n' = (D, listOf vs.toArray nn) :: tl ∧ RowsAre D p.2 vs tl) ∧ (∃ t, m' y = some (.int p.1 t)) ∧ R p.1 p.2 ∧ ∀ z, z ≠ y → stored.contains z = false → m' z = m₀ z) := by
      rintro m' n' ⟨⟨vs', nn', tl', a', t', l', e, h1, h2, h3, h4⟩, h5⟩
      exact ⟨(a', l'), h4, ⟨vs', nn', tl', e, h2⟩, ⟨t', h1⟩, h3, h5⟩
    cases f with
    | ret v => exact h₃
    | brk => exact h₃
    | next => exact fin step h₃
    | cont => exact fin step h₃
end
end
/-! part P1 -/
section
noncomputable def lawFold (c : Int) (rs : List Int) : Int := List.foldl (fun a' k' => a' * 64 + k'.fmod 64) c rs
theorem whole_none {ks : List Int} {i : Nat} (h : wholeAt ks i = none) : decOf ks i = (-1 - ks.getD i 0, (i : Int) + 1) := by unfold decOf; rw [h]
theorem whole_some {ks : List Int} {i : Nat} {c : Int} (h : wholeAt ks i = some c) : decOf ks i = (c, (i : Int) + sizeOf' c) := by unfold decOf; rw [h]
noncomputable abbrev Fol (b : Int) : Prop := 128 ≤ b ∧ b < 192
noncomputable abbrev Okc (c n : Int) : Prop := ¬ (1114111 < c ∨ (55296 ≤ c ∧ c ≤ 57343) ∨ sizeOf' c ≠ n)
theorem size_1 {c : Int} : sizeOf' c = 1 ↔ c < 128 := by unfold sizeOf'; (repeat' split) <;> omega
theorem size_2 {c : Int} : sizeOf' c = 2 ↔ 128 ≤ c ∧ c < 2048 := by unfold sizeOf'; (repeat' split) <;> omega
theorem size_3 {c : Int} : sizeOf' c = 3 ↔ 2048 ≤ c ∧ c < 65536 := by unfold sizeOf'; (repeat' split) <;> omega
theorem size_4 {c : Int} : sizeOf' c = 4 ↔ 65536 ≤ c := by unfold sizeOf'; (repeat' split) <;> omega
theorem fold_step {ks : List Int} {p : Nat} {v a : Int} {j : Nat} (h : foldAt ks p v j = some a) : (Fol (ks.getD (p + j) 0) → foldAt ks p v (j + 1) = some (a * 64 + ks.getD (p + j) 0 - 128)) ∧ (¬ Fol (ks.getD (p + j) 0) → foldAt ks p v (j + 1) = none) := by
  constructor
  · intro hf
    show (foldAt ks p v j).bind _ = _
    rw [h, Option.bind_some, if_pos hf]
  · intro hf
    show (foldAt ks p v j).bind _ = _
    rw [h, Option.bind_some, if_neg hf]
theorem whole_ok {ks : List Int} {i : Nat} {m v c : Int} (h : leadOf (ks.getD i 0) = some (m, v)) (hl : (i : Int) + m < (ks.length : Int)) (hf : foldAt ks (i + 1) v m.toNat = some c) (hc : Okc c (m + 1)) : wholeAt ks i = some c := by
  unfold wholeAt
  rw [h, Option.bind_some]
  dsimp only
  rw [if_neg (by omega), hf, Option.bind_some, if_neg hc]
theorem whole_no1 {ks : List Int} {i : Nat} (h : leadOf (ks.getD i 0) = none) : wholeAt ks i = none := by
  unfold wholeAt
  rw [h]; rfl
theorem whole_no2 {ks : List Int} {i : Nat} {m v : Int} (h : leadOf (ks.getD i 0) = some (m, v)) (hl : (ks.length : Int) ≤ (i : Int) + m) : wholeAt ks i = none := by
  unfold wholeAt
  rw [h, Option.bind_some]
  dsimp only
  rw [if_pos hl]
theorem whole_no3 {ks : List Int} {i : Nat} {m v : Int} (h : leadOf (ks.getD i 0) = some (m, v)) (hf : foldAt ks (i + 1) v m.toNat = none) : wholeAt ks i = none := by
  unfold wholeAt
  rw [h, Option.bind_some]
  dsimp only
  split
  · rfl
  · rw [hf]; rfl
theorem whole_no4 {ks : List Int} {i : Nat} {m v c : Int} (h : leadOf (ks.getD i 0) = some (m, v)) (hf : foldAt ks (i + 1) v m.toNat = some c) (hc : ¬ Okc c (m + 1)) : wholeAt ks i = none := by
  unfold wholeAt
  rw [h, Option.bind_some]
  dsimp only
  split
  · rfl
  · rw [hf, Option.bind_some, if_pos (Classical.not_not.mp hc)]
theorem drop_one {ks : List Int} {p : Nat} (h : p < ks.length) : ks.drop p = ks.getD p 0 :: ks.drop (p + 1) := by
  rw [List.drop_eq_getElem_cons h, List.getD_eq_getElem?_getD, List.getElem?_eq_getElem h]; rfl
theorem rest_1 {ks : List Int} {i : Nat} (h : i + 1 < ks.length) : (ks.drop (i + 1)).take 1 = [ks.getD (i + 1) 0] := by
  rw [drop_one h, List.take_succ_cons, List.take_zero]
theorem rest_2 {ks : List Int} {i : Nat} (h : i + 2 < ks.length) : (ks.drop (i + 1)).take 2 = [ks.getD (i + 1) 0, ks.getD (i + 2) 0] := by
  rw [drop_one (by omega), drop_one (show i + 1 + 1 < ks.length from h), List.take_succ_cons, List.take_succ_cons, List.take_zero]
theorem rest_3 {ks : List Int} {i : Nat} (h : i + 3 < ks.length) : (ks.drop (i + 1)).take 3 = [ks.getD (i + 1) 0, ks.getD (i + 2) 0, ks.getD (i + 3) 0] := by
  rw [drop_one (by omega), drop_one (show i + 1 + 1 < ks.length by omega), drop_one (show i + 1 + 1 + 1 < ks.length from h), List.take_succ_cons, List.take_succ_cons, List.take_succ_cons, List.take_zero]
theorem lead_of_1 {k : Int} (h0 : 192 ≤ k) (h1 : k < 224) : leadOf k = some (1, k - 192) := by
  unfold leadOf
  rw [if_neg (by omega), if_neg (by omega), if_pos (by omega)]
theorem lead_of_2 {k : Int} (h0 : 224 ≤ k) (h1 : k < 240) : leadOf k = some (2, k - 224) := by
  unfold leadOf
  rw [if_neg (by omega), if_neg (by omega), if_neg (by omega), if_pos (by omega)]
theorem lead_of_3 {k : Int} (h0 : 240 ≤ k) (h1 : k < 248) : leadOf k = some (3, k - 240) := by
  unfold leadOf
  rw [if_neg (by omega), if_neg (by omega), if_neg (by omega), if_neg (by omega), if_pos (by omega)]
theorem lead_of_0 {k : Int} (h1 : k < 128) : leadOf k = some (0, k) := by
  unfold leadOf
  rw [if_pos (by omega)]
theorem lead_of_n {k : Int} (h : (128 ≤ k ∧ k < 192) ∨ 248 ≤ k) : leadOf k = none := by
  unfold leadOf
  rw [if_neg (by omega)]
  split
  · rfl
  · rw [if_neg (by omega), if_neg (by omega), if_neg (by omega)]
/-- a lead of one further octet -/
theorem whole_1' {ks : List Int} {i : Nat} {v : Int} (h : leadOf (ks.getD i 0) = some (1, v)) : wholeAt ks i = none ∨ (i + 1 < ks.length ∧ Fol (ks.getD (i + 1) 0) ∧ Okc (v * 64 + ks.getD (i + 1) 0 - 128) 2 ∧ wholeAt ks i = some (v * 64 + ks.getD (i + 1) 0 - 128)) := by
  by_cases h1 : i + 1 < ks.length
  · have e0 : foldAt ks (i + 1) v 0 = some v := rfl
    have s1 := fold_step e0
    by_cases f1 : Fol (ks.getD (i + 1) 0)
    · have e1 := s1.1 f1
      by_cases hc : Okc (v * 64 + ks.getD (i + 1) 0 - 128) 2
      · exact .inr ⟨h1, f1, hc, whole_ok h (by omega) e1 hc⟩
      · exact .inl (whole_no4 h e1 hc)
    · exact .inl (whole_no3 h (s1.2 f1))
  · exact .inl (whole_no2 h (by omega))
theorem whole_2' {ks : List Int} {i : Nat} {v : Int} (h : leadOf (ks.getD i 0) = some (2, v)) : wholeAt ks i = none ∨ (i + 2 < ks.length ∧ Fol (ks.getD (i + 1) 0) ∧ Fol (ks.getD (i + 2) 0) ∧ Okc ((v * 64 + ks.getD (i + 1) 0 - 128) * 64 + ks.getD (i + 2) 0 - 128) 3 ∧ wholeAt ks i = some ((v * 64 + ks.getD (i + 1) 0 - 128) * 64 + ks.getD (i + 2) 0 - 128)) := by
  by_cases h1 : i + 2 < ks.length
  · have e0 : foldAt ks (i + 1) v 0 = some v := rfl
    have s1 := fold_step e0
    by_cases f1 : Fol (ks.getD (i + 1) 0)
    · have e1 := s1.1 f1
      have s2 := fold_step e1
      by_cases f2 : Fol (ks.getD (i + 2) 0)
      · have e2 := s2.1 f2
        by_cases hc : Okc ((v * 64 + ks.getD (i + 1) 0 - 128) * 64 + ks.getD (i + 2) 0 - 128) 3
        · exact .inr ⟨h1, f1, f2, hc, whole_ok h (by omega) e2 hc⟩
        · exact .inl (whole_no4 h e2 hc)
      · exact .inl (whole_no3 h (s2.2 f2))
    · exact .inl (whole_no3 h (foldAt_none (s1.2 f1) 2 (by decide)))
  · exact .inl (whole_no2 h (by omega))
theorem whole_3' {ks : List Int} {i : Nat} {v : Int} (h : leadOf (ks.getD i 0) = some (3, v)) : wholeAt ks i = none ∨ (i + 3 < ks.length ∧ Fol (ks.getD (i + 1) 0) ∧ Fol (ks.getD (i + 2) 0) ∧ Fol (ks.getD (i + 3) 0) ∧ Okc (((v * 64 + ks.getD (i + 1) 0 - 128) * 64 + ks.getD (i + 2) 0 - 128) * 64 + ks.getD (i + 3) 0 - 128) 4 ∧ wholeAt ks i = some (((v * 64 + ks.getD (i + 1) 0 - 128) * 64 + ks.getD (i + 2) 0 - 128) * 64 + ks.getD (i + 3) 0 - 128)) := by
  by_cases h1 : i + 3 < ks.length
  · have e0 : foldAt ks (i + 1) v 0 = some v := rfl
    have s1 := fold_step e0
    by_cases f1 : Fol (ks.getD (i + 1) 0)
    · have e1 := s1.1 f1
      have s2 := fold_step e1
      by_cases f2 : Fol (ks.getD (i + 2) 0)
      · have e2 := s2.1 f2
        have s3 := fold_step e2
        by_cases f3 : Fol (ks.getD (i + 3) 0)
        · have e3 := s3.1 f3
          by_cases hc : Okc (((v * 64 + ks.getD (i + 1) 0 - 128) * 64 + ks.getD (i + 2) 0 - 128) * 64 + ks.getD (i + 3) 0 - 128) 4
          · exact .inr ⟨h1, f1, f2, f3, hc, whole_ok h (by omega) e3 hc⟩
          · exact .inl (whole_no4 h e3 hc)
        · exact .inl (whole_no3 h (s3.2 f3))
      · exact .inl (whole_no3 h (foldAt_none (s2.2 f2) 3 (by decide)))
    · exact .inl (whole_no3 h (foldAt_none (s1.2 f1) 3 (by decide)))
  · exact .inl (whole_no2 h (by omega))
theorem whole_1y {ks : List Int} {i : Nat} {v : Int} (h : leadOf (ks.getD i 0) = some (1, v)) (h1 : i + 1 < ks.length) (f1 : Fol (ks.getD (i + 1) 0)) (hc : Okc (v * 64 + ks.getD (i + 1) 0 - 128) 2) : wholeAt ks i = some (v * 64 + ks.getD (i + 1) 0 - 128) :=
  whole_ok h (by omega) ((fold_step (show foldAt ks (i + 1) v 0 = some v from rfl)).1 f1) hc
theorem whole_2y {ks : List Int} {i : Nat} {v : Int} (h : leadOf (ks.getD i 0) = some (2, v)) (h1 : i + 2 < ks.length) (f1 : Fol (ks.getD (i + 1) 0)) (f2 : Fol (ks.getD (i + 2) 0)) (hc : Okc ((v * 64 + ks.getD (i + 1) 0 - 128) * 64 + ks.getD (i + 2) 0 - 128) 3) : wholeAt ks i = some ((v * 64 + ks.getD (i + 1) 0 - 128) * 64 + ks.getD (i + 2) 0 - 128) :=
  whole_ok h (by omega) ((fold_step ((fold_step (show foldAt ks (i + 1) v 0 = some v from rfl)).1 f1)).1 f2) hc
theorem whole_3y {ks : List Int} {i : Nat} {v : Int} (h : leadOf (ks.getD i 0) = some (3, v)) (h1 : i + 3 < ks.length) (f1 : Fol (ks.getD (i + 1) 0)) (f2 : Fol (ks.getD (i + 2) 0)) (f3 : Fol (ks.getD (i + 3) 0)) (hc : Okc (((v * 64 + ks.getD (i + 1) 0 - 128) * 64 + ks.getD (i + 2) 0 - 128) * 64 + ks.getD (i + 3) 0 - 128) 4) : wholeAt ks i = some (((v * 64 + ks.getD (i + 1) 0 - 128) * 64 + ks.getD (i + 2) 0 - 128) * 64 + ks.getD (i + 3) 0 - 128) :=
  whole_ok h (by omega) ((fold_step ((fold_step ((fold_step (show foldAt ks (i + 1) v 0 = some v from rfl)).1 f1)).1 f2)).1 f3) hc
theorem nxt {k a b : Int} (h : a ≤ k) (c : ¬ (a ≤ k ∧ k ≤ b)) : b < k := Int.not_le.mp fun h' => c ⟨h, h'⟩
theorem nxt1 {k a : Int} (h : a ≤ k) (c : ¬ k = a) : a < k := Int.lt_iff_le_and_ne.mpr ⟨h, fun e => c e.symm⟩
theorem sizes_cases (k : Int) : (0 ≤ k ∧ k ≤ 127 ∧ sizes k = (1, 0, 0)) ∨ (194 ≤ k ∧ k ≤ 223 ∧ sizes k = (2, 128, 191)) ∨ (k = 224 ∧ sizes k = (3, 160, 191)) ∨ (225 ≤ k ∧ k ≤ 236 ∧ sizes k = (3, 128, 191)) ∨ (k = 237 ∧ sizes k = (3, 128, 159)) ∨
    (238 ≤ k ∧ k ≤ 239 ∧ sizes k = (3, 128, 191)) ∨ (k = 240 ∧ sizes k = (4, 144, 191)) ∨ (241 ≤ k ∧ k ≤ 243 ∧ sizes k = (4, 128, 191)) ∨ (k = 244 ∧ sizes k = (4, 128, 143)) ∨ ((k < 0 ∨ (128 ≤ k ∧ k ≤ 193) ∨ 245 ≤ k) ∧ sizes k = (0, 0, 0)) := by
  unfold sizes
  by_cases c0 : 0 ≤ k ∧ k ≤ 127
  · exact .inl ⟨c0.1, c0.2, if_pos c0⟩
  refine .inr ?_
  rw [if_neg c0]
  by_cases c1 : 194 ≤ k ∧ k ≤ 223
  · exact .inl ⟨c1.1, c1.2, if_pos c1⟩
  refine .inr ?_
  rw [if_neg c1]
  by_cases c2 : k = 224
  · exact .inl ⟨c2, if_pos c2⟩
  refine .inr ?_
  rw [if_neg c2]
  by_cases c3 : 225 ≤ k ∧ k ≤ 236
  · exact .inl ⟨c3.1, c3.2, if_pos c3⟩
  refine .inr ?_
  rw [if_neg c3]
  by_cases c4 : k = 237
  · exact .inl ⟨c4, if_pos c4⟩
  refine .inr ?_
  rw [if_neg c4]
  by_cases c5 : 238 ≤ k ∧ k ≤ 239
  · exact .inl ⟨c5.1, c5.2, if_pos c5⟩
  refine .inr ?_
  rw [if_neg c5]
  by_cases c6 : k = 240
  · exact .inl ⟨c6, if_pos c6⟩
  refine .inr ?_
  rw [if_neg c6]
  by_cases c7 : 241 ≤ k ∧ k ≤ 243
  · exact .inl ⟨c7.1, c7.2, if_pos c7⟩
  refine .inr ?_
  rw [if_neg c7]
  by_cases c8 : k = 244
  · exact .inl ⟨c8, if_pos c8⟩
  refine .inr ⟨?_, if_neg c8⟩
  rcases Int.lt_or_le k 0 with h | h
  · exact .inl h
  · refine .inr ?_
    rcases Int.lt_or_le 193 k with h' | h'
    · exact .inr (nxt1 (nxt (nxt1 (nxt (nxt1 (nxt (nxt1 (nxt h' c1) c2) c3) c4) c5) c6) c7) c8)
    · exact .inl ⟨nxt h c0, h'⟩
theorem okc_size {c n : Int} (h : Okc c n) : sizeOf' c = n := Classical.byContradiction fun h' => h (.inr (.inr h'))
theorem no_2 {k b : Int} (h : k ≤ 193) (f : Fol b) (hc : Okc ((k - 192) * 64 + b - 128) 2) : False := by
  have hz := (size_2.mp (okc_size hc)).1
  clear hc
  obtain ⟨_, f⟩ := f
  omega
theorem no_4 {k b c d : Int} (h : 245 ≤ k) (f : Fol b) (g : Fol c) (e : Fol d) (hc : Okc ((((k - 240) * 64 + b - 128) * 64 + c - 128) * 64 + d - 128) 4) : False := by
  refine hc (.inl ?_)
  clear hc
  obtain ⟨f, _⟩ := f
  obtain ⟨g, _⟩ := g
  obtain ⟨e, _⟩ := e
  omega
theorem szs_0 {k : Int} (h0 : 0 ≤ k) (hs : sizes k = (0, 0, 0)) : (128 ≤ k ∧ k ≤ 193) ∨ 245 ≤ k := by
  have hc := sizes_cases k
  rw [hs] at hc
  simp only [Prod.mk.injEq, Int.reduceEq, false_and, and_false, false_or, and_true] at hc
  exact hc.resolve_left (Int.not_lt.mpr h0)
theorem szs_1 {k : Int} (hs : sizes k = (1, 0, 0)) : k ≤ 127 := by
  have hc := sizes_cases k
  rw [hs] at hc
  simp only [Prod.mk.injEq, Int.reduceEq, false_and, and_false, false_or, or_false, and_true] at hc
  exact hc.2
theorem dec_0 {ks : List Int} {i : Nat} (h0 : 0 ≤ ks.getD i 0) (h1 : ks.getD i 0 < 256) (hs : sizes (ks.getD i 0) = (0, 0, 0)) : decOf ks i = (-1 - ks.getD i 0, (i : Int) + 1) := by
  refine whole_none ?_
  rcases szs_0 h0 hs with ⟨h, h'⟩ | h
  · rcases Int.lt_or_le (ks.getD i 0) 192 with a | a
    · exact whole_no1 (lead_of_n (.inl ⟨h, a⟩))
    · exact (whole_1' (lead_of_1 a (Int.lt_of_le_of_lt h' (by decide)))).elim id fun ⟨_, f, hc, _⟩ => (no_2 h' f hc).elim
  · rcases Int.lt_or_le (ks.getD i 0) 248 with a | a
    · exact (whole_3' (lead_of_3 (Int.le_trans (by decide) h) a)).elim id fun ⟨_, f, g, e, hc, _⟩ => (no_4 h f g e hc).elim
    · exact whole_no1 (lead_of_n (.inr a))
theorem okc_1 {c : Int} (h : c < 128) : Okc c (0 + 1) := by
  show ¬ (_ ∨ _ ∨ sizeOf' c ≠ 1)
  rw [size_1.mpr h]; omega
theorem dec_1 {ks : List Int} {i : Nat} (hi : i < ks.length) (hs : sizes (ks.getD i 0) = (1, 0, 0)) : decOf ks i = (ks.getD i 0, (i : Int) + 1) := by
  have hc : ks.getD i 0 < 128 := Int.lt_of_le_of_lt (szs_1 hs) (by decide)
  rw [whole_some (whole_ok (m := 0) (lead_of_0 hc) (by omega) rfl (okc_1 hc)), size_1.mpr hc]
theorem okc_2 {c : Int} : Okc c 2 ↔ 128 ≤ c ∧ c < 2048 := by
  show ¬ (_ ∨ _ ∨ sizeOf' c ≠ 2) ↔ _
  rw [Ne, size_2]; omega
theorem okc_3 {c : Int} : Okc c 3 ↔ (2048 ≤ c ∧ c < 65536) ∧ ¬ (55296 ≤ c ∧ c ≤ 57343) := by
  show ¬ (_ ∨ _ ∨ sizeOf' c ≠ 3) ↔ _
  rw [Ne, size_3]; omega
theorem okc_4 {c : Int} : Okc c 4 ↔ 65536 ≤ c ∧ c ≤ 1114111 := by
  show ¬ (_ ∨ _ ∨ sizeOf' c ≠ 4) ↔ _
  rw [Ne, size_4]; omega
theorem filt {rs : List Int} : rs.filter (fun k => decide ¬(128 ≤ k ∧ k ≤ 191)) = [] ↔ ∀ k ∈ rs, Fol k := by
  rw [List.filter_eq_nil_iff]
  refine ⟨fun h k hk => ?_, fun h k hk => ?_⟩
  · have := Classical.not_not.mp fun q => h k hk (decide_eq_true q)
    exact ⟨this.1, Int.lt_of_le_of_lt this.2 (by decide)⟩
  · exact fun q => of_decide_eq_true q ⟨(h k hk).1, Int.le_of_lt_add_one (h k hk).2⟩
theorem fmodE (c d : Int) (h : 0 ≤ d) : c.fmod d = c % d := Int.fmod_eq_emod_of_nonneg c h
noncomputable def DecP (ks : List Int) (i : Nat) (n lo hi : Int) (rs : List Int) : Prop :=
  (((rs.length : Int) = n - 1 ∧ (∀ k ∈ rs, Fol k) ∧ lo ≤ rs.getD 0 0 ∧ rs.getD 0 0 ≤ hi) → decOf ks i = (lawFold ((ks.getD i 0).fmod (2 ^ (7 - n).toNat)) rs, (i : Int) + n)) ∧
    (¬ ((rs.length : Int) = n - 1 ∧ (∀ k ∈ rs, Fol k) ∧ lo ≤ rs.getD 0 0 ∧ rs.getD 0 0 ≤ hi) → decOf ks i = (-1 - ks.getD i 0, (i : Int) + 1))
theorem fol_fmod {a b : Int} (f : Fol b) : a * 64 + b.fmod 64 = a * 64 + b - 128 := by
  rw [fmodE _ 64 (by decide)]
  omega
theorem fold_1 {k b : Int} (h0 : 192 ≤ k) (h1 : k < 224) (f : Fol b) : (k - 192) * 64 + b - 128 = lawFold (k.fmod 32) [b] := by
  show _ = k.fmod 32 * 64 + b.fmod 64
  rw [fol_fmod f, show k.fmod 32 = k - 192 by rw [fmodE _ 32 (by decide)]; omega]
theorem fold_2 {k b c : Int} (h0 : 224 ≤ k) (h1 : k < 240) (f : Fol b) (g : Fol c) : ((k - 224) * 64 + b - 128) * 64 + c - 128 = lawFold (k.fmod 16) [b, c] := by
  show _ = (k.fmod 16 * 64 + b.fmod 64) * 64 + c.fmod 64
  rw [fol_fmod f, fol_fmod g, show k.fmod 16 = k - 224 by rw [fmodE _ 16 (by decide)]; omega]
theorem fold_3 {k b c d : Int} (h0 : 240 ≤ k) (h1 : k < 248) (f : Fol b) (g : Fol c) (e : Fol d) : (((k - 240) * 64 + b - 128) * 64 + c - 128) * 64 + d - 128 = lawFold (k.fmod 8) [b, c, d] := by
  show _ = ((k.fmod 8 * 64 + b.fmod 64) * 64 + c.fmod 64) * 64 + d.fmod 64
  rw [fol_fmod f, fol_fmod g, fol_fmod e, show k.fmod 8 = k - 240 by rw [fmodE _ 8 (by decide)]; omega]
theorem decP_no {ks rs : List Int} {i m : Nat} {n v lo hi : Int} (hL : leadOf (ks.getD i 0) = some ((m : Int), v)) (hr : rs = (ks.drop (i + 1)).take m) (hn : (m : Int) = n - 1) (hm : 0 < m) (hl : ¬ i + m < ks.length) : DecP ks i n lo hi rs := by
  have hz : (rs.length : Int) ≠ n - 1 := by
    rw [hr, List.length_take, List.length_drop]; omega
  exact ⟨fun h => absurd h.1 hz, fun _ => whole_none (whole_no2 hL (by omega))⟩
theorem decP_is {ks rs : List Int} {i : Nat} {n lo hi c : Int} (hq : (rs.length : Int) = n - 1) (hy : (∀ k ∈ rs, Fol k) → lo ≤ rs.getD 0 0 ∧ rs.getD 0 0 ≤ hi → wholeAt ks i = some c ∧ sizeOf' c = n ∧ c = lawFold ((ks.getD i 0).fmod (2 ^ (7 - n).toNat)) rs)
    (hn : wholeAt ks i = none ∨ ((∀ k ∈ rs, Fol k) ∧ lo ≤ rs.getD 0 0 ∧ rs.getD 0 0 ≤ hi)) : DecP ks i n lo hi rs := by
  refine ⟨fun ⟨_, h, h'⟩ => ?_, fun h => ?_⟩
  · obtain ⟨e, e1, e2⟩ := hy h h'
    rw [whole_some e, e1, ← e2]
  · exact hn.elim whole_none fun q => absurd ⟨hq, q⟩ h
theorem dec_n2 {ks : List Int} {i : Nat} {lo hi : Int} {rs : List Int} (h0 : 192 ≤ ks.getD i 0) (h1 : ks.getD i 0 < 224) (hlh : ∀ b, Fol b → (Okc ((ks.getD i 0 - 192) * 64 + b - 128) 2 ↔ lo ≤ b ∧ b ≤ hi)) (hr : rs = (ks.drop (i + 1)).take 1) : DecP ks i 2 lo hi rs := by
  have hL := lead_of_1 h0 h1
  by_cases hl : i + 1 < ks.length
  · rw [rest_1 hl] at hr
    subst hr
    refine decP_is (c := (ks.getD i 0 - 192) * 64 + ks.getD (i + 1) 0 - 128) rfl (fun f h2 => ?_) ((whole_1' hL).imp_right fun ⟨_, f, ok, _⟩ => ⟨List.forall_mem_cons.mpr ⟨f, List.forall_mem_nil _⟩, (hlh _ f).mp ok⟩)
    have f1 := (List.forall_mem_cons.mp f).1
    exact ⟨whole_1y hL hl f1 ((hlh _ f1).mpr h2), okc_size ((hlh _ f1).mpr h2), fold_1 h0 h1 f1⟩
  · exact decP_no (m := 1) hL hr rfl (by decide) hl
theorem dec_n3 {ks : List Int} {i : Nat} {lo hi : Int} {rs : List Int} (h0 : 224 ≤ ks.getD i 0) (h1 : ks.getD i 0 < 240) (hlh : ∀ b c, Fol b → Fol c → (Okc (((ks.getD i 0 - 224) * 64 + b - 128) * 64 + c - 128) 3 ↔ lo ≤ b ∧ b ≤ hi)) (hr : rs = (ks.drop (i + 1)).take 2) : DecP ks i 3 lo hi rs := by
  have hL := lead_of_2 h0 h1
  by_cases hl : i + 2 < ks.length
  · rw [rest_2 hl] at hr
    subst hr
    refine decP_is (c := ((ks.getD i 0 - 224) * 64 + ks.getD (i + 1) 0 - 128) * 64 + ks.getD (i + 2) 0 - 128) rfl (fun f h2 => ?_) ((whole_2' hL).imp_right fun ⟨_, f, g, ok, _⟩ => ⟨List.forall_mem_cons.mpr ⟨f, List.forall_mem_cons.mpr ⟨g, List.forall_mem_nil _⟩⟩, (hlh _ _ f g).mp ok⟩)
    obtain ⟨f1, g⟩ := List.forall_mem_cons.mp f
    have f2 := (List.forall_mem_cons.mp g).1
    exact ⟨whole_2y hL hl f1 f2 ((hlh _ _ f1 f2).mpr h2), okc_size ((hlh _ _ f1 f2).mpr h2), fold_2 h0 h1 f1 f2⟩
  · exact decP_no (m := 2) hL hr rfl (by decide) hl
theorem dec_n4 {ks : List Int} {i : Nat} {lo hi : Int} {rs : List Int} (h0 : 240 ≤ ks.getD i 0) (h1 : ks.getD i 0 < 248) (hlh : ∀ b c d, Fol b → Fol c → Fol d → (Okc ((((ks.getD i 0 - 240) * 64 + b - 128) * 64 + c - 128) * 64 + d - 128) 4 ↔ lo ≤ b ∧ b ≤ hi)) (hr : rs = (ks.drop (i + 1)).take 3) : DecP ks i 4 lo hi rs := by
  have hL := lead_of_3 h0 h1
  by_cases hl : i + 3 < ks.length
  · rw [rest_3 hl] at hr
    subst hr
    refine decP_is (c := (((ks.getD i 0 - 240) * 64 + ks.getD (i + 1) 0 - 128) * 64 + ks.getD (i + 2) 0 - 128) * 64 + ks.getD (i + 3) 0 - 128) rfl (fun f h2 => ?_) ((whole_3' hL).imp_right fun ⟨_, f, g, e, ok, _⟩ => ⟨List.forall_mem_cons.mpr ⟨f, List.forall_mem_cons.mpr ⟨g, List.forall_mem_cons.mpr ⟨e, List.forall_mem_nil _⟩⟩⟩, (hlh _ _ _ f g e).mp ok⟩)
    obtain ⟨f1, g⟩ := List.forall_mem_cons.mp f
    obtain ⟨f2, e⟩ := List.forall_mem_cons.mp g
    have f3 := (List.forall_mem_cons.mp e).1
    exact ⟨whole_3y hL hl f1 f2 f3 ((hlh _ _ _ f1 f2 f3).mpr h2), okc_size ((hlh _ _ _ f1 f2 f3).mpr h2), fold_3 h0 h1 f1 f2 f3⟩
  · exact decP_no (m := 3) hL hr rfl (by decide) hl
theorem ok2 {k b : Int} (a : 194 ≤ k) (a' : k ≤ 223) (f : Fol b) : Okc ((k - 192) * 64 + b - 128) 2 ↔ 128 ≤ b ∧ b ≤ 191 := by
  rw [okc_2]; omega
theorem ok3a {b c : Int} (f : Fol b) (g : Fol c) : Okc (((224 - 224) * 64 + b - 128) * 64 + c - 128) 3 ↔ 160 ≤ b ∧ b ≤ 191 := by
  rw [okc_3]; omega
theorem ok3b {k b c : Int} (a : 225 ≤ k) (a' : k ≤ 239) (a2 : k ≠ 237) (f : Fol b) (g : Fol c) : Okc (((k - 224) * 64 + b - 128) * 64 + c - 128) 3 ↔ 128 ≤ b ∧ b ≤ 191 := by
  rw [okc_3]; omega
theorem ok3c {b c : Int} (f : Fol b) (g : Fol c) : Okc (((237 - 224) * 64 + b - 128) * 64 + c - 128) 3 ↔ 128 ≤ b ∧ b ≤ 159 := by
  rw [okc_3]; omega
theorem ok4a {b c d : Int} (f : Fol b) (g : Fol c) (e : Fol d) : Okc ((((240 - 240) * 64 + b - 128) * 64 + c - 128) * 64 + d - 128) 4 ↔ 144 ≤ b ∧ b ≤ 191 := by
  rw [okc_4]; omega
theorem ok4b {k b c d : Int} (a : 241 ≤ k) (a' : k ≤ 243) (f : Fol b) (g : Fol c) (e : Fol d) : Okc ((((k - 240) * 64 + b - 128) * 64 + c - 128) * 64 + d - 128) 4 ↔ 128 ≤ b ∧ b ≤ 191 := by
  rw [okc_4]; omega
theorem ok4c {b c d : Int} (f : Fol b) (g : Fol c) (e : Fol d) : Okc ((((244 - 240) * 64 + b - 128) * 64 + c - 128) * 64 + d - 128) 4 ↔ 128 ≤ b ∧ b ≤ 143 := by
  rw [okc_4]; omega
theorem decP_of {ks : List Int} {i : Nat} {n lo hi : Int} {rs : List Int} (hs : sizes (ks.getD i 0) = (n, lo, hi)) (hn : 2 ≤ n) (hr : rs = (ks.drop (i + 1)).take (n - 1).toNat) : DecP ks i n lo hi rs := by
  rcases sizes_cases (ks.getD i 0) with ⟨a, b, e⟩ | ⟨a, b, e⟩ | ⟨a, e⟩ | ⟨a, b, e⟩ | ⟨a, e⟩ | ⟨a, b, e⟩ | ⟨a, e⟩ | ⟨a, b, e⟩ | ⟨a, e⟩ | ⟨a, e⟩ <;> rw [e] at hs <;> obtain ⟨rfl, rfl, rfl⟩ := hs
  · exact absurd hn (by decide)
  · exact dec_n2 (Int.le_trans (by decide) a) (Int.lt_of_le_of_lt b (by decide)) (fun _ hb => ok2 a b hb) hr
  · exact dec_n3 (by rw [a]; decide) (by rw [a]; decide) (fun _ _ hb hc => by rw [a]; exact ok3a hb hc) hr
  · exact dec_n3 (Int.le_trans (by decide) a) (Int.lt_of_le_of_lt b (by decide)) (fun _ _ hb hc => ok3b a (Int.le_trans b (by decide)) (Int.ne_of_lt (Int.lt_of_le_of_lt b (by decide))) hb hc) hr
  · exact dec_n3 (by rw [a]; decide) (by rw [a]; decide) (fun _ _ hb hc => by rw [a]; exact ok3c hb hc) hr
  · exact dec_n3 (Int.le_trans (by decide) a) (Int.lt_of_le_of_lt b (by decide)) (fun _ _ hb hc => ok3b (Int.le_trans (by decide) a) b (Int.ne_of_gt (Int.lt_of_lt_of_le (by decide) a)) hb hc) hr
  · exact dec_n4 (by rw [a]; decide) (by rw [a]; decide) (fun _ _ _ hb hc hd => by rw [a]; exact ok4a hb hc hd) hr
  · exact dec_n4 (Int.le_trans (by decide) a) (Int.lt_of_le_of_lt b (by decide)) (fun _ _ _ hb hc hd => ok4b a b hb hc hd) hr
  · exact dec_n4 (by rw [a]; decide) (by rw [a]; decide) (fun _ _ _ hb hc hd => by rw [a]; exact ok4c hb hc hd) hr
  · exact absurd hn (by decide)
/-- the law's table and decoded agree at a lead of two octets or more -/
theorem dec_n {ks : List Int} {i : Nat} {n lo hi : Int} {rs : List Int} (hs : sizes (ks.getD i 0) = (n, lo, hi)) (hn : 2 ≤ n) (hr : rs = (ks.drop (i + 1)).take (n - 1).toNat) :
    (((rs.length : Int) = n - 1 ∧ rs.filter (fun k => decide ¬(128 ≤ k ∧ k ≤ 191)) = [] ∧ lo ≤ rs.getD 0 0 ∧ rs.getD 0 0 ≤ hi) → decOf ks i = (lawFold ((ks.getD i 0).fmod (2 ^ (7 - n).toNat)) rs, (i : Int) + n)) ∧
    (¬ ((rs.length : Int) = n - 1 ∧ rs.filter (fun k => decide ¬(128 ≤ k ∧ k ≤ 191)) = [] ∧ lo ≤ rs.getD 0 0 ∧ rs.getD 0 0 ≤ hi) → decOf ks i = (-1 - ks.getD i 0, (i : Int) + 1)) := by
  rw [filt]
  exact decP_of hs hn hr
end
/-! part P2 -/
section
section
variable {ks : List Int}
theorem getD_oct (hO : ∀ k ∈ ks, 0 ≤ k ∧ k < 256) (i : Nat) : 0 ≤ ks.getD i 0 ∧ ks.getD i 0 < 256 := by
  rw [List.getD_eq_getElem?_getD]
  cases h : ks[i]? with
  | none => exact ⟨by decide, by decide⟩
  | some k => exact hO k (List.mem_of_getElem? h)
theorem whole_0' {i : Nat} {v : Int} (h : leadOf (ks.getD i 0) = some (0, v)) : wholeAt ks i = none ∨ (i < ks.length ∧ v < 128 ∧ wholeAt ks i = some v) := by
  by_cases h1 : i < ks.length
  · by_cases hc : Okc v 1
    · refine .inr ⟨h1, ?_, whole_ok h (by omega) rfl hc⟩
      exact size_1.mp (okc_size hc)
    · exact .inl (whole_no4 h rfl hc)
  · exact .inl (whole_no2 h (by omega))
/-- what a whole sign is -/
theorem whole_inv {i : Nat} {c : Int} (h : wholeAt ks i = some c) :
    (ks.getD i 0 < 128 ∧ i < ks.length ∧ c = ks.getD i 0) ∨
    (192 ≤ ks.getD i 0 ∧ ks.getD i 0 < 224 ∧ i + 1 < ks.length ∧ Fol (ks.getD (i + 1) 0) ∧ Okc c 2 ∧ c = (ks.getD i 0 - 192) * 64 + ks.getD (i + 1) 0 - 128) ∨
    (224 ≤ ks.getD i 0 ∧ ks.getD i 0 < 240 ∧ i + 2 < ks.length ∧ Fol (ks.getD (i + 1) 0) ∧ Fol (ks.getD (i + 2) 0) ∧ Okc c 3 ∧ c = ((ks.getD i 0 - 224) * 64 + ks.getD (i + 1) 0 - 128) * 64 + ks.getD (i + 2) 0 - 128) ∨
    (240 ≤ ks.getD i 0 ∧ ks.getD i 0 < 248 ∧ i + 3 < ks.length ∧ Fol (ks.getD (i + 1) 0) ∧ Fol (ks.getD (i + 2) 0) ∧ Fol (ks.getD (i + 3) 0) ∧ Okc c 4 ∧ c = (((ks.getD i 0 - 240) * 64 + ks.getD (i + 1) 0 - 128) * 64 + ks.getD (i + 2) 0 - 128) * 64 + ks.getD (i + 3) 0 - 128) := by
  by_cases c0 : ks.getD i 0 < 128
  · rcases whole_0' (lead_of_0 c0) with e | ⟨a, b, e⟩
    · rw [e] at h; cases h
    · rw [e] at h; cases h; exact .inl ⟨b, a, rfl⟩
  by_cases c1 : ks.getD i 0 < 192
  · rw [whole_no1 (lead_of_n (.inl ⟨by omega, c1⟩))] at h; cases h
  by_cases c2 : ks.getD i 0 < 224
  · rcases whole_1' (lead_of_1 (by omega) c2) with e | ⟨a, b, d, e⟩
    · rw [e] at h; cases h
    · rw [e] at h; cases h; exact .inr (.inl ⟨by omega, c2, a, b, d, rfl⟩)
  by_cases c3 : ks.getD i 0 < 240
  · rcases whole_2' (lead_of_2 (by omega) c3) with e | ⟨a, b, b2, d, e⟩
    · rw [e] at h; cases h
    · rw [e] at h; cases h; exact .inr (.inr (.inl ⟨by omega, c3, a, b, b2, d, rfl⟩))
  by_cases c4 : ks.getD i 0 < 248
  · rcases whole_3' (lead_of_3 (by omega) c4) with e | ⟨a, b, b2, b3, d, e⟩
    · rw [e] at h; cases h
    · rw [e] at h; cases h; exact .inr (.inr (.inr ⟨by omega, c4, a, b, b2, b3, d, rfl⟩))
  · rw [whole_no1 (lead_of_n (.inr (by omega)))] at h; cases h
theorem dq {a b : Int} (f : Fol b) : (a * 64 + b - 128) / 64 = a ∧ (a * 64 + b - 128) % 64 = b - 128 := by
  obtain ⟨f, f'⟩ := f
  constructor <;> omega
theorem ac {a b : Int} : a + (b - a) = b := by omega
theorem cut_1 {i : Nat} (h : i < ks.length) : (ks.drop i).take 1 = [ks.getD i 0] := by
  rw [drop_one h, List.take_succ_cons, List.take_zero]
theorem cut_2 {i : Nat} (h : i + 1 < ks.length) : (ks.drop i).take 2 = [ks.getD i 0, ks.getD (i + 1) 0] := by
  rw [drop_one (by omega), drop_one h, List.take_succ_cons, List.take_succ_cons, List.take_zero]
theorem cut_3 {i : Nat} (h : i + 2 < ks.length) : (ks.drop i).take 3 = [ks.getD i 0, ks.getD (i + 1) 0, ks.getD (i + 2) 0] := by
  rw [drop_one (by omega), drop_one (show i + 1 < ks.length by omega), drop_one (show i + 1 + 1 < ks.length from h), List.take_succ_cons, List.take_succ_cons, List.take_succ_cons, List.take_zero]
theorem cut_4 {i : Nat} (h : i + 3 < ks.length) : (ks.drop i).take 4 = [ks.getD i 0, ks.getD (i + 1) 0, ks.getD (i + 2) 0, ks.getD (i + 3) 0] := by
  rw [drop_one (by omega), drop_one (show i + 1 < ks.length by omega), drop_one (show i + 1 + 1 < ks.length by omega), drop_one (show i + 1 + 1 + 1 < ks.length from h), List.take_succ_cons, List.take_succ_cons, List.take_succ_cons, List.take_succ_cons, List.take_zero]
/-- a whole sign's octets -/
theorem enc_whole (hO : ∀ k ∈ ks, 0 ≤ k ∧ k < 256) {i : Nat} {c : Int} (h : wholeAt ks i = some c) : encL c = (ks.drop i).take (sizeOf' c).toNat := by
  rcases whole_inv h with ⟨a, b, e⟩ | ⟨a, a', b, f1, ok, e⟩ | ⟨a, a', b, f1, f2, ok, e⟩ | ⟨a, a', b, f1, f2, f3, ok, e⟩
  · rw [← e] at a
    rw [size_1.mpr a, ← enc_1 (Int.not_lt.mpr (e ▸ (getD_oct hO i).1)) (size_1.mpr a), e]
    exact (cut_1 b).symm
  · rw [okc_size ok, enc_2 (okc_2.mp ok).1 (okc_2.mp ok).2, e, (dq f1).1, (dq f1).2, ac, ac]
    exact (cut_2 b).symm
  · rw [okc_size ok, enc_3 (okc_3.mp ok).1.1 (okc_3.mp ok).1.2, ← div_div, e, (dq f2).1, (dq f2).2, (dq f1).1, (dq f1).2, ac, ac, ac]
    exact (cut_3 b).symm
  · rw [okc_size ok, enc_4 (okc_4.mp ok).1, ← div_div2, ← div_div, e, (dq f3).1, (dq f3).2, (dq f2).1, (dq f2).2, (dq f1).1, (dq f1).2, ac, ac, ac, ac]
    exact (cut_4 b).symm
theorem whole_size {i : Nat} {c : Int} (h : wholeAt ks i = some c) : (i : Int) + sizeOf' c ≤ (ks.length : Int) := by
  rcases whole_inv h with ⟨a, b, e⟩ | ⟨_, _, b, _, ok, _⟩ | ⟨_, _, b, _, _, ok, _⟩ | ⟨_, _, b, _, _, _, ok, _⟩
  · rw [size_1.mpr (e ▸ a)]; exact Int.ofNat_le.mpr b
  · rw [okc_size ok]; exact Int.ofNat_le.mpr b
  · rw [okc_size ok]; exact Int.ofNat_le.mpr b
  · rw [okc_size ok]; exact Int.ofNat_le.mpr b
theorem nat_in {i t n : Nat} {m : Int} (h0 : i < t) (h1 : (t : Int) < (i : Int) + m) (hn : m = n) : ∃ j, t = i + j ∧ 0 < j ∧ j < n := ⟨t - i, by omega, by omega, by omega⟩
theorem within_of {i t j : Nat} (e : t = i + j) (h : j < 4) : (i : Int) ≥ t - 3 := by omega
theorem whole_within {i t : Nat} {c : Int} (h : wholeAt ks i = some c) (h0 : i < t) (h1 : (t : Int) < (i : Int) + sizeOf' c) : Fol (ks.getD t 0) ∧ (i : Int) ≥ t - 3 := by
  rcases whole_inv h with ⟨a, b, e⟩ | ⟨_, _, b, f1, ok, _⟩ | ⟨_, _, b, f1, f2, ok, _⟩ | ⟨_, _, b, f1, f2, f3, ok, _⟩
  · obtain ⟨j, _, h2, h3⟩ := nat_in h0 h1 (size_1.mpr (e ▸ a))
    exact absurd h2 (Nat.not_lt.mpr (Nat.le_of_lt_succ h3))
  · obtain ⟨j, rfl, h2, h3⟩ := nat_in (n := 2) h0 h1 (okc_size ok)
    refine ⟨?_, within_of rfl (Nat.lt_trans h3 (by decide))⟩
    match j, h2, h3 with
    | 1, _, _ => exact f1
  · obtain ⟨j, rfl, h2, h3⟩ := nat_in (n := 3) h0 h1 (okc_size ok)
    refine ⟨?_, within_of rfl (Nat.lt_trans h3 (by decide))⟩
    match j, h2, h3 with
    | 1, _, _ => exact f1
    | 2, _, _ => exact f2
  · obtain ⟨j, rfl, h2, h3⟩ := nat_in (n := 4) h0 h1 (okc_size ok)
    refine ⟨?_, within_of rfl h3⟩
    match j, h2, h3 with
    | 1, _, _ => exact f1
    | 2, _, _ => exact f2
    | 3, _, _ => exact f3
theorem whole_lead {i : Nat} {c : Int} (h : wholeAt ks i = some c) : ¬ Fol (ks.getD i 0) := by
  rintro ⟨h1, h2⟩
  rcases whole_inv h with ⟨a, _⟩ | ⟨a, _⟩ | ⟨a, _⟩ | ⟨a, _⟩
  · exact absurd h1 (Int.not_le.mpr a)
  · exact absurd h2 (Int.not_lt.mpr a)
  · exact absurd h2 (Int.not_lt.mpr (Int.le_trans (by decide) a))
  · exact absurd h2 (Int.not_lt.mpr (Int.le_trans (by decide) a))
theorem dec_le {i : Nat} (h : i < ks.length) : (decOf ks i).2 ≤ (ks.length : Int) := by
  unfold decOf
  split
  · show (i : Int) + 1 ≤ _; omega
  · rename_i c e
    exact whole_size e
/-- decoded, encoded again -/
theorem add_sub_i {i m : Int} : (i + m - i).toNat = m.toNat := by rw [show i + m - i = m by omega]
theorem neg_back {k : Int} : -1 - (-1 - k) = k := by omega
theorem neg_neg' {k : Int} (h : 0 ≤ k) : -1 - k < 0 := by omega
theorem enc_dec (hO : ∀ k ∈ ks, 0 ≤ k ∧ k < 256) {i : Nat} (h : i < ks.length) : encL (decOf ks i).1 = (ks.drop i).take ((decOf ks i).2 - i).toNat := by
  unfold decOf
  split
  · show encL (-1 - ks.getD i 0) = (ks.drop i).take (((i : Int) + 1 - i).toNat)
    rw [add_sub_i, ← enc_neg (neg_neg' (getD_oct hO i).1), neg_back]
    exact (cut_1 h).symm
  · rename_i c e
    show encL c = (ks.drop i).take (((i : Int) + sizeOf' c - i).toNat)
    rw [add_sub_i]
    exact enc_whole hO e
theorem neg_in {k : Int} (h : 0 ≤ k ∧ k < 256) : -256 ≤ -1 - k ∧ -1 - k < 1114112 := by omega
theorem dec_range (hO : ∀ k ∈ ks, 0 ≤ k ∧ k < 256) (i : Nat) : -256 ≤ (decOf ks i).1 ∧ (decOf ks i).1 < 1114112 := by
  unfold decOf
  split
  · exact neg_in (getD_oct hO i)
  · rename_i c e
    refine ⟨Int.le_trans (b := 0) (by decide) ?_, wholeAt_lt e⟩
    rcases whole_inv e with ⟨_, _, e⟩ | ⟨_, _, _, _, ok, _⟩ | ⟨_, _, _, _, _, ok, _⟩ | ⟨_, _, _, _, _, _, ok, _⟩
    · exact e ▸ (getD_oct hO i).1
    · exact Int.le_trans (by decide) (okc_2.mp ok).1
    · exact Int.le_trans (by decide) (okc_3.mp ok).1.1
    · exact Int.le_trans (by decide) (okc_4.mp ok).1
theorem nextN_is {p : Nat} : ((nextN ks p : Nat) : Int) = (decOf ks p).2 := by
  have := decOf_step ks p
  unfold nextN; omega
/-- the starts from p on, once more -/
theorem from_cons {p : Nat} (h : p < ks.length) : startsF ks (ks.length - p) p = (p : Int) :: startsF ks (ks.length - nextN ks p) (nextN ks p) := startsF_step h
theorem from_ind {P : Nat → List Int → Prop} (h0 : ∀ p, ¬ p < ks.length → P p []) (h1 : ∀ p, p < ks.length → p < nextN ks p → nextN ks p ≤ ks.length → P (nextN ks p) (startsF ks (ks.length - nextN ks p) (nextN ks p)) → P p ((p : Int) :: startsF ks (ks.length - nextN ks p) (nextN ks p))) :
    ∀ p, P p (startsF ks (ks.length - p) p) := by
  have key : ∀ n p, ks.length - p ≤ n → P p (startsF ks (ks.length - p) p) := by
    intro n
    induction n with
    | zero =>
      intro p hp
      rw [startsF_end (by omega)]; exact h0 p (by omega)
    | succ n ih =>
      intro p hp
      by_cases h : p < ks.length
      · rw [startsF_step h]
        have hs := decOf_step ks p
        have hn := nextN_is (ks := ks) (p := p)
        have hl := dec_le h
        exact h1 p h (by omega) (by omega) (ih _ (by omega))
      · rw [startsF_end h]; exact h0 p h
  exact fun p => key _ p (Nat.le_refl _)
theorem startsL_from : startsL ks = startsF ks (ks.length - 0) 0 := rfl
theorem from_mem (p : Nat) : ∀ k ∈ startsF ks (ks.length - p) p, (p : Int) ≤ k ∧ k < (ks.length : Int) := fun k h => startsF_mem ks _ _ k h
theorem from_sorted (p : Nat) : (startsF ks (ks.length - p) p).Pairwise (· < ·) := by
  refine from_ind (P := fun _ l => l.Pairwise (· < ·)) (fun _ _ => .nil) (fun p h hn _ ih => ?_) p
  refine List.Pairwise.cons (fun k hk => ?_) ih
  have := (from_mem _ k hk).1
  omega
theorem from_gap (p : Nat) : ∀ k ∈ startsF ks (ks.length - p) p, ∀ t ∈ startsF ks (ks.length - p) p, k < t → (decOf ks k.toNat).2 ≤ t := by
  refine from_ind (P := fun _ l => ∀ k ∈ l, ∀ t ∈ l, k < t → (decOf ks k.toNat).2 ≤ t) (fun _ _ k hk => nomatch hk) (fun p h hn _ ih => ?_) p
  intro k hk t ht hlt
  rcases List.mem_cons.mp hk with rfl | hk
  · rcases List.mem_cons.mp ht with rfl | ht
    · omega
    · have := (from_mem _ t ht).1
      rw [nextN_is] at this
      exact this
  · rcases List.mem_cons.mp ht with rfl | ht
    · have := (from_mem _ k hk).1
      omega
    · exact ih k hk t ht hlt
theorem from_cover (p : Nat) : ∀ t : Int, (p : Int) ≤ t → t < (ks.length : Int) → t ∉ startsF ks (ks.length - p) p → ∃ k ∈ startsF ks (ks.length - p) p, k < t ∧ t < (decOf ks k.toNat).2 := by
  refine from_ind (P := fun p l => ∀ t : Int, (p : Int) ≤ t → t < (ks.length : Int) → t ∉ l → ∃ k ∈ l, k < t ∧ t < (decOf ks k.toNat).2) (fun p h t a b _ => by omega) (fun p h hn _ ih => ?_) p
  intro t a b hnot
  rw [List.mem_cons, not_or] at hnot
  by_cases hc : t < (decOf ks p).2
  · exact ⟨p, List.mem_cons_self, by omega, hc⟩
  · obtain ⟨k, hk, h1, h2⟩ := ih t (by rw [nextN_is]; omega) b hnot.2
    exact ⟨k, List.mem_cons_of_mem _ hk, h1, h2⟩
theorem dec_long {i : Nat} (h : (decOf ks i).2 ≠ (i : Int) + 1) : ∃ c, wholeAt ks i = some c ∧ (decOf ks i).2 = (i : Int) + sizeOf' c := by
  unfold decOf at h ⊢
  split at h
  · exact absurd rfl h
  · rename_i c e
    exact ⟨c, e, rfl⟩
/-- what is no start is covered -/
theorem cov_of {p : Int} (h0 : 0 ≤ p) (h1 : p < (ks.length : Int)) (hn : p ∉ startsL ks) : ∃ k c, 0 ≤ k ∧ k < p ∧ wholeAt ks k.toNat = some c ∧ p < k + sizeOf' c ∧ Fol (ks.getD p.toNat 0) ∧ p - 3 ≤ k := by
  rw [startsL_from] at hn
  obtain ⟨k, hk, ha, hb⟩ := from_cover 0 p h0 h1 hn
  have hk0 : 0 ≤ k := (from_mem 0 k hk).1
  have ek := Int.toNat_of_nonneg hk0
  have ep := Int.toNat_of_nonneg h0
  obtain ⟨c, hw, hd⟩ := dec_long (ks := ks) (i := k.toNat) (by rw [ek]; exact Int.ne_of_gt (Int.lt_of_le_of_lt (Int.add_one_le_of_lt ha) hb))
  rw [hd, ek] at hb
  have hin := whole_within (t := p.toNat) hw (Int.ofNat_lt.mp (by rw [ek, ep]; exact ha)) (by rw [ek, ep]; exact hb)
  rw [ek, ep] at hin
  exact ⟨k, c, hk0, ha, hw, hb, hin.1, hin.2⟩
/-- is_start tells the scan's starts -/
theorem starts_iff (p : Int) : IsStart ks p ↔ p ∈ startsL ks := by
  constructor
  · rintro ⟨h0, h1, h2⟩
    apply Classical.byContradiction
    intro hn
    obtain ⟨k, c, hk0, ha, hw, hb, hf, h3⟩ := cov_of h0 h1 hn
    rcases h2 with h2 | h2
    · exact h2 hf
    · exact h2 k hk0 h3 ha ⟨c, hw, hb⟩
  · intro h
    have hm := startsL_mem h
    refine ⟨hm.1, hm.2, ?_⟩
    by_cases hf : 128 ≤ ks.getD p.toNat 0 ∧ ks.getD p.toNat 0 < 192
    · refine .inr fun q a b c hc => ?_
      obtain ⟨v, hw, hl⟩ := hc
      have hq : q ∈ startsL ks := Classical.byContradiction fun hn => by
        obtain ⟨k, c', _, _, _, _, hf', _⟩ := cov_of a (Int.lt_trans c hm.2) hn
        exact whole_lead hw hf'
      have := from_gap 0 q hq p h c
      unfold decOf at this
      rw [hw] at this
      have : (q.toNat : Int) + sizeOf' v ≤ p := this
      rw [Int.toNat_of_nonneg a] at this
      exact absurd hl (Int.not_lt.mpr this)
    · exact .inl hf
/-- the octets again -/
theorem from_join (hO : ∀ k ∈ ks, 0 ≤ k ∧ k < 256) (p : Nat) : ((startsF ks (ks.length - p) p).map fun k => encL (decOf ks k.toNat).1).flatten = ks.drop p := by
  refine from_ind (P := fun p l => (l.map fun k => encL (decOf ks k.toNat).1).flatten = ks.drop p) (fun p h => ?_) (fun p h hn hl ih => ?_) p
  · rw [List.drop_eq_nil_of_le (by omega)]; rfl
  · rw [List.map_cons, List.flatten_cons, ih]
    show encL (decOf ks p).1 ++ _ = _
    rw [enc_dec hO h]
    rw [← nextN_is, Int.toNat_sub]
    have : ks.drop (nextN ks p) = (ks.drop p).drop (nextN ks p - p) := by rw [List.drop_drop, Nat.add_sub_of_le (Nat.le_of_lt hn)]
    rw [this, List.take_append_drop]
theorem codes_join (hO : ∀ k ∈ ks, 0 ≤ k ∧ k < 256) : ((codesL ks).map encL).flatten = ks := by
  have := from_join hO 0
  rw [List.drop_zero] at this
  unfold codesL
  rw [List.map_map]
  exact this
theorem codes_range (hO : ∀ k ∈ ks, 0 ≤ k ∧ k < 256) : ∀ c ∈ codesL ks, -256 ≤ c ∧ c < 1114112 := by
  intro c hc
  unfold codesL at hc
  obtain ⟨k, _, rfl⟩ := List.mem_map.mp hc
  exact dec_range hO _
theorem codes_valid : (codesL ks).all (fun c => decide (0 ≤ c)) = decide ((codesL ks).filter (fun c => decide (c < 0)) = []) := by
  rw [Bool.eq_iff_iff, List.all_eq_true, decide_eq_true_eq, List.filter_eq_nil_iff]
  constructor
  · intro h c hc hd
    have := h c hc
    rw [decide_eq_true_eq] at this hd
    omega
  · intro h c hc
    have := h c hc
    rw [decide_eq_true_eq] at this ⊢
    omega
/-- each start's end -/
theorem from_end (p : Nat) : ∀ (i : Nat) (a e : Int), (startsF ks (ks.length - p) p)[i]? = some a → ((startsF ks (ks.length - p) p).tail ++ [(ks.length : Int)])[i]? = some e → (decOf ks a.toNat).2 = e := by
  refine from_ind (P := fun p l => ∀ (i : Nat) (a e : Int), l[i]? = some a → (l.tail ++ [(ks.length : Int)])[i]? = some e → (decOf ks a.toNat).2 = e) (fun p h i a e ha => by simp at ha) (fun p h hn hl ih => ?_) p
  intro i a e ha he
  rw [List.tail_cons] at he
  cases i with
  | zero =>
    rw [List.getElem?_cons_zero] at ha
    cases ha
    have hx := nextN_is (ks := ks) (p := p)
    show (decOf ks p).2 = e
    by_cases hq : nextN ks p < ks.length
    · rw [startsF_step hq, List.cons_append, List.getElem?_cons_zero] at he
      cases he; omega
    · rw [startsF_end hq, List.nil_append, List.getElem?_cons_zero] at he
      cases he; omega
  | succ i =>
    rw [List.getElem?_cons_succ] at ha
    refine ih i a e ha ?_
    cases hl' : startsF ks (ks.length - nextN ks p) (nextN ks p) with
    | nil => rw [hl'] at ha; simp at ha
    | cons b r => rw [hl', List.cons_append, List.getElem?_cons_succ] at he; exact he
theorem starts_end {i : Nat} {a e : Int} (ha : (startsL ks)[i]? = some a) (he : ((startsL ks).tail ++ [(ks.length : Int)])[i]? = some e) : (decOf ks a.toNat).2 = e := from_end 0 i a e ha he
/-- next_index tells the first start behind -/
theorem next_head {p v : Int} (h : NextSpec ks p v) (hp : -1 ≤ p) : ((startsL ks).filter (fun k => decide (k > p)) ++ [(ks.length : Int)])[0]? = some v := by
  have hsrt := from_sorted (ks := ks) 0
  rw [← startsL_from] at hsrt
  have hf := hsrt.filter (fun k => decide (k > p))
  rcases h with ⟨rfl, hn⟩ | ⟨h1, h2, h3, hn⟩
  · have : (startsL ks).filter (fun k => decide (k > p)) = [] := by
      rw [List.filter_eq_nil_iff]
      intro k hk hd
      rw [decide_eq_true_eq] at hd
      exact hn k (by omega) (startsL_mem hk).2 ((starts_iff k).mpr hk)
    rw [this]; rfl
  · have hv : v ∈ (startsL ks).filter (fun k => decide (k > p)) := List.mem_filter.mpr ⟨(starts_iff v).mp h3, decide_eq_true (by omega)⟩
    cases hl : (startsL ks).filter (fun k => decide (k > p)) with
    | nil => rw [hl] at hv; exact nomatch hv
    | cons b r =>
      rw [hl] at hv hf
      rw [List.cons_append, List.getElem?_cons_zero]
      rcases List.mem_cons.mp hv with e | hv
      · rw [e]
      · exfalso
        have hbv := (List.pairwise_cons.mp hf).1 v hv
        have hb : b ∈ (startsL ks).filter (fun k => decide (k > p)) := by rw [hl]; exact List.mem_cons_self
        obtain ⟨hb1, hb2⟩ := List.mem_filter.mp hb
        rw [decide_eq_true_eq] at hb2
        exact hn b (by omega) hbv ((starts_iff b).mpr hb1)
/-- prev_index tells the last start ahead -/
theorem prev_last {p v : Int} (h : PrevSpec ks p v) : ((-1 : Int) :: (startsL ks).filter (fun k => decide (k < p))).getLast? = some v := by
  have hsrt := from_sorted (ks := ks) 0
  rw [← startsL_from] at hsrt
  have hf := hsrt.filter (fun k => decide (k < p))
  rcases h with ⟨rfl, hn⟩ | ⟨h1, h2, h3, hn⟩
  · have : (startsL ks).filter (fun k => decide (k < p)) = [] := by
      rw [List.filter_eq_nil_iff]
      intro k hk hd
      rw [decide_eq_true_eq] at hd
      exact hn k (startsL_mem hk).1 (by omega) ((starts_iff k).mpr hk)
    rw [this]; rfl
  · have hv : v ∈ (startsL ks).filter (fun k => decide (k < p)) := List.mem_filter.mpr ⟨(starts_iff v).mp h3, decide_eq_true (by omega)⟩
    cases hl : ((-1 : Int) :: (startsL ks).filter (fun k => decide (k < p))).getLast? with
    | none => simp at hl
    | some b =>
      obtain ⟨r, hr⟩ := List.getLast?_eq_some_iff.mp hl
      have hne : (startsL ks).filter (fun k => decide (k < p)) ≠ [] := List.ne_nil_of_mem hv
      have hb : b ∈ (startsL ks).filter (fun k => decide (k < p)) := by
        rw [List.getLast?_cons, List.getLast?_eq_some_getLast hne, Option.getD_some] at hl
        cases hl; exact List.getLast_mem _
      obtain ⟨hb1, hb2⟩ := List.mem_filter.mp hb
      rw [decide_eq_true_eq] at hb2
      by_cases hbv : b = v
      · rw [hbv]
      · exfalso
        have h4 : b < v := by
          apply Classical.byContradiction
          intro h5
          exact hn b (by omega) (by omega) ((starts_iff b).mpr hb1)
        have hv2 : v ∈ r ++ [b] := by rw [← hr]; exact List.mem_cons_of_mem _ hv
        have hp2 : (r ++ [b]).Pairwise (· < ·) := by
          rw [← hr]
          refine List.Pairwise.cons (fun k hk => ?_) hf
          have := startsL_mem (List.mem_filter.mp hk).1
          omega
        rcases List.mem_append.mp hv2 with hv2 | hv2
        · have := (List.pairwise_append.mp hp2).2.2 v hv2 b List.mem_cons_self
          omega
        · have := List.mem_singleton.mp hv2; omega
end
end
/-! part Cut -/
section
open PySem PySem.W PyProof.Rows PySem.Spec PySem.Calls PyProof.V
/-- a cut: what holds of the value when a tree is done, the frame and the ledger as they were -/
noncomputable def CutV {α : Type} (h₀ : Heap) (L : Addr) (m : Str → Option Value) (news : List (Addr × Obj)) (s : Shared) (G : α → Prop) (r : α) (s' : Shared) : Prop :=
  ∃ h' k, s' = { s with heap := h', toks := k } ∧ Fr h₀ L h' m ∧ News h₀ L h' news ∧ G r
theorem CutV.mk {α : Type} {h₀ h' : Heap} {L : Addr} {m : Str → Option Value} {news news' : List (Addr × Obj)} {s : Shared} {G : α → Prop} {r : α} {k : Nat} (F : Fr h₀ L h' m) (N : News h₀ L h' news') (hs : ∀ p ∈ news, p ∈ news') (g : G r) : CutV h₀ L m news s G r { s with heap := h', toks := k } :=
  ⟨h', k, rfl, F, fun p hp => N p (hs p hp), g⟩
section
variable {prog : Program} {w : World} {A : Around} {E : Value → Shared → Prop} {s : Shared} {h₀ : Heap} {L : Addr} {m : Str → Option Value} {news : List (Addr × Obj)}
theorem cut_val {α : Type} {T : Sem α} {Q : α → Shared → Prop} (G : α → Prop) (_F : Fr h₀ L s.heap m) (_N : News h₀ L s.heap news) (h : wpAny (model prog w) A T (CutV h₀ L m news s G) E s) (k : ∀ r h' tk, Fr h₀ L h' m → News h₀ L h' news → G r → Q r { s with heap := h', toks := tk }) : wpAny (model prog w) A T Q E s :=
  wpAny_mono h (fun r s' ⟨h', tk, e, F', N', g⟩ => by rw [e]; exact k r h' tk F' N' g) fun _ _ e => e
theorem cut_bool {T : Sem Bool} {Q : Bool → Shared → Prop} (C : Prop) (_F : Fr h₀ L s.heap m) (_N : News h₀ L s.heap news) (h : wpAny (model prog w) A T (CutV h₀ L m news s (fun b => b = true ↔ C)) E s) (k1 : ∀ h' tk, Fr h₀ L h' m → News h₀ L h' news → C → Q true { s with heap := h', toks := tk })
    (k0 : ∀ h' tk, Fr h₀ L h' m → News h₀ L h' news → ¬ C → Q false { s with heap := h', toks := tk }) : wpAny (model prog w) A T Q E s := by
  refine cut_val (fun b => b = true ↔ C) _F _N h fun r h' tk F' N' g => ?_
  cases r with
  | true => exact k1 h' tk F' N' (g.mp rfl)
  | false => exact k0 h' tk F' N' fun c => absurd (g.mpr c) Bool.false_ne_true
end
end
/-! part S10 -/
section
theorem sizes_use1 {o : Int} {h h' : Heap} {r : Value} {G : Prop} (o9 : Tup3Out (sizes o) h h' r)
    (k : ∀ n lo hi, 0 ≤ n → n ≤ 4 → sizes o = (n, lo, hi) → ∀ T u1 u2 u3, r = .ref T → h.get? T = none → h'.get? T = some (tupO [.int n u1, .int lo u2, .int hi u3]) → G) : G := by
  obtain ⟨T, u1, u2, u3, a, b, c⟩ := o9
  have hb : 0 ≤ (sizes o).1 ∧ (sizes o).1 ≤ 4 := by
    rcases sizes_cases o with ⟨_, _, e⟩ | ⟨_, _, e⟩ | ⟨_, e⟩ | ⟨_, _, e⟩ | ⟨_, e⟩ | ⟨_, _, e⟩ | ⟨_, e⟩ | ⟨_, _, e⟩ | ⟨_, e⟩ | ⟨_, e⟩ <;> rw [e] <;> exact ⟨by decide, by decide⟩
  exact k _ _ _ hb.1 hb.2 rfl T u1 u2 u3 a b c
theorem clip_min {n : Nat} {a : Int} (h : 0 ≤ a) : clipAt n a = min a.toNat n := by
  have c := clipAt_min (n := n) h
  split at c <;> omega
theorem min_nat {x y : Nat} (n : Nat) : min (min x n - min y n) (n - y) = min (x - y) (n - y) := by
  rcases Nat.le_total n y with c | c
  · rw [Nat.sub_eq_zero_of_le c, Nat.min_zero, Nat.min_zero]
  · rw [Nat.min_eq_left c]
    rcases Nat.le_total x n with d | d
    · rw [Nat.min_eq_left d]
    · rw [Nat.min_eq_right d, Nat.min_self, Nat.min_eq_right (Nat.sub_le_sub_right d y)]
theorem min_cut {lo hi : Int} (n : Nat) (h0 : 0 ≤ lo) (_h1 : lo ≤ hi) : min (min hi.toNat n - min lo.toNat n) (n - lo.toNat) = min (hi - lo).toNat (n - lo.toNat) := by
  have e : (hi - lo).toNat = hi.toNat - lo.toNat := by
    have := Int.toNat_sub' hi lo.toNat
    rwa [Int.toNat_of_nonneg h0] at this
  rw [e]
  exact min_nat n
theorem slice_rest {prog : Program} {w : World} {A : Around} {E : Value → Shared → Prop} {s : Shared} {h₀ : Heap} {L : Addr} {m : Str → Option Value} {news : List (Addr × Obj)} {value slice : PySem.Expr} {b : Array UInt8} {t u1 u2 : Tok} {ks : List Int} {lo hi : Int} {Q : Value → Shared → Prop}
    (hF : Fr h₀ L s.heap m) (hN : News h₀ L s.heap news) (hk : KBw.bInts b = ks) (h0 : 0 ≤ lo) (h1 : lo ≤ hi) (hz : ks.length ≤ 64)
    (h : ∀ b' rs h' t' k, Fr h₀ L h' m → News h₀ L h' news → KBw.bInts b' = rs → rs = (ks.drop lo.toNat).take (hi - lo).toNat → rs.length ≤ 64 → Q (.bytes b' t') { s with heap := h', toks := k })
    (hs : subscripted slice false (.bytes b t) (.ref s.heap.objs.size) = operate [.ref s.heap.objs.size, .bytes b t] (getItem (.bytes b t) (.ref s.heap.objs.size)) := by with_unfolding_all rfl)
    (ht : ∀ r, letTemporaryGo value (.bytes b t) r = pure () := by intro _; with_unfolding_all rfl) :
    wpAny (model prog w) A (subscriptTail value slice (.bytes b t) (.ref s.heap.objs.size)) Q E { s with heap := s.heap.push { cls := .type "slice", data := .fields #[.int lo u1, .int hi u2, .none] } } := by
  refine KBc.slice_K hF hN hk (by constructor) (by constructor) (by omega) (fun h' t' k F N e => ?_) hs ht
  have e2 : (ks.drop ((some lo).elim 0 (clipAt ks.length))).take ((some hi).elim ks.length (clipAt ks.length) - (some lo).elim 0 (clipAt ks.length)) = (ks.drop lo.toNat).take (hi - lo).toNat := by
    show (ks.drop (clipAt ks.length lo)).take (clipAt ks.length hi - clipAt ks.length lo) = _
    rw [clip_min h0, clip_min (Int.le_trans h0 h1), kmk_drop_min, List.take_eq_take_iff, List.length_drop]
    exact min_cut _ h0 h1
  exact h _ _ h' t' k F N e e2 (Nat.le_trans (by rw [e2]; exact List.length_take_le' ..) (Nat.le_trans (by rw [List.length_drop]; exact Nat.sub_le ..) hz))
noncomputable def rowsOf (ks : List Int) (l : List Int) : List (Int × Int) := l.map fun i => (i, (decOf ks i.toNat).1)
noncomputable def RowsR (ks : List Int) (p : Int) (l : List (Int × Int)) : Prop := ∃ l0, l = rowsOf ks l0 ∧ StartsR ks p l0
noncomputable def RowsOut (l : List (Int × Int)) (h h' : Heap) (r : Value) : Prop := ∃ D vs n tl, r = .ref D ∧ RowsAre D l vs tl ∧ (∀ p ∈ (D, listOf vs.toArray n) :: tl, h.get? p.1 = none ∧ h'.get? p.1 = some p.2)
theorem rows_step {ks : List Int} {a a' c : Int} {l : List (Int × Int)} {l0 : List Int} (hl : l = rowsOf ks l0) (h0 : 0 ≤ a) (h1 : (l0.length : Int) ≤ a) (hb : l0 ++ startsF ks (ks.length - a.toNat) a.toNat = startsL ks) (ha : a < (ks.length : Int)) (hd : decOf ks a.toNat = (c, a')) : RowsR ks a' (l ++ [(a, c)]) := by
  refine ⟨l0 ++ [a], ?_, ?_⟩
  · rw [hl]; simp [rowsOf, hd]
  · have := (startsR_step ⟨h0, h1⟩ hb ha).1
    rw [hd] at this; exact this
theorem bool_split {b : Bool} {C : Prop} (h : b = true ↔ C) : (b = true ∧ C) ∨ (b = false ∧ ¬ C) := by
  cases b with
  | true => exact .inl ⟨rfl, h.mp rfl⟩
  | false => exact .inr ⟨rfl, fun c => absurd (h.mpr c) Bool.false_ne_true⟩
/-- the rest that the law cuts out -/
noncomputable def restL (ks : List Int) (a n : Int) : List Int := (ks.drop (a + 1).toNat).take (a + n - (a + 1)).toNat
theorem restL_none {ks : List Int} {a n : Int} (h : ¬ 1 < n) : restL ks a n = [] := by
  unfold restL
  rw [show (a + n - (a + 1)).toNat = 0 by omega, List.take_zero]
theorem restL_eq {ks : List Int} {a n : Int} (h : 0 ≤ a) : restL ks a n = (ks.drop (a.toNat + 1)).take (n - 1).toNat := by
  unfold restL
  rw [show (a + 1).toNat = a.toNat + 1 by omega, show a + n - (a + 1) = n - 1 by omega]
noncomputable abbrev RightC (rs : List Int) (n : Int) : Prop := 0 < n ∧ (rs.length : Int) = n - 1 ∧ rs.filter (fun k => decide ¬(128 ≤ k ∧ k ≤ 191)) = []
noncomputable abbrev SignC (rs : List Int) (n lo hi : Int) : Prop := RightC rs n ∧ (n = 1 ∨ (lo ≤ rs.getD (Int.toNat 0) 0 ∧ rs.getD (Int.toNat 0) 0 ≤ hi))
noncomputable def IntIs (c : Int) (r : Value) : Prop := ∃ t, r = .int c t
noncomputable abbrev code0 (o n : Int) : Int := if n = 1 then o else o.fmod (2 ^ (7 - n).toNat)
theorem sizes_1 {o lo hi : Int} (h : sizes o = (1, lo, hi)) : sizes o = (1, 0, 0) := by
  rcases sizes_cases o with ⟨_, _, e⟩ | ⟨_, _, e⟩ | ⟨_, e⟩ | ⟨_, _, e⟩ | ⟨_, e⟩ | ⟨_, _, e⟩ | ⟨_, e⟩ | ⟨_, _, e⟩ | ⟨_, e⟩ | ⟨_, e⟩ <;> rw [e] at h <;> first | exact e | exact absurd (congrArg Prod.fst h) (by dsimp only; decide)
theorem sizes_0 {o lo hi : Int} (h : sizes o = (0, lo, hi)) : sizes o = (0, 0, 0) := by
  rcases sizes_cases o with ⟨_, _, e⟩ | ⟨_, _, e⟩ | ⟨_, e⟩ | ⟨_, _, e⟩ | ⟨_, e⟩ | ⟨_, _, e⟩ | ⟨_, e⟩ | ⟨_, _, e⟩ | ⟨_, e⟩ | ⟨_, e⟩ <;> rw [e] at h <;> first | exact e | exact absurd (congrArg Prod.fst h) (by dsimp only; decide)
theorem rows_yes {ks rs : List Int} {a n lo hi : Int} (h0 : 0 ≤ a) (ha : a < (ks.length : Int)) (hs : sizes (ks.getD a.toNat 0) = (n, lo, hi)) (hr : rs = restL ks a n) (hc : SignC rs n lo hi) :
    decOf ks a.toNat = (List.foldl (fun a' k' => a' * 64 + k'.fmod 64) (code0 (ks.getD a.toNat 0) n) rs, a + n) := by
  obtain ⟨⟨h1, h2, h3⟩, h4⟩ := hc
  by_cases e : n = 1
  · subst e
    have er : rs = [] := by rw [hr, restL_none (by decide)]
    rw [dec_1 (by omega) (sizes_1 hs), er, Int.toNat_of_nonneg h0]; rfl
  · rw [(dec_n hs (by omega) (hr.trans (restL_eq h0))).1 ⟨h2, h3, (h4.resolve_left e).1, (h4.resolve_left e).2⟩, Int.toNat_of_nonneg h0]
    show _ = (List.foldl _ (if n = 1 then _ else _) rs, a + n)
    rw [if_neg e]; rfl
theorem rows_no {ks rs : List Int} {a n lo hi : Int} (h0 : 0 ≤ a) (k0 : 0 ≤ ks.getD a.toNat 0) (k1 : ks.getD a.toNat 0 < 256) (hn : 0 ≤ n) (hs : sizes (ks.getD a.toNat 0) = (n, lo, hi)) (hr : rs = restL ks a n) (hc : ¬ SignC rs n lo hi) :
    decOf ks a.toNat = (-1 - ks.getD a.toNat 0, a + 1) := by
  by_cases e0 : n = 0
  · subst e0
    rw [dec_0 k0 k1 (sizes_0 hs), Int.toNat_of_nonneg h0]
  · by_cases e : n = 1
    · subst e
      have er : rs = [] := by rw [hr, restL_none (by decide)]
      subst er
      exact absurd ⟨⟨by decide, rfl, rfl⟩, .inl rfl⟩ hc
    · rw [(dec_n hs (by omega) (hr.trans (restL_eq h0))).2 ?_, Int.toNat_of_nonneg h0]
      rintro ⟨q1, q2, q3, q4⟩
      exact hc ⟨⟨by omega, q1, q2⟩, .inr ⟨q3, q4⟩⟩
theorem rowsOut_mk {ks : List Int} {l0 : List Int} {l : List (Int × Int)} {p : Int} {D : Addr} {vs : List Value} {n : Nat} {tl : List (Addr × Obj)} {h h' : Heap} {L : Addr} (N : News h L h' ((D, listOf vs.toArray n) :: tl)) (hR : RowsAre D l vs tl) (hl : l = rowsOf ks l0) (h0 : 0 ≤ p) (h1 : (l0.length : Int) ≤ p) (hb : l0 ++ startsF ks (ks.length - p.toNat) p.toNat = startsL ks) (hp : ¬ p < (ks.length : Int)) : RowsOut (rowsOf ks (startsL ks)) h h' (.ref D) := by
  rw [startsR_end hb ⟨h0, h1⟩ hp] at hl
  subst hl
  exact ⟨D, vs, n, tl, rfl, hR, fun q hq => ⟨(N q hq).2.2, (N q hq).1⟩⟩
theorem append_rows {prog : Program} {w : World} {A : Around} {E : Value → Shared → Prop} {s : Shared} {h₀ : Heap} {L D T : Addr} {m : Str → Option Value} {news tl : List (Addr × Obj)} {vs : List Value} {n : Nat} {l : List (Int × Int)} {a c : Int} {t1 t2 : Tok} {Q : Value → Shared → Prop}
    (F : Fr h₀ L s.heap m) (N : News h₀ L s.heap news) (hD : (D, listOf vs.toArray n) ∈ news) (hT : (T, tupO [.int a t1, .int c t2]) ∈ news) (htl : ∀ p ∈ tl, p ∈ news) (hR : RowsAre D l vs tl) (hlen : vs.length ≤ 64)
    (h : ∀ h', Fr h₀ L h' m → News h₀ L h' ((D, listOf (vs ++ [Value.ref T]).toArray (n + 1)) :: (T, tupO [.int a t1, .int c t2]) :: tl) → RowsAre D (l ++ [(a, c)]) (vs ++ [Value.ref T]) ((T, tupO [.int a t1, .int c t2]) :: tl) → Q .none { s with heap := h' }) :
    wpAny (model prog w) A (call (.builtin "list.append") [.ref D, .ref T]) Q E s := by
  have hne : T ≠ D := by
    intro e
    have h1 := (N _ hD).1
    have h2 := (N _ hT).1
    rw [e] at h2
    rw [h1] at h2
    have h3 := congrArg Obj.cls (Option.some.inj h2)
    exact absurd h3 (by simp)
  have zD := N _ hD
  refine append_at (hsz := by rw [List.size_toArray, sizeLine_eq]; omega) zD.1 fun h' hs hD' => ?_
  refine h h' (F.change hs zD.2.1 zD.2.2) (fun p hp => ?_) (hR.snoc hne)
  rcases List.mem_cons.mp hp with rfl | hp
  · exact ⟨by rw [hD', List.push_toArray], zD.2⟩
  · rcases List.mem_cons.mp hp with rfl | hp
    · exact ⟨hs.extBut _ _ hne (N _ hT).1, (N _ hT).2⟩
    · exact ⟨hs.extBut _ _ (hR.2 p hp) (N p (htl p hp)).1, (N p (htl p hp)).2⟩
section
theorem law_rows_pu (w : World) (b : Array UInt8) (tb : Tok) (ks : List Int) (hks : KBw.bInts b = ks) (hsz : ks.length ≤ 64) : Pu w 178 [.bytes b tb] 4 100 (fun _ => True) (fun h h' r => RowsOut (rowsOf ks (startsL ks)) h h' r) := by
  w_top off
  (
      unfold Pu
      k_fill
      intro mean mg mb dp un gd cn cs a ccd cl outer A₀ base h₀ L m s Q E B F X T hk hpre hd hu hret
      refine wpAny_call ?_
      k_dflt (refine' pu_enter B F X T ?kA ?kF ?kK ?k6 ?k7 ?k8 ?k9 ?kB ?_ ?c2 ?c3 ?c4 ?c5; (case kA => exact rfl); (case kF => exact rfl); (case kK => assumption); (case k6 => k_is); (case k7 => k_is); (case k8 => ktr_room); (case k9 => exact BindsTo.of_eq rfl); (case c5 => decide); (case kB => exact locs rfl); (case c2 => exact rfl); (case c3 => exact rfl); (case c4 => exact rfl); k_whole)
      clear B F X T
      intro L' h' F' N' B' X' T'
      (try dsimp only)
      (try k_fold))
  k_with_none
  k_with "exec Assign" => k_fold
  k_with "exec Expr" => k_fold
  k_with "exec If" => k_fold
  k_with "exec Return" => k_fold
  k_with "exec AugAssign" => k_fold
  k_with "eval Call" => k_fold
  k_with "eval Compare" => k_fold
  k_with "isTrue Compare" => k_fold
  k_with "eval BinOp" => k_fold
  k_with "eval Subscript" => k_fold
  k_with "eval Tuple" => k_fold
  k_with "eval List" => k_fold
  k_with "eval BoolOp" => k_fold
  k_with "isTrue BoolOp Or" => k_fold
  k_with "isTrue BoolOp" => k_fold
  k_with "execs cons" => k_fold
  k_with "call ref" => ((k_here; first
      | (refine' Pu.use (law_sizes_pu _ _ _ ?h0 ?h1) ?k1 ?k2 ?k3 ?k4 ?k5 ?kK ?kp ?kd ?ku ?_; (case h0 => assumption); (case h1 => assumption); ((case k1 => k_asm); (case k2 => k_asm); (case k3 => k_asm); (case k4 => k_asm); (case k5 => k_asm); (case kK => first | exact rfl | assumption); (try (case kp => exact trivial)); (case kd => ktr_room); (case ku => ktr_units)); intro r9 h9 tk9 F9 N9 e9 o9; refine sizes_use1 o9 (fun n9 lo9 hi9 na9 nb9 es9 T9 u91 u92 u93 er9 hn9 hT9 => ?_); subst er9; have N9' := news_new (by assumption) (by assumption) e9 hn9 hT9; clear o9; (try dsimp only); (try k_fold))))
  k_with "call builtin:list.append" => ((k_here; k_dflt (refine' append_rows (tl := tl9) ?aF ?aN ?aD ?aT ?aS hI9 (by omega) ?_; (case aF => k_asm); (case aN => k_asm); (case aD => k_mem); (case aT => k_mem); (case aS => kcf_all)); intro h7 F7 N7 hI7))
  k_with "WEnd" => ((refine' WEnd.intro ?iF ?iN ?ia ⟨⟨_, _, _, _, _, _, rfl, ?ie, hI7, ?_, ?_⟩, ?is⟩; (case iF => assumption); (case iN => assumption); (case ie => rfl); (case ia => kcf_all); (case is => (intro z h1 h2; have h3 := h2; simp only [List.contains_cons, List.contains_nil, Bool.or_false, Bool.or_eq_false_iff, beq_eq_false_iff_ne, ne_eq] at h3; simp only [h1, h2, h3, if_false, Bool.false_eq_true, not_false_eq_true]))))
  k_with "InvEndN" => ((refine' InvEndN.intro ?iF ?iN ⟨rfl, ⟨_, ?ie⟩, ?is⟩ (by rfl) ?ia ?io; (case iF => assumption); (case iN => assumption); (case ie => rfl); (case is => (intro z h1 h2; simp only [h1, h2, if_false])); (case ia => first | kcf_all | (intro p hp; simp only [List.mem_cons, List.mem_append] at hp ⊢; (repeat' (rcases hp with hp | hp)) <;> simp [hp])); (case io => (intro p hp; simp only [List.mem_cons, List.mem_append]; simp [hp]))))
  k_with "WhlIf" => ((refine' whlIf_dec (fun hw8 => ?_) (fun hw8 => ?_)))
  k_with "WPost" => ((dsimp only [WPost]))
  k_with "eval ListComp" => ((k_here; k_dflt (refine ListComp_TB (by k_asm) (by with_unfolding_all rfl) (by decide) (by rfl) (by decide) (by rfl) ?_)))
  k_with "SrcTB" => ((k_dflt (refine SrcTB.intro (by kba_ints) (by rw [sizeLine_eq]; omega) (by rfl) (by k_asm) (by k_asm) ?_; intro g'; refine' cf_bytes (fun k => decide (¬ (128 ≤ k ∧ k ≤ 191))) (by kba_ints) (fun k' t' I' oI' C' oC' D' m' ys' h' tk' E' hk' hC' hx' F' N' off' ne' => ?_) (fun ys9 hys9 => ?_); (all_goals (try (simp only [LCg.Off3, and_true] at off'))))))
  k_with "CompEnd" => (first
      | (refine' LCg.CompEnd.intro ?cF ?cN _ ?ca ?co trivial ⟨?cp, rfl, _, rfl⟩; (case cF => assumption); (case cN => assumption); (case ca => kcf_all); (case co => first | assumption | (simp only [LCg.Off3, and_true]; assumption)); (case cp => first | exact decide_eq_true (by omega) | exact decide_eq_false (by omega)))
      | (refine' LCg.CompEnd.intro ?cF ?cN _ ?ca ?co trivial ⟨?cp, rfl⟩; (case cF => assumption); (case cN => assumption); (case ca => kcf_all); (case co => first | assumption | (simp only [LCg.Off3, and_true]; assumption)); (case cp => first | exact decide_eq_true (by omega) | exact decide_eq_false (by omega))))
  k_with "subscriptTail Name Slice bytes ref" => ((k_here; (with_unfolding_all refine slice_rest (s := ⟨_, _, _, _, _⟩) (by k_asm) (by k_asm) (by kba_ints) (by omega) (by omega) (by omega) ?_); intro b8 rs8 h8 t8 k8 F8 N8 hb8 hr8 hl8))
  k_with "exec While Compare cons nil" => (
   k_here
   (rename Fr _ _ _ _ => lF'); (rename News _ _ _ _ => lN')
   (with_unfolding_all refine' while_invR (y := Str.ofString "at") [Str.ofString "size", Str.ofString "low", Str.ofString "high", Str.ofString "rest", Str.ofString "is_right", Str.ofString "code", Str.ofString "one"] (RowsR ks) (fun a => ((ks.length : Int) - a).toNat) lF' lN' (by k_mem) (by rfl) ?r0 ?hE (fun a9 ta9 l9 vs9 nn9 tl9 u9 h9 tk9 hR9 hI9 F' N' => ?_))
   (case r0 => exact ⟨[], rfl, by simp, rfl⟩)
   (case hE => first | passes_own | with_unfolding_all passes_own)
   (clear lF' lN')
   (have hR8 := hR9; obtain ⟨l8, hl8, ⟨hRa, hRc⟩, hRb⟩ := hR8)
   (have hI8 := hI9.1.length); (have hv8 : vs9.length ≤ 64 := by (have q1 := startsL_len ks; rw [← hRb, List.length_append] at q1; rw [hI8, hl8]; unfold rowsOf; rw [List.length_map]; omega))
   (all_goals (try k_fold)))
  k_with "eval IfExp" => first
    | (k_here; (goal_lacks Mine.CutV); (with_reducible show wpAny _ _ (eval (PySem.Expr.IfExp (PySem.Expr.Compare _ [CmpOp.Gt] _ _) _ _ _) _) _ _ _); (rename Fr _ _ _ _ => lF'); (rename News _ _ _ _ => lN'); k_dflt (refine' cut_val (fun r => ∃ b t rs, r = Value.bytes b t ∧ KBw.bInts b = rs ∧ rs = restL ks a9 n9 ∧ rs.length ≤ 64) lF' lN' ?_ (fun r8 h8 tk8 F8 N8 g8 => ?cb1); (case' cb1 => ((obtain ⟨b8, t8, rs8, er8, hb8, hr8, hz8⟩ := g8); subst er8; (clear lF' lN'); (try k_fold)))))
  k_with "eval IfExp Compare Subscript BinOp" => ((k_here; (goal_lacks Mine.CutV); (with_reducible show wpAny _ _ (eval (PySem.Expr.IfExp (PySem.Expr.Compare _ [CmpOp.Eq] _ _) _ _ _) _) _ _ _); (rename Fr _ _ _ _ => lF'); (rename News _ _ _ _ => lN'); k_dflt (refine' cut_val (IntIs (code0 (ks.getD a9.toNat 0) n9)) lF' lN' ?_ (fun r8 h8 tk8 F8 N8 g8 => ?cb2); (case' cb2 => ((obtain ⟨t8, er8⟩ := g8); subst er8; (clear lF' lN'); (try k_fold))))))
  k_with "eval BoolOp And cons" => (k_here; (goal_lacks Mine.CutV); (rename Fr _ _ _ _ => lF'); (rename News _ _ _ _ => lN'); k_dflt (refine' cut_val (fun r => ∃ bb, r = Value.bool bb ∧ (bb = true ↔ RightC rs8 n9)) lF' lN' ?_ (fun r8 h8 tk8 F8 N8 g8 => ?cb3); (case' cb3 => ((obtain ⟨bb9, er8, hbb9⟩ := g8); subst er8; (clear lF' lN'); (try k_fold)))))
  k_with "isTrue BoolOp And" => (k_here; (goal_lacks Mine.CutV); (rename Fr _ _ _ _ => lF'); (rename News _ _ _ _ => lN'); k_dflt (refine' cut_bool (SignC rs8 n9 lo9 hi9) lF' lN' ?in4 (fun h8 tk8 F8 N8 hc9 => ?_) (fun h8 tk8 F8 N8 hc9 => ?_); (case' in4 => (rcases bool_split hbb9 with ⟨eb9, hq1, hq2, hq3⟩ | ⟨eb9, hq0⟩ <;> subst eb9))))
  k_with "CutV" => (k_dflt (refine CutV.mk (by assumption) (by assumption) (by first | exact fun _ h => h | exact fun _ h => .tail _ h | exact fun _ h => .tail _ (.tail _ h) | exact fun _ h => .tail _ (.tail _ (.tail _ h))) ?_))
  k_steps
  all_goals try first
    | exact ⟨_, congrArg (fun x => Value.int x _) (if_pos (by assumption)).symm⟩
    | exact ⟨_, congrArg (fun x => Value.int x _) (if_neg (by assumption)).symm⟩
  all_goals first
    | exact rows_step hl8 hRa hRc hRb hw8 (rows_yes hRa hw8 es9 hr8 hc9)
    | exact rows_step hl8 hRa hRc hRb hw8 (rows_no hRa (by assumption) (by assumption) na9 es9 hr8 hc9)
    | exact hb8
    | exact hr8
    | assumption
    | exact (restL_none (by omega)).symm
    | exact Nat.zero_le _
    | exact ⟨_, _, _, rfl, hb8, hr8, by assumption⟩
    | exact ⟨fun _ => ⟨⟨hq1, hq2, hq3⟩, .inl (by assumption)⟩, fun _ => rfl⟩
    | exact ⟨fun _ => ⟨⟨hq1, hq2, hq3⟩, .inr ⟨by assumption, by assumption⟩⟩, fun _ => rfl⟩
    | exact ⟨fun h => absurd h Bool.false_ne_true, fun h => absurd h.1 hq0⟩
    | exact ⟨fun h => absurd h Bool.false_ne_true, fun h => absurd (h.2.resolve_left (by assumption)).2 (by assumption)⟩
    | exact ⟨fun h => absurd h Bool.false_ne_true, fun h => absurd (h.2.resolve_left (by assumption)).1 (by assumption)⟩
    | exact ⟨fun h => ⟨by assumption, by assumption, of_decide_eq_true h⟩, fun h => decide_eq_true h.2.2⟩
    | exact ⟨fun h => absurd (eq_of_beq h) (by assumption), fun h => absurd h.2.1 (by assumption)⟩
    | exact ⟨fun h => absurd (of_decide_eq_true h) (by assumption), fun h => absurd h.1 (by assumption)⟩
    | (have hq := hc9.1.1; omega)
    | ((refine' hret _ _ _ (Fr.keep ?kfr) ?_; (case kfr => k_asm)); exact rowsOut_mk (by assumption) hI9 hl8 hRa hRc hRb hw8)
end
end
/-! part R1 -/
section
open PySem PySem.W PyProof.Rows PySem.Spec PySem.Calls PyProof.V
/-- all objects of a heap, but for one address -/
noncomputable def allBut (h : Heap) (L : Addr) : List (Addr × Obj) := (List.range h.objs.size).filterMap fun a => if a = L then none else (h.get? a).map fun o => (a, o)
theorem mem_allBut {h : Heap} {L a : Addr} {o : Obj} : (a, o) ∈ allBut h L ↔ h.get? a = some o ∧ @Ne Nat a L := by
  unfold allBut
  rw [List.mem_filterMap]
  constructor
  · rintro ⟨b, _, hb⟩
    split at hb
    · cases hb
    · rename_i hne
      rw [Option.map_eq_some_iff] at hb
      obtain ⟨o', ho, e⟩ := hb
      have e1 : b = a := congrArg Prod.fst e
      have e2 : o' = o := congrArg Prod.snd e
      subst e1 e2
      exact ⟨ho, hne⟩
  · rintro ⟨ho, hne⟩
    exact ⟨a, List.mem_range.mpr (Heap.lt_size ho), by rw [if_neg hne, ho]; rfl⟩
noncomputable def TupIn (h : Heap) (L : Addr) (p : Int × Int) (v : Value) : Prop := ∃ (T : Addr) (t1 t2 : Tok) (n : Nat) (o : Obj), v = .ref T ∧ @Ne Nat T L ∧ h.get? T = some o ∧ o.cls = .type "tuple" ∧ o.data = .seq #[.int p.1 t1, .int p.2 t2] n
section
variable {prog : Program} {w : World} {A : Around} {E : Value → Shared → Prop} {s : Shared} {h₀ : Heap} {L : Addr} {m : Str → Option Value} {env : Env}
theorem fr_empty (F : Fr h₀ L s.heap m) : Fr ({} : Heap) L s.heap m := ⟨F.ns, fun b o e => by simp [Heap.get?] at e, Nat.zero_le _⟩
theorem news_all (h : Heap) (L : Addr) : News ({} : Heap) L h (allBut h L) := fun p hp => by
  obtain ⟨a, o⟩ := p
  have := mem_allBut.mp hp
  exact ⟨this.1, this.2, by simp [Heap.get?]⟩
theorem fr_back {h₁ h : Heap} {m' : Str → Option Value} {D : Addr} {oD : Obj} {news : List (Addr × Obj)} (F : Fr h₀ L h₁ m) (N : News h₀ L h₁ news) (F' : Fr ({} : Heap) L h m') (N' : News ({} : Heap) L h ((D, oD) :: allBut h₁ L)) (o : LCg.Off1 D (allBut h₁ L)) : Fr h₀ L h m' ∧ News h₀ L h ((D, oD) :: news) ∧ LCg.Off1 D news := by
  have off : ∀ p ∈ allBut h₁ L, @Ne Nat p.1 D := by
    have mem : ∀ {l : List (Addr × Obj)}, LCg.Off1 D l → ∀ p ∈ l, @Ne Nat p.1 D := by
      intro l
      induction l with
      | nil => intro _ p hp; exact nomatch hp
      | cons q r ih =>
        intro hl p hp
        rcases List.mem_cons.mp hp with rfl | hp
        · exact hl.1
        · exact ih hl.2 p hp
    exact mem o
  have keep : ∀ b o, h₁.get? b = some o → @Ne Nat b L → h.get? b = some o := fun b o e hne => (N' (b, o) (List.mem_cons_of_mem _ (mem_allBut.mpr ⟨e, hne⟩))).1
  have low : ∀ b o, h₀.get? b = some o → @Ne Nat b L := fun b o e => Nat.ne_of_lt (Nat.lt_of_lt_of_le (Heap.lt_size e) F.above)
  have nsub : ∀ p ∈ news, p ∈ allBut h₁ L := fun p hp => mem_allBut.mpr ⟨(N p hp).1, (N p hp).2.1⟩
  refine ⟨⟨F'.ns, fun b o e => keep b o (F.keep b o e) (low b o e), F.above⟩, fun p hp => ?_, off1_sub o nsub⟩
  rcases List.mem_cons.mp hp with rfl | hp
  · refine ⟨(N' _ List.mem_cons_self).1, (N' _ List.mem_cons_self).2.1, ?_⟩
    cases e : h₀.get? D with
    | none => rfl
    | some o' => exact absurd rfl (off (D, o') (mem_allBut.mpr ⟨F.keep _ _ e, low _ _ e⟩))
  · exact ⟨(N' p (List.mem_cons_of_mem _ (nsub p hp))).1, (N p hp).2⟩
/-- a comprehension over a list of pairs that picks one of the two -/
noncomputable def SrcRows (A : Around) (h₀ : Heap) (L : Addr) (m : Str → Option Value) (pick : Int × Int → Int) (Fin : Shared → List Value → List (Addr × Obj) → Prop) (xv : Value) (s₁ : Shared) : Prop :=
  ∃ (ax : Addr) (vs : List Value) (l : List (Int × Int)) (news : List (Addr × Obj)), xv = .ref ax ∧ A.handled = none ∧ Fr h₀ L s₁.heap m ∧ News h₀ L s₁.heap news ∧ s₁.heap.IsList ax vs.toArray ∧ @Ne Nat ax L ∧ All2 (TupIn s₁.heap L) l vs ∧ l.length ≤ 64 ∧
    ∀ g ys, IntsAre ys (l.map pick) → Fin { s₁ with heap := g } ys news
theorem SrcRows.intro {pick : Int × Int → Int} {Fin : Shared → List Value → List (Addr × Obj) → Prop} {ax : Addr} {vs : List Value} {l : List (Int × Int)} {news : List (Addr × Obj)} {s₁ : Shared} (hh : A.handled = none) (F : Fr h₀ L s₁.heap m) (N : News h₀ L s₁.heap news) (hl : s₁.heap.IsList ax vs.toArray) (hne : @Ne Nat ax L) (hA : All2 (TupIn s₁.heap L) l vs) (hlen : l.length ≤ 64)
    (h : ∀ g ys, IntsAre ys (l.map pick) → Fin { s₁ with heap := g } ys news) : SrcRows A h₀ L m pick Fin (.ref ax) s₁ := ⟨ax, vs, l, news, rfl, hh, F, N, hl, hne, hA, hlen, h⟩
theorem srcLP_of {el x x₂ : Str} {pe : Pos} {scope : Scope} {cl : List (Str × Addr)} {pick : Int × Int → Int} {Fin Fin' : Shared → List Value → List (Addr × Obj) → Prop} {xv : Value} {s₁ : Shared} (hel : (el = x ∧ ∀ p, pick p = p.1) ∨ (el = x₂ ∧ ∀ p, pick p = p.2))
    (hk : ∀ C, (compEnvC scope cl C env).scope.kind = .function) (hloc : ∀ C, (compEnvC scope cl C env).kindOf el = some .local) (hd : (el == ("__debug__" : Str)) = false)
    (h : SrcRows A h₀ L m pick Fin xv s₁) (hfin : ∀ g ys news, Fr h₀ L s₁.heap m → News h₀ L s₁.heap news → Fin { s₁ with heap := g } ys news → Fin' { s₁ with heap := g } ys (allBut s₁.heap L)) : LCp.SrcLP prog w A ({} : Heap) L m env (.Name el pe) x x₂ scope cl Fin' xv s₁ := by
  obtain ⟨ax, vs, l, news, rfl, hh, F, N, hl, hne, hA, hlen, hq⟩ := h
  have hvl : vs.toArray.size = l.length := by rw [List.size_toArray]; exact hA.length
  have hsrc : LCg.SrcAt ({} : Heap) ax vs.toArray (allBut s₁.heap L) := by
    obtain ⟨o, e, hc, n, hdt⟩ := hl
    exact .inr ⟨o, mem_allBut.mpr ⟨e, hne⟩, hc, n, hdt⟩
  refine ⟨ax, vs.toArray, allBut s₁.heap L, rfl, hh, fr_empty F, news_all _ _, hsrc, by rw [hvl, sizeLine_eq]; omega, ?_⟩
  rintro s₂ ⟨g, rfl⟩
  have key : ∀ (j i : Nat) (ys : List Value), i + j = l.length → IntsAre ys ((l.take i).map pick) → LCp.CompRestP prog w A ({} : Heap) L m env (.Name el pe) x x₂ scope cl { s₁ with heap := g } (LCg.SrcAt ({} : Heap) ax vs.toArray) (fun i v => vs.toArray[i]? = some v) (Fin' { s₁ with heap := g }) j i ys (allBut s₁.heap L) := by
    intro j
    induction j with
    | zero =>
      intro i ys hi hy
      have e : i = l.length := by omega
      subst e
      rw [List.take_length] at hy
      exact LCp.CompRestP.zero (hfin g ys news F N (hq g ys hy))
    | succ j ih =>
      intro i ys hi hy
      refine LCp.CompRestP.succ ?_
      intro v hv
      obtain ⟨p, hp, T, t1, t2, n, o, rfl, hTL, hT, hc, hdt⟩ := hA.get i v (by simpa using hv)
      refine ⟨T, o, _, _, n, rfl, mem_allBut.mpr ⟨hT, hTL⟩, hc, hdt, ?_⟩
      intro I oI C oC D m₂ h tk E' hC hx hx₂ F' N' off ne
      have hns : h.Ns (compEnvC scope cl C env).locals m₂ := hC.ns (N' (C, oC) (by simp)).1
      have ht : (l.take (i + 1)).map pick = (l.take i).map pick ++ [pick p] := by rw [List.take_add_one, hp]; simp
      have hstep : ∀ t, LCp.CompRestP prog w A ({} : Heap) L m env (.Name el pe) x x₂ scope cl { s₁ with heap := g } (LCg.SrcAt ({} : Heap) ax vs.toArray) (fun i v => vs.toArray[i]? = some v) (Fin' { s₁ with heap := g }) j (i + 1) (ys ++ [.int (pick p) t]) (allBut s₁.heap L) := by
        intro t
        refine ih (i + 1) _ (by omega) ?_
        rw [ht]
        exact IntsAre.append hy (.cons _ t .nil)
      rcases hel with ⟨rfl, hpk⟩ | ⟨rfl, hpk⟩
      · refine ldVarK (s := { s₁ with heap := h, toks := tk }) hns hx ?_ (hk C) (hloc C) hd
        have := hstep t1
        rw [hpk p] at this
        exact LCg.CompEnd.intro F' N' _ (fun _ hp => hp) off hsrc this
      · refine ldVarK (s := { s₁ with heap := h, toks := tk }) hns hx₂ ?_ (hk C) (hloc C) hd
        have := hstep t2
        rw [hpk p] at this
        exact LCg.CompEnd.intro F' N' _ (fun _ hp => hp) off hsrc this
  have := key l.length 0 [] (by omega) (by rw [List.take_zero]; exact .nil)
  rw [hvl]
  exact this
theorem ListComp_R {el x x₂ : Str} {pe px px₂ tp : Pos} {tk} {iter : PySem.Expr} {scope : Scope} {cl : List (Str × Addr)} {pos : Pos} {Q : Value → Shared → Prop} (pick : Int × Int → Int) (F₀ : Fr h₀ L s.heap m)
    (hel : (el = x ∧ ∀ p, pick p = p.1) ∨ (el = x₂ ∧ ∀ p, pick p = p.2)) (hk : ∀ C, (compEnvC scope cl C env).scope.kind = .function) (hloc : ∀ C, (compEnvC scope cl C env).kindOf el = some .local) (hd : (el == ("__debug__" : Str)) = false)
    (hclos : closureFor scope env = pure cl) (hcell : ∀ y ∈ scope.names, y.2 ≠ .cell) (hkind : scope.kind = .function)
    (hnames : ∀ y ∈ scope.names, y.2 = .local → scope.names.lookup y.1 = some .local) (hx : scope.names.lookup x = some .local) (hx₂ : scope.names.lookup x₂ = some .local) (hxx : x ≠ x₂)
    (h : wpAny (model prog w) A (eval iter env) (SrcRows A h₀ L m pick (fun s₂ => LCg.FinE h₀ L m s₂ Q)) E s)
    (hs : ∀ x, foldedSetIterable iter env x = pure x := by intro _; rfl) :
    wpAny (model prog w) A (eval (.ListComp (.Name el pe) [⟨.Tuple [.Name x px, .Name x₂ px₂] tk tp, iter, [], 0⟩] scope pos) env) Q E s :=
  LCp.ListComp_P (fr_empty F₀) hclos hcell hkind hnames hx hx₂ hxx (wpAny_mono h (fun xv s₁ h₁ => srcLP_of hel hk hloc hd h₁ fun g ys news F N fin => by
    intro D h tk F' N' o
    obtain ⟨a, b, c⟩ := fr_back F N F' N' o
    exact fin D h tk a b c) fun _ _ e => e) hs
theorem Assign_ListComp_R {el x x₂ y : Str} {pe px px₂ tp py : Pos} {tk} {iter : PySem.Expr} {scope : Scope} {cl : List (Str × Addr)} {pos spos : Pos} {Q : Flow → Shared → Prop} (pick : Int × Int → Int) (F₀ : Fr h₀ L s.heap m)
    (hel : (el = x ∧ ∀ p, pick p = p.1) ∨ (el = x₂ ∧ ∀ p, pick p = p.2)) (hk : ∀ C, (compEnvC scope cl C env).scope.kind = .function) (hloc : ∀ C, (compEnvC scope cl C env).kindOf el = some .local) (hd : (el == ("__debug__" : Str)) = false)
    (hLe : env.locals = L) (hsw : swapsWith (.ListComp (.Name el pe) [⟨.Tuple [.Name x px, .Name x₂ px₂] tk tp, iter, [], 0⟩] scope pos) (some (.Name y py)) spos.line env = pure true)
    (hclos : closureFor scope env = pure cl) (hcell : ∀ z ∈ scope.names, z.2 ≠ .cell) (hkind : scope.kind = .function)
    (hnames : ∀ z ∈ scope.names, z.2 = .local → scope.names.lookup z.1 = some .local) (hx : scope.names.lookup x = some .local) (hx₂ : scope.names.lookup x₂ = some .local) (hxx : x ≠ x₂)
    (hy : env.kindOf y = some .local) (hp : (env.scope.kind == .class || (env.scope.kind == .module && env.locals != env.globals)) = false)
    (h : wpAny (model prog w) A (eval iter env) (SrcRows A h₀ L m pick (fun s₂ => LCg.FinA h₀ L m s₂ y Q)) E s)
    (hs : ∀ x, foldedSetIterable iter env x = pure x := by intro _; rfl) :
    wpAny (model prog w) A (exec (.Assign [.Name y py] (.ListComp (.Name el pe) [⟨.Tuple [.Name x px, .Name x₂ px₂] tk tp, iter, [], 0⟩] scope pos) spos) env) Q E s :=
  LCp.Assign_ListComp_P (fr_empty F₀) hLe hsw hclos hcell hkind hnames hx hx₂ hxx hy hp (wpAny_mono h (fun xv s₁ h₁ => srcLP_of hel hk hloc hd h₁ fun g ys news F N fin => by
    intro D h tk F' N' o
    obtain ⟨a, b, c⟩ := fr_back F N F' N' o
    exact fin D h tk a b c) fun _ _ e => e) hs
end
end
/-! part R2 -/
section
open PySem PySem.W PyProof.Rows PySem.Spec PySem.Calls PyProof.V
section
variable {prog : Program} {w : World} {A : Around} {E : Value → Shared → Prop} {s : Shared} {env : Env} {h₀ : Heap} {x : Str} {px : Pos} {body : List Stmt} {Q : Flow → Shared → Prop}
/-- a range whose name may be a captured one -/
theorem range_turns {r : Addr} {a₀ b₀ : Int} {t₀ u₀ v₀ : Tok} {n : Nat} {m₀ : Str → Option Value} {news : List (Addr × Obj)} (J : Nat → (Str → Option Value) → List (Addr × Obj) → Prop)
    (hh : A.handled = none) (hr : IsRange s.heap r a₀ b₀ 1 t₀ u₀ v₀) (hsmall : Builtin.Range.small a₀ b₀ 1 = true) (hn : Builtin.Range.rangeSize a₀ b₀ 1 = (n : Int)) (F : Fr h₀ env.locals s.heap m₀) (N : News h₀ env.locals s.heap news) (hj : J 0 m₀ news)
    (turn : ∀ i t m₁ news₁ h tk own, i < n → OwnOff own (news.map (·.1)) → J i m₁ news₁ → news₁.map (·.1) = news.map (·.1) → Fr h₀ env.locals h m₁ → News h₀ env.locals h (news₁ ++ own) →
      wpAny (model prog w) A (assign (.Name x px) env (.int (a₀ + (i : Int)) t)) (fun _ s₂ => wpAny (model prog w) A (execs body env) (InvPostN h₀ env.locals (J (i + 1)) own (news.map (·.1)) { s with heap := h, toks := tk } Q) E s₂) E { s with heap := h, toks := tk })
    (done : ∀ m₁ news₁ h tk, J n m₁ news₁ → Fr h₀ env.locals h m₁ → News h₀ env.locals h news₁ → Q .next { s with heap := h, toks := tk }) :
    wpAny (model prog w) A (pyIter (.ref r)) (fun it s₂ => TurnsAt prog w A h₀ env (.Name x px) body Q E it s₂) E s := by
  refine wpAny_pyIter_range hr hsmall ?_
  have W := KTurns.ofWalks (target := .Name x px) (LCg.range_walks (prog := prog) (w := w) (I := s.heap.objs.size) hh a₀ n) (fun i v s Q E _ hQ => wpAny_pure hQ)
  refine turns_inv J W (fun hm => ?_) (fun b hb => ?_) (fun p hp hI => ?_) (fun q hq hI => ?_) ?_ (F.keeps fun _ _ e => Heap.get?_push_of_some _ e) (N.grown fun _ _ e => Heap.get?_push_of_some _ e) hj ?_ done
  · exact absurd F.ns.lt ((List.mem_singleton.mp hm) ▸ Nat.lt_irrefl _)
  · rw [List.mem_singleton.mp hb]
    exact next_is_new F
  · exact absurd (Heap.lt_size (N p hp).1) ((List.mem_singleton.mp hI) ▸ Nat.lt_irrefl _)
  · exact absurd (Heap.lt_size (N q hq).1) ((List.mem_singleton.mp hI) ▸ Nat.lt_irrefl _)
  · show IsRangeIter _ _ _ _ _
    rw [hn]
    simpa using Heap.get?_push_size _ rfl
  · rintro i v m₁ news₁ h tk own hi ⟨t, rfl⟩ hoff hJ hadr F₁ N₁
    exact turn i t m₁ news₁ h tk own hi hoff hJ hadr F₁ N₁
/-- a range whose name is captured: its cell stands last on the ledger -/
theorem range_cell {r c : Addr} {a₀ b₀ : Int} {t₀ u₀ v₀ : Tok} {n : Nat} {m₀ : Str → Option Value} {pre : List (Addr × Obj)} {oc : Obj} {xc : Option Value} (stored : List Str)
    (hh : A.handled = none) (hr : IsRange s.heap r a₀ b₀ 1 t₀ u₀ v₀) (hsmall : Builtin.Range.small a₀ b₀ 1 = true) (hn : Builtin.Range.rangeSize a₀ b₀ 1 = (n : Int)) (F : Fr h₀ env.locals s.heap m₀) (N : News h₀ env.locals s.heap (pre ++ [(c, oc)])) (hd : oc.data = .cell xc)
    (turn : ∀ (i : Nat) t (u : Str → Option Value) o y h tk own, i < n → OwnOff own ((pre ++ [(c, oc)]).map (·.1)) → o.data = .cell y → Fr h₀ env.locals h (fun z => if stored.contains z then u z else m₀ z) → News h₀ env.locals h ((pre ++ [(c, o)]) ++ own) →
      wpAny (model prog w) A (assign (.Name x px) env (.int (a₀ + (i : Int)) t)) (fun _ s₂ => wpAny (model prog w) A (execs body env) (InvPostN h₀ env.locals (fun m' nx => (∃ o' y', nx = pre ++ [(c, o')] ∧ o'.data = .cell y') ∧ ∀ z, stored.contains z = false → m' z = m₀ z) own ((pre ++ [(c, oc)]).map (·.1)) { s with heap := h, toks := tk } Q) E s₂) E { s with heap := h, toks := tk })
    (done : ∀ (u : Str → Option Value) o h tk, Fr h₀ env.locals h (fun z => if stored.contains z then u z else m₀ z) → News h₀ env.locals h (pre ++ [(c, o)]) → Q .next { s with heap := h, toks := tk }) :
    wpAny (model prog w) A (pyIter (.ref r)) (fun it s₂ => TurnsAt prog w A h₀ env (.Name x px) body Q E it s₂) E s := by
  have same : ∀ m₁ : Str → Option Value, (∀ z, stored.contains z = false → m₁ z = m₀ z) → (fun z => if stored.contains z then m₁ z else m₀ z) = m₁ := by
    intro m₁ hm
    funext z
    cases h2 : stored.contains z with
    | true => rfl
    | false => exact (hm z h2).symm
  refine range_turns (fun _ m' nx => (∃ o' y', nx = pre ++ [(c, o')] ∧ o'.data = .cell y') ∧ ∀ z, stored.contains z = false → m' z = m₀ z) hh hr hsmall hn F N ⟨⟨oc, xc, rfl, hd⟩, fun _ _ => rfl⟩ ?_ ?_
  · rintro i t m₁ news₁ h tk own hi hoff ⟨⟨o, y, rfl, hy⟩, hm⟩ _ F₁ N₁
    exact turn i t m₁ o y h tk own hi hoff hy (by rw [same m₁ hm]; exact F₁) N₁
  · rintro m₁ news₁ h tk ⟨⟨o, y, rfl, hy⟩, hm⟩ F₁ N₁
    exact done m₁ o h tk (by rw [same m₁ hm]; exact F₁) N₁
end
end
/-! part S11 -/
section
theorem rowsOf_fst (ks l : List Int) : (rowsOf ks l).map (fun p => p.1) = l := by
  unfold rowsOf
  rw [List.map_map]
  exact List.map_id'' (fun _ => rfl) l
theorem rowsOf_len (ks l : List Int) : (rowsOf ks l).length = l.length := by unfold rowsOf; rw [List.length_map]
noncomputable def TupPre (h : Heap) (p : Int × Int) (v : Value) : Prop := ∃ (T : Addr) (t1 t2 : Tok) (n : Nat) (o : Obj), v = .ref T ∧ h.get? T = some o ∧ o.cls = .type "tuple" ∧ o.data = .seq #[.int p.1 t1, .int p.2 t2] n
noncomputable def RowsPre (l : List (Int × Int)) (D : Addr) (vs : List Value) (h : Heap) : Prop := h.IsList D vs.toArray ∧ All2 (TupPre h) l vs
theorem SrcRows.pre {A : Around} {h₀ : Heap} {L : Addr} {m : Str → Option Value} {pick : Int × Int → Int} {Fin : Shared → List Value → List (Addr × Obj) → Prop} {ax : Addr} {vs : List Value} {l : List (Int × Int)} {news : List (Addr × Obj)} {s₁ : Shared} (hh : A.handled = none) (F : Fr h₀ L s₁.heap m) (N : News h₀ L s₁.heap news) (hp : RowsPre l ax vs h₀) (hlen : l.length ≤ 64)
    (h : ∀ g ys, IntsAre ys (l.map pick) → Fin { s₁ with heap := g } ys news) : SrcRows A h₀ L m pick Fin (.ref ax) s₁ := by
  have low : ∀ b o, h₀.get? b = some o → @Ne Nat b L := fun b o e => Nat.ne_of_lt (Nat.lt_of_lt_of_le (Heap.lt_size e) F.above)
  obtain ⟨⟨o, e, r⟩, hA⟩ := hp
  refine SrcRows.intro hh F N ⟨o, F.keep _ _ e, r⟩ (low _ _ e) (All2.imp ?_ hA) hlen h
  rintro p v ⟨T, t1, t2, n, o, rfl, h1, h2, h3⟩
  exact ⟨T, t1, t2, n, o, rfl, low _ _ h1, F.keep _ _ h1, h2, h3⟩
theorem startB_iff {ks : List Int} {p : Int} : startB ks p = (startsL ks).any fun x => x == p := by
  rw [Bool.eq_iff_iff, List.any_eq_true]
  unfold startB
  rw [@decide_eq_true_iff _ (Classical.propDecidable _), starts_iff]
  constructor
  · intro h; exact ⟨p, h, beq_self_eq_true p⟩
  · rintro ⟨x, hx, e⟩; rw [← eq_of_beq e]; exact hx
theorem place_1 {ks : List Int} {p : Int} (a : (startB ks p != (startsL ks).any fun x => x == p) = true) : False := by
  rw [startB_iff] at a
  simp at a
theorem place_2 {ks : List Int} {p v : Int} (h : NextSpec ks p v) (a : v ≠ ((startsL ks).filter (fun k => decide (k > p)) ++ [(ks.length : Int)]).getD (Int.toNat 0) 0) (hp : -1 ≤ p) : False := by
  have := next_head h hp
  refine a ?_
  rw [List.getD_eq_getElem?_getD, show Int.toNat 0 = 0 from rfl, this]
  rfl
theorem neg1_len (n : Nat) : (-1 + ((n + 1 : Nat) : Int)).toNat = n := by omega
theorem place_3 {ks : List Int} {p v : Int} (h : PrevSpec ks p v) (a : v ≠ ([-1] ++ (startsL ks).filter (fun k => decide (k < p))).getD ((-1 : Int) + (([-1] ++ (startsL ks).filter (fun k => decide (k < p))).length : Int)).toNat 0) : False := by
  have := prev_last h
  rw [List.getLast?_eq_getElem?] at this
  refine a ?_
  have e : (-1 + (([-1] ++ (startsL ks).filter (fun k => decide (k < p))).length : Int)).toNat = ((-1 : Int) :: (startsL ks).filter (fun k => decide (k < p))).length - 1 := neg1_len _
  rw [List.getD_eq_getElem?_getD, e]
  show v = ((((-1 : Int) :: (startsL ks).filter (fun k => decide (k < p)))[_]?).getD 0)
  rw [this]
  rfl
section
theorem law_places_pu (w : World) (b : Array UInt8) (tb : Tok) (ks : List Int) (hks : KBw.bInts b = ks) (hsz : ks.length ≤ 64) (D : Addr) (vs : List Value) : Pu w 183 [.bytes b tb, .ref D] 7 120 (RowsPre (rowsOf ks (startsL ks)) D vs) (fun _ _ r => r = .bool true) := by
  have hsl := startsL_len ks
  w_top off
  (
      unfold Pu
      k_fill
      intro mean mg mb dp un gd cn cs a ccd cl outer A₀ base h₀ L m s Q E B F X T hk hpre hd hu hret
      refine wpAny_call ?_
      k_dflt (refine' pu_enterC B F X T ?kA ?kF ?kK ?k6 ?k7 ?k8 ?k9 ?kB ?kD ?_ ?c2 ?c3 ?c4; (case kA => exact rfl); (case kF => exact rfl); (case kK => assumption); (case k6 => k_is); (case k7 => k_is); (case k8 => ktr_room); (case k9 => exact BindsTo.of_eq rfl); (case kB => exact rfl); (case kD => decide +kernel); (case c2 => exact rfl); (case c3 => exact rfl); (case c4 => exact rfl); k_whole)
      clear B F X T
      intro L' h' tk' cells' F' N' Y' B' X' T' l1
      clear l1
      k_cells Y'
      (try simp only [List.cons_append, List.nil_append, List.append_nil] at N')
      (try dsimp only)
      (try k_fold))
  k_with_none
  k_with "exec Assign" => k_fold
  k_with "exec Expr" => k_fold
  k_with "exec If" => k_fold
  k_with "exec Return" => k_fold
  k_with "exec AugAssign" => k_fold
  k_with "eval Call" => k_fold
  k_with "eval Compare" => k_fold
  k_with "isTrue Compare" => k_fold
  k_with "eval BinOp" => k_fold
  k_with "eval Subscript" => k_fold
  k_with "eval Tuple" => k_fold
  k_with "eval List" => k_fold
  k_with "eval BoolOp" => k_fold
  k_with "isTrue BoolOp Or" => k_fold
  k_with "isTrue BoolOp" => k_fold
  k_with "execs cons" => k_fold
  k_with "call ref" => ((k_here; first
      | (refine' Pu.use (is_start_pu _ _ _ _ _ _ ?hks ?hsz ?h0 ?h1) ?k1 ?k2 ?k3 ?k4 ?k5 ?kK ?kp ?kd ?ku ?_; (case hks => kba_ints); (case hsz => (first | assumption | omega)); (case h0 => omega); (case h1 => omega); ((case k1 => k_asm); (case k2 => k_asm); (case k3 => k_asm); (case k4 => k_asm); (case k5 => k_asm); (case kK => first | exact rfl | assumption); (try (case kp => exact trivial)); (case kd => ktr_room); (case ku => ktr_units)); intro r9 h9 tk9 F9 N9 e9 o9; subst o9; (try dsimp only); (try k_fold))
      | (refine' Pu.use (next_index_pu _ _ _ _ _ _ ?hks ?hsz ?h0 ?h1) ?k1 ?k2 ?k3 ?k4 ?k5 ?kK ?kp ?kd ?ku ?_; (case hks => kba_ints); (case hsz => (first | assumption | omega)); (case h0 => omega); (case h1 => omega); ((case k1 => k_asm); (case k2 => k_asm); (case k3 => k_asm); (case k4 => k_asm); (case k5 => k_asm); (case kK => first | exact rfl | assumption); (try (case kp => exact trivial)); (case kd => ktr_room); (case ku => ktr_units)); intro r9 h9 tk9 F9 N9 e9 o9; (refine Exists.elim o9 ?_; clear o9; intro v9 o9; refine Exists.elim o9 ?_; clear o9; intro t9 o9; have hsp9 := o9.2; have er9 := o9.1; clear o9; subst er9); (try dsimp only); (try k_fold))
      | (refine' Pu.use (prev_index_pu _ _ _ _ _ _ ?hks ?hsz ?h0 ?h1) ?k1 ?k2 ?k3 ?k4 ?k5 ?kK ?kp ?kd ?ku ?_; (case hks => kba_ints); (case hsz => (first | assumption | omega)); (case h0 => omega); (case h1 => omega); ((case k1 => k_asm); (case k2 => k_asm); (case k3 => k_asm); (case k4 => k_asm); (case k5 => k_asm); (case kK => first | exact rfl | assumption); (try (case kp => exact trivial)); (case kd => ktr_room); (case ku => ktr_units)); intro r9 h9 tk9 F9 N9 e9 o9; (refine Exists.elim o9 ?_; clear o9; intro v9 o9; refine Exists.elim o9 ?_; clear o9; intro t9 o9; have hsp9 := o9.2; have er9 := o9.1; clear o9; subst er9); (try dsimp only); (try k_fold))))
  k_with "exec Assign cons ListComp" => ((k_here; k_dflt (refine Assign_ListComp_R (fun p => p.1) (by k_asm) (.inl ⟨rfl, fun _ => rfl⟩) (fun _ => rfl) (fun _ => rfl) (by decide) (by rfl) (by with_unfolding_all rfl) (by with_unfolding_all rfl) (by decide) (by rfl) (by decide) (by rfl) (by rfl) (by decide) (by rfl) (by rfl) ?_)))
  k_with "SrcRows" => ((k_dflt (refine SrcRows.pre (by rfl) (by k_asm) (by k_asm) hpre (by rw [rowsOf_len]; omega) ?_); intro g' ys9 hys9; rw [rowsOf_fst] at hys9))
  k_with "eval ListComp" => ((k_here; k_dflt (refine LCt.ListComp_T (F₀ := by k_asm) (by with_unfolding_all rfl) (by decide) (by rfl) (by decide) (by rfl) ?_)))
  k_with "CompSrcT" => ((k_here; k_dflt (refine LCt.CompSrcT.ledger (by rfl) (by k_asm) (by k_asm) (by k_mem) (by (rw [List.size_toArray, hys9.length, sizeLine_eq]; omega)) ?_; intro g'; (first
      | ((with_unfolding_all show LCt.CompRestT _ _ _ _ _ _ _ (PySem.Expr.Compare _ [CmpOp.Gt] _ _) _ _ _ _ _ _ _ _ _ _ _ _); refine' cf_list (fun k => decide (k > -1 + (j9 : Int))) hys9 (fun k' t' I' oI' C' oC' D' m' ys' h' tk' E' hk' hC' hx' F' N' off' ne' => ?_) (fun ys8 hys8 => ?_))
      | (refine' cf_list (fun k => decide (k < -1 + (j9 : Int))) hys9 (fun k' t' I' oI' C' oC' D' m' ys' h' tk' E' hk' hC' hx' F' N' off' ne' => ?_) (fun ys7 hys7 => ?_))); (all_goals (try (simp only [LCg.Off3, and_true] at off'))))))
  k_with "CompEnd" => (first
      | (refine' LCg.CompEnd.intro ?cF ?cN _ ?ca ?co ?cs ⟨?cp, rfl, _, rfl⟩; (case cF => assumption); (case cN => assumption); (case ca => kcf_all); (case co => first | assumption | (simp only [LCg.Off3, and_true]; assumption)); (case cs => first | lcg_src | assumption); (case cp => first | exact decide_eq_true (by omega) | exact decide_eq_false (by omega)))
      | (refine' LCg.CompEnd.intro ?cF ?cN _ ?ca ?co ?cs ⟨?cp, rfl⟩; (case cF => assumption); (case cN => assumption); (case ca => kcf_all); (case co => first | assumption | (simp only [LCg.Off3, and_true]; assumption)); (case cs => first | lcg_src | assumption); (case cp => first | exact decide_eq_true (by omega) | exact decide_eq_false (by omega))))
  k_with "binaryOp Add ref ref" => ((k_here; (with_reducible show wpAny _ _ (binaryOp _ (Value.ref _) (Value.ref _)) _ _ _); k_dflt (refine' kmk_add_ints ?xF ?xN ?xa ?xb ?xi ?xj ?_ ?xz; (case xF => k_asm); (case xN => k_asm); (case xa => kmk_list); (case xb => kmk_list); (case xi => l_ints); (case xj => l_ints); (case xz => (rw [sizeLine_eq]; (try simp only [List.length_cons, List.length_nil]); have q1 := List.length_filter_le (fun k => decide (k > -1 + (j9 : Int))) (startsL ks); have q2 := List.length_filter_le (fun k => decide (k < -1 + (j9 : Int))) (startsL ks); omega))); intro D' ws' h' F' N' l1 hI'; (try k_lt l1)))
  k_with "InvEndN" => ((k_dflt (refine' InvEndN.intro ?iF ?iN ⟨⟨_, _, rfl, ?id⟩, ?is⟩ ?ir ?ia ?io; (case iF => assumption); (case iN => assumption); (case id => assumption); (case ir => rfl); (case is => (intro z h2; have h3 := h2; simp only [List.contains_cons, List.contains_nil, Bool.or_false, Bool.or_eq_false_iff, beq_eq_false_iff_ne, ne_eq] at h3; simp only [h2, h3, if_false, Bool.false_eq_true, not_false_eq_true])); (case ia => (intro p hp; rcases List.mem_cons.mp hp with rfl | hp; exact (by k_mem); rcases List.mem_cons.mp hp with rfl | hp; exact (by k_mem); exact absurd hp List.not_mem_nil)); (case io => (intro p hp; simp only [List.mem_cons]; simp [hp])))))
  k_with "exec For Name Call cons nil" => (k_here; (rename Fr _ _ _ _ => lF'); (with_unfolding_all refine' For_turns lF' ?_; k_whole))
  k_with "pyIter ref" => (
   (rename Fr _ _ _ _ => lF'); (rename News _ _ _ _ => lN'); (rename IsRange _ _ _ _ _ _ _ _ => rgX)
   (with_unfolding_all refine' range_cell (pre := [_]) (n := ks.length + 3) [Str.ofString "behind", Str.ofString "ahead"] (by rfl) rgX ?sm ?sz lF' lN' (by assumption) (fun j9 t9 u9 o9 y9 h9 tk9 own9 hj9 hoff9 hd9 F' N' => ?_) (fun u9 o9 h9 tk9 F' N' => ?_))
   (case sm => exact small_one (by omega) (by omega) (by omega) (by omega))
   (case sz => (rw [rangeSize_nat]; congr 1; omega))
   (all_goals (try clear lF' lN'))
   (all_goals (try simp only [List.nil_append, List.cons_append, List.append_nil] at N'))
   (all_goals (try k_fold)))
  k_steps
  all_goals first
    | (exfalso; exact place_1 (by assumption))
    | (exfalso; exact place_2 (by assumption) (by assumption) (by omega))
    | (exfalso; exact place_3 (by assumption) (by assumption))
    | ((refine' hret _ _ _ (Fr.keep ?kfr) ?_; (case kfr => k_asm)); rfl)
end
end
/-! part R3 -/
section
open PySem PySem.W PyProof.Rows PySem.Spec PySem.Calls PyProof.V
theorem All2.drop1 {α : Type} {G : α → Value → Prop} : ∀ {l : List α} {vs : List Value}, All2 G l vs → All2 G (l.drop 1) (vs.drop 1)
  | _, _, .nil => .nil
  | _, _, .cons _ t => t
theorem pick_from1 (vs : List Value) : (slicePick vs.toArray (some 1) none none).toList = vs.drop 1 := by
  have e : sliceBounds (some 1) none none vs.toArray.size = (((min 1 vs.toArray.size : Nat) : Int), ((vs.toArray.size : Nat) : Int), 1) := by
    simp only [sliceBounds, Option.getD_none, show (1 : Int) > 0 by decide, if_true, if_neg (show ¬ ((1 : Int) < 0) by decide)]
    congr 1
    rcases Nat.le_total 1 vs.toArray.size with h | h
    · rw [Nat.min_eq_left h, show min (1 : Int) (vs.toArray.size : Int) = 1 from Int.min_eq_left (Int.ofNat_le.mpr h)]; rfl
    · rw [Nat.min_eq_right h, show min (1 : Int) (vs.toArray.size : Int) = (vs.toArray.size : Int) from Int.min_eq_right (Int.ofNat_le.mpr h)]; exact Int.max_eq_right (Int.natCast_nonneg _)
  rw [kmk_pick_nat _ e]
  show (vs.drop (min 1 vs.toArray.size)).take (vs.toArray.size - min 1 vs.toArray.size) = _
  rw [List.size_toArray, kmk_drop_min, List.take_of_length_le (by rw [List.length_drop]; exact Nat.sub_le_sub_left (Nat.min_le_left 1 _) _)]
theorem seq_pick1 (vs : List Value) : Data.seq (slicePick vs.toArray (some 1) none none) 0 = Data.seq (vs.drop 1).toArray 0 := by
  rw [← pick_from1, Array.toArray_toList]
/-- a pair of ints whose tuple stands on the ledger -/
noncomputable def RowIn (news : List (Addr × Obj)) (p : Int × Int) (v : Value) : Prop := ∃ (T : Addr) (t1 t2 : Tok), v = .ref T ∧ (T, tupO [.int p.1 t1, .int p.2 t2]) ∈ news
section
variable {prog : Program} {w : World} {A : Around} {E : Value → Shared → Prop} {s : Shared} {env : Env} {h₀ : Heap} {body : List Stmt} {Q : Flow → Shared → Prop}
theorem SrcRows.led {L : Addr} {m : Str → Option Value} {pick : Int × Int → Int} {Fin : Shared → List Value → List (Addr × Obj) → Prop} {ax : Addr} {o : Obj} {vs : List Value} {n : Nat} {l : List (Int × Int)} {news tl : List (Addr × Obj)} {s₁ : Shared} (hh : A.handled = none) (F : Fr h₀ L s₁.heap m) (N : News h₀ L s₁.heap news) (hm : (ax, o) ∈ news) (hc : o.cls = .type "list") (hd : o.data = .seq vs.toArray n) (hA : All2 (RowIn tl) l vs) (htl : ∀ x ∈ tl, x ∈ news) (hlen : l.length ≤ 64)
    (h : ∀ g ys, IntsAre ys (l.map pick) → Fin { s₁ with heap := g } ys news) : SrcRows A h₀ L m pick Fin (.ref ax) s₁ := by
  refine SrcRows.intro hh F N ⟨o, (N _ hm).1, hc, n, hd⟩ (N _ hm).2.1 (All2.imp ?_ hA) hlen h
  rintro p v ⟨T, t1, t2, rfl, hT⟩
  have z := N _ (htl _ hT)
  exact ⟨T, t1, t2, 0, _, rfl, z.2.1, z.1, rfl, rfl⟩
theorem news_many {L : Addr} {m : Str → Option Value} {news l : List (Addr × Obj)} {h h' : Heap} (F : Fr h₀ L h m) (N : News h₀ L h news) (e : Ext h h') (hl : ∀ p ∈ l, h.get? p.1 = none ∧ h'.get? p.1 = some p.2) : News h₀ L h' (l ++ news) := by
  intro q hq
  rcases List.mem_append.mp hq with hq | hq
  · obtain ⟨hn, hT⟩ := hl q hq
    exact news_new F N e hn hT q List.mem_cons_self
  · exact news_ext N e q hq
theorem news_front {L : Addr} {news : List (Addr × Obj)} {h : Heap} {x : Addr × Obj} (N : News h₀ L h news) (hx : x ∈ news) : News h₀ L h (x :: news) := fun p hp => by
  rcases List.mem_cons.mp hp with rfl | hp
  · exact N _ hx
  · exact N _ hp
/-- zip over two lists of the ledger; the turns store nothing that lasts -/
theorem zip_base0 {elts : List Expr} {k : Nat} {pos : Pos} {l1 l2 : Addr} {xs ys : List Value} {n1 n2 : Nat} {m₀ : Str → Option Value} {news : List (Addr × Obj)} (stored : List Str)
    (hh : A.handled = none) (F : Fr h₀ env.locals s.heap m₀) (N : News h₀ env.locals s.heap news) (hm1 : (l1, listOf xs.toArray n1) ∈ news) (hm2 : (l2, listOf ys.toArray n2) ∈ news)
    (turn : ∀ (i : Nat) T x y (u : Str → Option Value) h tk own, xs[i]? = some x → ys[i]? = some y → IsTup h T #[x, y] → OwnOff own (news.map (·.1)) → Fr h₀ env.locals h (fun z => if stored.contains z then u z else m₀ z) → News h₀ env.locals h (news ++ own) →
      wpAny (model prog w) A (assign (.Tuple elts k pos) env (.ref T)) (fun _ s₂ => wpAny (model prog w) A (execs body env) (InvPostN h₀ env.locals (fun m' nx => nx = news ∧ ∀ z, stored.contains z = false → m' z = m₀ z) own (news.map (·.1)) { s with heap := h, toks := tk } Q) E s₂) E { s with heap := h, toks := tk })
    (done : ∀ (u : Str → Option Value) h tk, Fr h₀ env.locals h (fun z => if stored.contains z then u z else m₀ z) → News h₀ env.locals h news → Q .next { s with heap := h, toks := tk }) :
    wpAny (model prog w) A (call (.type "zip") [.ref l1, .ref l2]) (fun xv s₁ => wpAny (model prog w) A (pyIter xv) (fun it s₂ => TurnsAt prog w A h₀ env (.Tuple elts k pos) body Q E it s₂) E s₁) E s := by
  have same : ∀ m₁ : Str → Option Value, (∀ z, stored.contains z = false → m₁ z = m₀ z) → (fun z => if stored.contains z then m₁ z else m₀ z) = m₁ := by
    intro m₁ hm
    funext z
    cases h2 : stored.contains z with
    | true => rfl
    | false => exact (hm z h2).symm
  have hax1 := N _ hm1
  have hax2 := N _ hm2
  have hl1 : s.heap.IsList l1 xs.toArray := N.isList hm1
  have hl2 : s.heap.IsList l2 ys.toArray := N.isList hm2
  have hlt1 : l1 < s.heap.objs.size := Heap.lt_size hax1.1
  have hlt2 : l2 < s.heap.objs.size := Heap.lt_size hax2.1
  have hLs : env.locals < s.heap.objs.size := F.ns.lt
  have D : ZipApart (s.heap.objs.size + 4) (s.heap.objs.size + 2) (s.heap.objs.size + 3) s.heap.objs.size (s.heap.objs.size + 1) l1 l2 := ktu_apart _ _ _ hlt1 hlt2
  refine call_zip_2 hl1 hl2 fun h' hz hTI hTO hi1 hi2 hsz hk => ?_
  refine wpAny_pyIter_zip hz ?_
  refine turns_inv (s := { s with heap := h' }) (fun _ m nx => nx = news ∧ ∀ z, stored.contains z = false → m z = m₀ z) (KTurns.ofWalksU (elts := elts) (k := k) (pos := pos) (WalksT.zip2 hh _ _ _ _ _ _ _ D xs.toArray ys.toArray).toU) ?_ ?_ ?_ ?_ ?_ (F.keeps hk) (N.grown hk) ⟨rfl, fun _ _ => rfl⟩ ?_ ?_
  · intro hI'
    have hb' : env.locals = s.heap.objs.size + 4 ∨ env.locals = s.heap.objs.size + 2 ∨ env.locals = s.heap.objs.size + 3 ∨ env.locals = s.heap.objs.size ∨ env.locals = s.heap.objs.size + 1 ∨ env.locals = l1 ∨ env.locals = l2 := by simpa using hI'
    have n1 := hax1.2.1
    have n2 := hax2.2.1
    rcases hb' with e | e | e | e | e | e | e
    · exact ktu_ne 4 hLs e
    · exact ktu_ne 2 hLs e
    · exact ktu_ne 3 hLs e
    · exact Nat.ne_of_lt hLs e
    · exact ktu_ne 1 hLs e
    · exact n1 e.symm
    · exact n2 e.symm
  · intro b hb
    have hb' : b = s.heap.objs.size + 4 ∨ b = s.heap.objs.size + 3 ∨ b = s.heap.objs.size ∨ b = s.heap.objs.size + 1 := by simpa using hb
    rcases hb' with rfl | rfl | rfl | rfl
    · exact ktu_new F (Nat.le_add_right _ _)
    · exact ktu_new F (Nat.le_add_right _ _)
    · exact ktu_new F (Nat.le_refl _)
    · exact ktu_new F (Nat.le_add_right _ _)
  · intro p hp hI'
    have hb' : p.1 = s.heap.objs.size + 4 ∨ p.1 = s.heap.objs.size + 3 ∨ p.1 = s.heap.objs.size ∨ p.1 = s.heap.objs.size + 1 := by simpa using hI'
    have hlp := Heap.lt_size (N p hp).1
    rcases hb' with e | e | e | e
    · exact ktu_ne 4 hlp e
    · exact ktu_ne 3 hlp e
    · exact Nat.ne_of_lt hlp e
    · exact ktu_ne 1 hlp e
  · rintro q hq _ i m nx ⟨rfl, _⟩
    exact hq
  · exact ⟨hz, hTI, ⟨_, _, hTO⟩, hi1, hi2, hl1.at fun o e => hk _ o e, hl2.at fun o e => hk _ o e⟩
  · rintro i v m₁ nx h tk own hi ⟨T, vals, rfl, ⟨x, y, hx, hy, rfl⟩, hT⟩ hoff ⟨rfl, hm⟩ _ F₁ N₁
    exact turn i T x y m₁ h tk own (by simpa using hx) (by simpa using hy) hT hoff (by rw [same m₁ hm]; exact F₁) N₁
  · rintro m₁ nx h tk ⟨rfl, hm⟩ F₁ N₁
    exact done m₁ h tk (by rw [same m₁ hm]; exact F₁) N₁
end
end
/-! part S12 -/
section
theorem rowsAre_in {D : Addr} {l : List (Int × Int)} {vs : List Value} {tl : List (Addr × Obj)} (h : RowsAre D l vs tl) : All2 (RowIn tl) l vs := h.1
theorem rowsPre_mk {h₀ h : Heap} {L D : Addr} {vs : List Value} {n : Nat} {l : List (Int × Int)} {news tl : List (Addr × Obj)} (N : News h₀ L h news) (hm : (D, listOf vs.toArray n) ∈ news) (hA : All2 (RowIn tl) l vs) (htl : ∀ x ∈ tl, x ∈ news) : RowsPre l D vs h := by
  refine ⟨N.isList hm, All2.imp ?_ hA⟩
  rintro p v ⟨T, t1, t2, rfl, hT⟩
  exact ⟨T, t1, t2, 0, _, rfl, (N _ (htl _ hT)).1, rfl, rfl⟩
theorem rows_tail_fst (ks l : List Int) : ((rowsOf ks l).drop 1).map (fun p => p.1) = l.drop 1 := by rw [List.map_drop, rowsOf_fst]
theorem rows_snd (ks : List Int) : (rowsOf ks (startsL ks)).map (fun p => p.2) = codesL ks := by
  unfold rowsOf codesL
  rw [List.map_map]; rfl
theorem zip_facts {ks : List Int} (hO : ∀ k ∈ ks, 0 ≤ k ∧ k < 256) {i : Nat} {a c k : Int} (hp : (rowsOf ks (startsL ks))[i]? = some (a, c)) (hk : ((startsL ks).drop 1 ++ [(ks.length : Int)])[i]? = some k) :
    (0 ≤ a ∧ a < (ks.length : Int)) ∧ (a < k ∧ k ≤ (ks.length : Int)) ∧ (-256 ≤ c ∧ c < 1114112) ∧ (decOf ks a.toNat).1 = c ∧ (decOf ks a.toNat).2 = k ∧ encL c = (ks.drop a.toNat).take (k - a).toNat := by
  unfold rowsOf at hp
  rw [List.getElem?_map, Option.map_eq_some_iff] at hp
  obtain ⟨a', ha, e⟩ := hp
  cases e
  have hm := startsL_mem (List.mem_of_getElem? ha)
  rw [List.drop_one] at hk
  have he := starts_end ha hk
  have hs := (decOf_step ks a.toNat).1
  have hl := dec_le (ks := ks) (i := a.toNat) ((Int.toNat_lt hm.1).mpr hm.2)
  have hx := enc_dec hO (i := a.toNat) ((Int.toNat_lt hm.1).mpr hm.2)
  rw [Int.toNat_of_nonneg hm.1] at hs hx
  rw [he] at hs hl hx
  exact ⟨hm, ⟨hs, hl⟩, dec_range hO _, rfl, he, hx⟩
theorem bytes_same {x y : Array UInt8} {ks ls : List Int} (hx : KBw.bInts x = ks) (hy : KBw.bInts y = ls) (e : ks = ls) (h : (x.toList != y.toList) = true) : False := by
  have inj : ∀ (l l' : List UInt8), l.map (fun c => (c.toNat : Int)) = l'.map (fun c => (c.toNat : Int)) → l = l' := by
    intro l
    induction l with
    | nil => intro l' h; cases l' with
      | nil => rfl
      | cons _ _ => cases h
    | cons c r ih => intro l' h; cases l' with
      | nil => cases h
      | cons c' r' =>
        rw [List.map_cons, List.map_cons] at h
        have h1 := (List.cons.inj h).1
        have h2 := ih r' (List.cons.inj h).2
        have : c.toNat = c'.toNat := by omega
        rw [h2, UInt8.toNat_inj.mp this]
  have e1 : KBw.bInts x = KBw.bInts y := by rw [hx, hy, e]
  have e2 : x.toList = y.toList := inj _ _ e1
  rw [e2] at h
  simp at h
theorem tup_same {p : Int × Int} {c k : Int} (h1 : p.1 = c) (h2 : p.2 = k) (h : (p.1 == c && p.2 == k) = false) : False := by
  subst h1 h2
  simp at h
theorem valid_same {ks : List Int} (h : (((codesL ks).all fun c => decide (0 ≤ c)) != decide (List.filter (fun k => decide (k < 0)) (codesL ks) = [])) = true) : False := by
  rw [codes_valid] at h
  simp at h
section
theorem len_rows {prog : Program} {w : World} {A : Around} {E : Value → Shared → Prop} {s : Shared} {l : Addr} {vs : List Value} {n : Nat} {Q : Value → Shared → Prop} (hl : s.heap.IsList l vs.toArray) (hv : vs.length = n) (hn : n ≤ 64) (h : Q (.int (n : Nat) (s.toks + 1)) { s with toks := s.toks + 1 + 1 }) : wpAny (model prog w) A (call (.builtin "len") [.ref l]) Q E s := by
  refine PyProof.Rows.len_list hl (by rw [List.size_toArray]; omega) ?_
  rw [List.size_toArray, hv]
  exact h
theorem law_right_pu (w : World) (b : Array UInt8) (tb : Tok) (ks : List Int) (hks : KBw.bInts b = ks) (hsz : ks.length ≤ 64) : Pu w 188 [.bytes b tb] 9 200 (fun _ => True) (fun _ _ r => r = .bool true) := by
  have hsl := startsL_len ks
  have hcl := codesL_len ks
  have hO : ∀ k ∈ ks, 0 ≤ k ∧ k < 256 := fun k hk => KBw.ints_in (by rw [hks]; exact hk)
  w_top off
  (
      unfold Pu
      k_fill
      intro mean mg mb dp un gd cn cs a ccd cl outer A₀ base h₀ L m s Q E B F X T hk hpre hd hu hret
      refine wpAny_call ?_
      k_dflt (refine' pu_enter B F X T ?kA ?kF ?kK ?k6 ?k7 ?k8 ?k9 ?kB ?_ ?c2 ?c3 ?c4 ?c5; (case kA => exact rfl); (case kF => exact rfl); (case kK => assumption); (case k6 => k_is); (case k7 => k_is); (case k8 => ktr_room); (case k9 => exact BindsTo.of_eq rfl); (case c5 => decide); (case kB => exact locs rfl); (case c2 => exact rfl); (case c3 => exact rfl); (case c4 => exact rfl); k_whole)
      clear B F X T
      intro L' h' F' N' B' X' T'
      (try dsimp only)
      (try k_fold))
  k_with_none
  k_with "exec Assign" => k_fold
  k_with "exec Expr" => k_fold
  k_with "exec If" => k_fold
  k_with "exec Return" => k_fold
  k_with "exec AugAssign" => k_fold
  k_with "eval Call" => k_fold
  k_with "eval Compare" => k_fold
  k_with "isTrue Compare" => k_fold
  k_with "eval BinOp" => k_fold
  k_with "eval Subscript" => k_fold
  k_with "eval Tuple" => k_fold
  k_with "eval List" => k_fold
  k_with "eval BoolOp" => k_fold
  k_with "isTrue BoolOp Or" => k_fold
  k_with "isTrue BoolOp" => k_fold
  k_with "execs cons" => k_fold
  k_with "call ref" => ((k_here; first
      | (refine' Pu.use (law_rows_pu _ _ _ _ ?hks ?hsz) ?k1 ?k2 ?k3 ?k4 ?k5 ?kK ?kp ?kd ?ku ?_; (case hks => kba_ints); (case hsz => (first | assumption | omega)); ((case k1 => k_asm); (case k2 => k_asm); (case k3 => k_asm); (case k4 => k_asm); (case k5 => k_asm); (case kK => first | exact rfl | assumption); (try (case kp => exact trivial)); (case kd => ktr_room); (case ku => ktr_units)); intro r9 h9 tk9 F9 N9 e9 o9; (obtain ⟨D9, vs9, n9, tl9, er9, hR9, hl9⟩ := o9; subst er9); have N9' := news_many (by assumption) (by assumption) e9 hl9; (have hA9 := rowsAre_in hR9); clear hl9 hR9; (have hv9 := hA9.length); (rw [rowsOf_len] at hv9); (try simp only [List.cons_append, List.append_nil] at N9'); (try (change News _ L' _ _ at N9')); (try dsimp only); (try k_fold))
      | (refine' Pu.use (law_places_pu _ _ _ _ ?hks ?hsz _ _) ?k1 ?k2 ?k3 ?k4 ?k5 ?kK ?kp ?kd ?ku ?_; (case hks => kba_ints); (case hsz => (first | assumption | omega)); (case kp => exact rowsPre_mk (by k_asm) (by k_mem) (by assumption) (by kcf_all)); ((case k1 => k_asm); (case k2 => k_asm); (case k3 => k_asm); (case k4 => k_asm); (case k5 => k_asm); (case kK => first | exact rfl | assumption); (try (case kp => exact trivial)); (case kd => ktr_room); (case ku => ktr_units)); intro r9 h9 tk9 F9 N9 e9 o9; subst o9; (try dsimp only); (try k_fold))
      | (refine' Pu.use (decoded_pu _ _ _ _ _ _ ?hks ?hsz ?h0 ?h1) ?k1 ?k2 ?k3 ?k4 ?k5 ?kK ?kp ?kd ?ku ?_; (case hks => kba_ints); (case hsz => (first | assumption | omega)); (case h0 => first | omega | exact (startsL_mem (by assumption)).1); (case h1 => first | omega | exact (startsL_mem (by assumption)).2); ((case k1 => k_asm); (case k2 => k_asm); (case k3 => k_asm); (case k4 => k_asm); (case k5 => k_asm); (case kK => first | exact rfl | assumption); (try (case kp => exact trivial)); (case kd => ktr_room); (case ku => ktr_units)); intro r9 h9 tk9 F9 N9 e9 o9; refine pairOut_use o9 (fun T9 t9 u9 er9 hn9 hT9 => ?_); subst er9; clear o9; have N9' := news_new (by assumption) (by assumption) e9 hn9 hT9; (try (change News _ L' _ _ at N9')); (try dsimp only); (try k_fold))
      | (refine' Pu.use (encoded_pu _ _ _ ?h0 ?h1) ?k1 ?k2 ?k3 ?k4 ?k5 ?kK ?kp ?kd ?ku ?_; (case h0 => assumption); (case h1 => assumption); ((case k1 => k_asm); (case k2 => k_asm); (case k3 => k_asm); (case k4 => k_asm); (case k5 => k_asm); (case kK => first | exact rfl | assumption); (try (case kp => exact trivial)); (case kd => ktr_room); (case ku => ktr_units)); intro r9 h9 tk9 F9 N9 e9 o9; (refine Exists.elim o9 ?_; clear o9; intro b9 o9; refine Exists.elim o9 ?_; clear o9; intro t9 o9; have hb9 := o9.2; have er9 := o9.1; clear o9; subst er9); (try dsimp only); (try k_fold))
      | (refine' Pu.use (starts_of_pu _ _ _ _ ?hks ?hsz) ?k1 ?k2 ?k3 ?k4 ?k5 ?kK ?kp ?kd ?ku ?_; (case hks => kba_ints); (case hsz => (first | assumption | omega)); ((case k1 => k_asm); (case k2 => k_asm); (case k3 => k_asm); (case k4 => k_asm); (case k5 => k_asm); (case kK => first | exact rfl | assumption); (try (case kp => exact trivial)); (case kd => ktr_room); (case ku => ktr_units)); intro r9 h9 tk9 F9 N9 e9 o9; refine intsOut_use o9 (fun D9 vs9 n9 er9 hn9 hT9 hI9 => ?_); subst er9; clear o9; have N9' := news_new (by assumption) (by assumption) e9 hn9 hT9; (try (change News _ L' _ _ at N9')); (have hI8 := hI9.length); (try dsimp only); (try k_fold))
      | (refine' Pu.use (codes_of_pu _ _ _ _ ?hks ?hsz) ?k1 ?k2 ?k3 ?k4 ?k5 ?kK ?kp ?kd ?ku ?_; (case hks => kba_ints); (case hsz => (first | assumption | omega)); ((case k1 => k_asm); (case k2 => k_asm); (case k3 => k_asm); (case k4 => k_asm); (case k5 => k_asm); (case kK => first | exact rfl | assumption); (try (case kp => exact trivial)); (case kd => ktr_room); (case ku => ktr_units)); intro r9 h9 tk9 F9 N9 e9 o9; refine intsOut_use o9 (fun D9 vs9 n9 er9 hn9 hT9 hI9 => ?_); subst er9; clear o9; have N9' := news_new (by assumption) (by assumption) e9 hn9 hT9; (try (change News _ L' _ _ at N9')); (have hI8 := hI9.length); (try dsimp only); (try k_fold))
      | (refine' Pu.use (length_pu _ _ _ _ ?hks ?hsz) ?k1 ?k2 ?k3 ?k4 ?k5 ?kK ?kp ?kd ?ku ?_; (case hks => kba_ints); (case hsz => (first | assumption | omega)); ((case k1 => k_asm); (case k2 => k_asm); (case k3 => k_asm); (case k4 => k_asm); (case k5 => k_asm); (case kK => first | exact rfl | assumption); (try (case kp => exact trivial)); (case kd => ktr_room); (case ku => ktr_units)); intro r9 h9 tk9 F9 N9 e9 o9; (refine Exists.elim o9 ?_; clear o9; intro t9 o9; subst o9); (try dsimp only); (try k_fold))
      | (refine' Pu.use (is_valid_pu _ _ _ _ ?hks ?hsz) ?k1 ?k2 ?k3 ?k4 ?k5 ?kK ?kp ?kd ?ku ?_; (case hks => kba_ints); (case hsz => (first | assumption | omega)); ((case k1 => k_asm); (case k2 => k_asm); (case k3 => k_asm); (case k4 => k_asm); (case k5 => k_asm); (case kK => first | exact rfl | assumption); (try (case kp => exact trivial)); (case kd => ktr_room); (case ku => ktr_units)); intro r9 h9 tk9 F9 N9 e9 o9; subst o9; (try dsimp only); (try k_fold))
      | (refine' Pu.use (joined_codes_pu _ _ _ _ ?hi ?hc ?hl) ?k1 ?k2 ?k3 ?k4 ?k5 ?kK ?kp ?kd ?ku ?_; (case kp => kmk_list); (case hi => exact hcs9); (case hc => exact codes_range hO); (case hl => omega); ((case k1 => k_asm); (case k2 => k_asm); (case k3 => k_asm); (case k4 => k_asm); (case k5 => k_asm); (case kK => first | exact rfl | assumption); (try (case kp => exact trivial)); (case kd => ktr_room); (case ku => ktr_units)); intro r9 h9 tk9 F9 N9 e9 o9; (refine Exists.elim o9 ?_; clear o9; intro b9 o9; refine Exists.elim o9 ?_; clear o9; intro t9 o9; have hb9 := o9.2; have er9 := o9.1; clear o9; subst er9); (try dsimp only); (try k_fold))))
  k_with "exec Assign cons ListComp" => ((k_here; k_dflt (refine Assign_ListComp_R (fun p => p.2) (by k_asm) (.inr ⟨rfl, fun _ => rfl⟩) (fun _ => rfl) (fun _ => rfl) (by decide) (by rfl) (by with_unfolding_all rfl) (by with_unfolding_all rfl) (by decide) (by rfl) (by decide) (by rfl) (by rfl) (by decide) (by rfl) (by rfl) ?_)))
  k_with "eval ListComp" => ((k_here; k_dflt (first
      | ((with_reducible show wpAny _ _ (eval (PySem.Expr.ListComp _ [⟨PySem.Expr.Name _ _, _, [_], _⟩] _ _) _) _ _ _); refine LCt.ListComp_T (F₀ := by k_asm) (by with_unfolding_all rfl) (by decide) (by rfl) (by decide) (by rfl) ?_)
      | ((with_reducible show wpAny _ _ (eval (PySem.Expr.ListComp _ [⟨PySem.Expr.Tuple _ _ _, _, _, _⟩] _ _) _) _ _ _); refine ListComp_R (fun p => p.1) (by k_asm) (.inl ⟨rfl, fun _ => rfl⟩) (fun _ => rfl) (fun _ => rfl) (by decide) (by with_unfolding_all rfl) (by decide) (by rfl) (by decide) (by rfl) (by rfl) (by decide) ?_))))
  k_with "CompSrcT" => ((k_here; k_dflt (refine LCt.CompSrcT.ledger (by rfl) (by k_asm) (by k_asm) (by k_mem) (by (rw [List.size_toArray, hcs9.length, sizeLine_eq]; omega)) ?_; intro g'; refine' cf_list (fun k => decide (k < 0)) hcs9 (fun k' t' I' oI' C' oC' D' m' ys' h' tk' E' hk' hC' hx' F' N' off' ne' => ?_) (fun ys8 hys8 => ?_); (all_goals (try (simp only [LCg.Off3, and_true] at off'))))))
  k_with "CompEnd" => (first
      | (refine' LCg.CompEnd.intro ?cF ?cN _ ?ca ?co ?cs ⟨?cp, rfl, _, rfl⟩; (case cF => assumption); (case cN => assumption); (case ca => kcf_all); (case co => first | assumption | (simp only [LCg.Off3, and_true]; assumption)); (case cs => first | lcg_src | assumption); (case cp => first | exact decide_eq_true (by omega) | exact decide_eq_false (by omega)))
      | (refine' LCg.CompEnd.intro ?cF ?cN _ ?ca ?co ?cs ⟨?cp, rfl⟩; (case cF => assumption); (case cN => assumption); (case ca => kcf_all); (case co => first | assumption | (simp only [LCg.Off3, and_true]; assumption)); (case cs => first | lcg_src | assumption); (case cp => first | exact decide_eq_true (by omega) | exact decide_eq_false (by omega))))
  k_with "SrcRows" => ((first
      | (k_dflt (refine' SrcRows.led (by rfl) ?F ?N ?m ?c ?d hA9 ?tl ?z ?_; (case F => k_asm); (case N => k_asm); (case m => k_mem); (case c => rfl); (case d => rfl); (case tl => kcf_all); (case z => (rw [rowsOf_len]; omega))); intro g' ys9 hys9; (first | rw [rowsOf_fst] at hys9 | (rw [rows_snd] at hys9; have hcs9 := hys9)))
      | (k_dflt (refine' SrcRows.led (by rfl) ?F ?N ?m ?c ?d hA9.drop1 ?tl ?z ?_; (case F => k_asm); (case N => k_asm); (case m => k_mem); (case c => rfl); (case d => exact seq_pick1 vs9); (case tl => kcf_all); (case z => (rw [List.length_drop, rowsOf_len]; omega))); intro g' ys9 hys9; rw [rows_tail_fst] at hys9)))
  k_with "subscriptTail Name Slice bytes ref" => ((k_here; (with_unfolding_all refine slice_rest (s := ⟨_, _, _, _, _⟩) (by k_asm) (by k_asm) (by kba_ints) (by omega) (by omega) (by omega) ?_); intro b8 rs8 h8 t8 k8 F8 N8 hb8 hr8 hl8))
  k_with "InvEndN" => ((k_dflt (refine' InvEndN.intro ?iF ?iN ⟨rfl, ?is⟩ ?ir ?ia ?io; (case iF => assumption); (case iN => assumption); (case ir => rfl); (case is => (intro z h2; have h3 := h2; simp only [List.contains_cons, List.contains_nil, Bool.or_false, Bool.or_eq_false_iff, beq_eq_false_iff_ne, ne_eq] at h3; simp only [h2, h3, if_false, Bool.false_eq_true, not_false_eq_true])); (case ia => (intro p hp; (iterate 3 refine List.mem_cons_of_mem _ ?_); exact List.mem_append_left own9 hp)); (case io => (intro p hp; repeat (first | exact List.mem_append_right _ hp | refine List.mem_cons_of_mem _ ?_))))))
  k_with "compareOp NotEq ref ref" => ((k_here; (with_reducible show wpAny _ _ (compareOp CmpOp.NotEq (Value.ref _) (Value.ref _)) _ _ _); k_dflt (refine' ke_ne_ints ?ea ?eb ?ei ?ej ?eu ?_; (case ea => kmk_list); (case eb => kmk_list); (case ei => l_ints); (case ej => l_ints); (case eu => units_room))))
  k_with "compareOp Eq ref ref" => ((k_here; (with_reducible show wpAny _ _ (compareOp CmpOp.Eq (Value.ref _) (Value.ref _)) _ _ _); k_dflt (refine' ke_eq_ints ?ea ?eb ?ei ?ej ?eu ?_; (case ea => kmk_list); (case eb => kmk_list); (case ei => l_ints); (case ej => l_ints); (case eu => units_room))))
  k_with "call builtin:len" => ((k_here; k_dflt (refine' len_rows ?ea hv9 ?en ?_; (case ea => kmk_list); (case en => omega))))
  k_with "exec For Tuple Call cons nil" => (k_here; (rename Fr _ _ _ _ => lF'); (with_unfolding_all refine' For_turns lF' ?_; k_whole))
  k_with "call type:zip" => (
   (rename Fr _ _ _ _ => lF'); (rename News _ _ _ _ => lN')
   (with_unfolding_all refine' zip_base0 (xs := vs9) (ys := _) [Str.ofString "at", Str.ofString "code", Str.ofString "end"] (by rfl) lF' lN' (by k_mem) (by k_mem) (fun i9 T9 x9 y9 u9 h9 tk9 own9 hx9 hy9 hT9 hoff9 F' N' => ?turn) (fun u9 h9 tk9 F' N' => ?done))
   (all_goals (try clear lF' lN'))
   (all_goals (try simp only [List.nil_append, List.cons_append, List.append_nil] at N'))
   (case' turn => ((obtain ⟨⟨a9, c9⟩, hp9, T8, t8, u8, hx8, hT8⟩ := hA9.get i9 x9 hx9); (subst hx8); (obtain ⟨k9, t7, hy8, hk9⟩ := IntsAre.at (ns := List.drop 1 (startsL ks) ++ [(ks.length : Int)]) (by assumption) i9 y9 hy9); (subst hy8); (obtain ⟨⟨ha0, ha1⟩, ⟨hk0, hk1⟩, ⟨hc0, hc1⟩, hd1, hd2, hen⟩ := zip_facts hO hp9 hk9); (clear hx9 hy9 hp9 hk9); (have N' := news_front N' (by simp [hT8] : (T8, tupO [.int a9 t8, .int c9 u8]) ∈ _))))
   (all_goals (try k_fold)))
  k_steps
  all_goals first
    | (exfalso; exact tup_same hd1 hd2 (by assumption))
    | (exfalso; exact bytes_same hb9 hb8 (hen.trans hr8.symm) (by assumption))
    | (exfalso; exact bytes_same hb9 hks (codes_join hO) (by assumption))
    | (exfalso; exact valid_same (by assumption))
    | (exfalso; exact absurd rfl ‹¬ startsL ks = startsL ks›)
    | (exfalso; exact absurd rfl ‹¬ codesL ks = codesL ks›)
    | (exfalso; exact absurd rfl ‹((startsL ks).length : Int) ≠ ((startsL ks).length : Int)›)
    | ((refine' hret _ _ _ (Fr.keep ?kfr) ?_; (case kfr => k_asm)); rfl)
end
end
/-! part L1 -/
section
open PySem PySem.W PyProof.Rows PySem.Spec PySem.Calls PyProof.V
section
variable {prog : Program} {w : World} {A : Around} {E : Value → Shared → Prop} {s : Shared} {env : Env} {h₀ : Heap} {x : Str} {body : List Stmt} {Q : Flow → Shared → Prop}
theorem fmod_b (x : Int) {d : Int} (hd : 0 < d) : 0 ≤ x.fmod d ∧ x.fmod d < d := ⟨Int.fmod_nonneg_of_pos x hd, Int.fmod_lt_of_pos x hd⟩
theorem fdiv_nn {x d : Int} (h : 0 ≤ x) (hd : 0 ≤ d) : 0 ≤ x.fdiv d := Int.fdiv_nonneg h hd
/-- a range; a list of two ints on the ledger and a bytes that grows -/
theorem bowl_loop {r B : Addr} {b₀ : Int} {t₀ u₀ v₀ : Tok} {n : Nat} {m₀ : Str → Option Value} {news : List (Addr × Obj)} {y : Str} {tb : Tok} {p₀ q₀ : Int} {tp₀ tq₀ : Tok} {n₀ : Nat}
    (hh : A.handled = none) (hr : IsRange s.heap r 0 b₀ 1 t₀ u₀ v₀) (hsmall : Builtin.Range.small 0 b₀ 1 = true) (hn : Builtin.Range.rangeSize 0 b₀ 1 = (n : Int)) (F : Fr h₀ env.locals s.heap m₀) (N : News h₀ env.locals s.heap news)
    (hB : (B, listOf #[.int p₀ tp₀, .int q₀ tq₀] n₀) ∈ news) (hp : 0 ≤ p₀) (hq : 0 ≤ q₀ ∧ q₀ < 65453) (hy : m₀ y = some (.bytes #[] tb))
    (turn : ∀ (j : Nat) t p tp q tq nn b t' h tk own, j < n → 0 ≤ p → 0 ≤ q → q < 65453 → b.size ≤ 5 * j → OwnOff own [B] → Fr h₀ env.locals h (fun z => if z = x then some (.int (0 + (j : Int)) t) else if z = y then some (.bytes b t') else m₀ z) → News h₀ env.locals h ([(B, listOf #[.int p tp, .int q tq] nn)] ++ own) →
      wpAny (model prog w) A (execs body env) (InvPostN h₀ env.locals (fun m' nx => (∃ p' tp' q' tq' nn', nx = [(B, listOf #[.int p' tp', .int q' tq'] nn')] ∧ 0 ≤ p' ∧ 0 ≤ q' ∧ q' < 65453) ∧ (∃ b' t', m' y = some (.bytes b' t') ∧ b'.size ≤ 5 * (j + 1)) ∧ ∀ z, z ≠ x → z ≠ y → m' z = m₀ z) own [B] { s with heap := h, toks := tk } Q) E { s with heap := h, toks := tk })
    (done : ∀ (u : Str → Option Value) b t' h tk, b.size ≤ 5 * n → Fr h₀ env.locals h (fun z => if z = x then u z else if z = y then some (.bytes b t') else m₀ z) → News h₀ env.locals h [] → Q .next { s with heap := h, toks := tk }) :
    wpAny (model prog w) A (pyIter (.ref r)) (fun it s₂ => LoopAtV prog w A h₀ env x body Q E it s₂) E s := by
  have N₀ : News h₀ env.locals s.heap [(B, listOf #[.int p₀ tp₀, .int q₀ tq₀] n₀)] := fun p hp => N p (by rw [List.mem_singleton.mp hp]; exact hB)
  refine kpr_invN (fun j m nx => (∃ p tp q tq nn, nx = [(B, listOf #[.int p tp, .int q tq] nn)] ∧ 0 ≤ p ∧ 0 ≤ q ∧ q < 65453) ∧ (∃ b t', m y = some (.bytes b t') ∧ b.size ≤ 5 * j) ∧ ∀ z, z ≠ x → z ≠ y → m z = m₀ z) hh hr hsmall hn F N₀ ⟨⟨_, _, _, _, _, rfl, hp, hq.1, hq.2⟩, ⟨_, _, hy, Nat.zero_le _⟩, fun _ _ _ => rfl⟩ ?_ ?_
  · rintro i k t m₁ nx h tk own hk hoff ⟨⟨p, tp, q, tq, nn, rfl, h1, h2, h3⟩, ⟨b, t', hb, hz⟩, hm⟩ F₁ N₁
    have hi : i < n := by
      have := (List.getElem?_eq_some_iff.mp hk).1
      rwa [rangeKs_length] at this
    have hk' : k = 0 + (i : Int) := by
      have e : (rangeKs 0 n)[i]? = some (0 + (i : Int)) := by simp [rangeKs, hi]
      rw [e] at hk; exact (Option.some.inj hk).symm
    subst hk'
    rw [map_one hb hm] at F₁
    exact turn i t p tp q tq nn b t' h tk own hi h1 h2 h3 hz hoff F₁ N₁
  · rintro m₁ nx h tk ⟨_, ⟨b, t', hb, hz⟩, hm⟩ F₁ _
    rw [rangeKs_length] at hz
    refine done m₁ b t' h tk hz ?_ (fun _ hp => nomatch hp)
    have e : (fun z => if z = x then m₁ z else if z = y then some (Value.bytes b t') else m₀ z) = m₁ := by
      funext z
      by_cases h1 : z = x
      · simp [h1]
      · simp only [if_neg h1]
        by_cases h2 : z = y
        · subst h2; simp [hb]
        · simp only [if_neg h2]; exact (hm z h1 h2).symm
    rw [e]; exact F₁
theorem bowl_loop8 {r B : Addr} {c₀ : Int} {t₀ u₀ v₀ : Tok} {m₀ : Str → Option Value} {news : List (Addr × Obj)} {y : Str} {tb : Tok} {p₀ q₀ : Int} {tp₀ tq₀ : Tok} {n₀ : Nat}
    (hh : A.handled = none) (hr : IsRange s.heap r 0 (c₀.fmod 8) 1 t₀ u₀ v₀) (F : Fr h₀ env.locals s.heap m₀) (N : News h₀ env.locals s.heap news)
    (hB : (B, listOf #[.int p₀ tp₀, .int q₀ tq₀] n₀) ∈ news) (hp : 0 ≤ p₀) (hq : 0 ≤ q₀ ∧ q₀ < 65453) (hy : m₀ y = some (.bytes #[] tb))
    (turn : ∀ (j : Nat) t p tp q tq nn b t' h tk own, j < 8 → 0 ≤ p → 0 ≤ q → q < 65453 → b.size ≤ 5 * j → OwnOff own [B] → Fr h₀ env.locals h (fun z => if z = x then some (.int (0 + (j : Int)) t) else if z = y then some (.bytes b t') else m₀ z) → News h₀ env.locals h ([(B, listOf #[.int p tp, .int q tq] nn)] ++ own) →
      wpAny (model prog w) A (execs body env) (InvPostN h₀ env.locals (fun m' nx => (∃ p' tp' q' tq' nn', nx = [(B, listOf #[.int p' tp', .int q' tq'] nn')] ∧ 0 ≤ p' ∧ 0 ≤ q' ∧ q' < 65453) ∧ (∃ b' t', m' y = some (.bytes b' t') ∧ b'.size ≤ 5 * (j + 1)) ∧ ∀ z, z ≠ x → z ≠ y → m' z = m₀ z) own [B] { s with heap := h, toks := tk } Q) E { s with heap := h, toks := tk })
    (done : ∀ (u : Str → Option Value) b t' h tk, b.size ≤ 40 → Fr h₀ env.locals h (fun z => if z = x then u z else if z = y then some (.bytes b t') else m₀ z) → News h₀ env.locals h [] → Q .next { s with heap := h, toks := tk }) :
    wpAny (model prog w) A (pyIter (.ref r)) (fun it s₂ => LoopAtV prog w A h₀ env x body Q E it s₂) E s := by
  have hb := fmod_b c₀ (d := 8) (by decide)
  refine bowl_loop (n := ((c₀.fmod 8) - 0).toNat) hh hr (small_one (by omega) (by omega) (by omega) (by omega)) (rangeSize_nat _ _) F N hB hp hq hy ?_ ?_
  · intro j t p tp q tq nn b t' h tk own hj
    exact turn j t p tp q tq nn b t' h tk own (by omega)
  · intro u b t' h tk hz
    exact done u b t' h tk (by omega)
theorem item_at {value slice : PySem.Expr} {l : Addr} {vs : List Value} {k : Int} {u : Tok} {v : Value} {Q : Value → Shared → Prop}
    (hl : s.heap.IsList l vs.toArray) (h0 : 0 ≤ k) (hhi : k < 2 ^ 63) (hx : vs[k.toNat]? = some v) (h : Q v s)
    (hs : subscripted slice false (.ref l) (.int k u) = operate [.ref l, .int k u] (getItem (.ref l) (.int k u)) := by with_unfolding_all rfl) :
    wpAny (model prog w) A (subscriptTail value slice (.ref l) (.int k u)) Q E s :=
  tail_any hl.typeIs slot_list_getitem.lookup (wpAny_getItem_list hl h0 hhi (by simpa using hx) h) hs
/-- an item of a written list of short bytes, at an open place -/
theorem menu_at {value slice : PySem.Expr} {l : Addr} {vs : List Value} {k : Int} {u : Tok} {Q : Value → Shared → Prop}
    (hl : s.heap.IsList l vs.toArray) (h0 : 0 ≤ k) (hhi : k < (vs.length : Int)) (hlen : vs.length ≤ 64) (hall : ∀ v ∈ vs, ∃ b t, v = .bytes b t ∧ b.size ≤ 5) (h : ∀ b t, b.size ≤ 5 → Q (.bytes b t) s)
    (hs : subscripted slice false (.ref l) (.int k u) = operate [.ref l, .int k u] (getItem (.ref l) (.int k u)) := by with_unfolding_all rfl) :
    wpAny (model prog w) A (subscriptTail value slice (.ref l) (.int k u)) Q E s := by
  have hk : k.toNat < vs.length := by omega
  obtain ⟨b, t, e, hz⟩ := hall _ (List.getElem_mem hk)
  exact item_at hl h0 (by omega) (by rw [List.getElem?_eq_getElem hk]) (by rw [e]; exact h b t hz) hs
end
end
/-! part S13 -/
section
theorem item_first {prog : Program} {w : World} {A : Around} {E : Value → Shared → Prop} {s : Shared} {value slice : PySem.Expr} {l : Addr} {vs : List Value} {v : Value} {u : Tok} {Q : Value → Shared → Prop}
    (hl : s.heap.IsList l (v :: vs).toArray) (h : Q v s)
    (hs : subscripted slice false (.ref l) (.int 0 u) = operate [.ref l, .int 0 u] (getItem (.ref l) (.int 0 u)) := by with_unfolding_all rfl) :
    wpAny (model prog w) A (subscriptTail value slice (.ref l) (.int 0 u)) Q E s :=
  tail_any hl.typeIs slot_list_getitem.lookup (wpAny_getItem_list hl (by decide) (by decide) (by simp) h) hs
noncomputable def BowlOut (h h' : Heap) (r : Value) : Prop := ∃ D p tp q tq n, r = .ref D ∧ h.get? D = none ∧ h'.get? D = some (listOf #[.int p tp, .int q tq] n) ∧ 0 ≤ p ∧ 0 ≤ q ∧ q < 65453
theorem bowl_mk {h h' : Heap} {L D : Addr} {news : List (Addr × Obj)} {p z : Int} {tp tq : Tok} {n : Nat} (N : News h L h' news) (hm : (D, listOf #[.int p tp, .int (z.fmod 65447 + 5) tq] n) ∈ news) (hp : 0 ≤ p) : BowlOut h h' (.ref D) := by
  have e : z.fmod 65447 = z % 65447 := Int.fmod_eq_emod_of_nonneg z (by decide)
  refine ⟨D, _, _, _, _, n, rfl, (N _ hm).2.2, (N _ hm).1, hp, ?_, ?_⟩ <;> rw [e] <;> omega
theorem law_bowl_pu (w : World) (l : Addr) (vs : List Value) (ns : List Int) (hi : IntsAre vs ns) (hlen : ns.length ≤ 63) : Pu w 154 [.ref l] 2 100 (fun h => h.IsList l vs.toArray) BowlOut := by
  w_top off
  (
      unfold Pu
      k_fill
      intro mean mg mb dp un gd cn cs a ccd cl outer A₀ base h₀ L m s Q E B F X T hk hpre hd hu hret
      refine wpAny_call ?_
      k_dflt (refine' pu_enter B F X T ?kA ?kF ?kK ?k6 ?k7 ?k8 ?k9 ?kB ?_ ?c2 ?c3 ?c4 ?c5; (case kA => exact rfl); (case kF => exact rfl); (case kK => assumption); (case k6 => k_is); (case k7 => k_is); (case k8 => ktr_room); (case k9 => exact BindsTo.of_eq rfl); (case c5 => decide); (case kB => exact locs rfl); (case c2 => exact rfl); (case c3 => exact rfl); (case c4 => exact rfl); k_whole)
      clear B F X T
      intro L' h' F' N' B' X' T'
      (try dsimp only)
      (try k_fold))
  k_with_none
  k_with "exec Assign" => k_fold
  k_with "exec Expr" => k_fold
  k_with "exec If" => k_fold
  k_with "exec Return" => k_fold
  k_with "exec AugAssign" => k_fold
  k_with "eval Call" => k_fold
  k_with "eval Compare" => k_fold
  k_with "isTrue Compare" => k_fold
  k_with "eval BinOp" => k_fold
  k_with "eval Subscript" => k_fold
  k_with "eval Tuple" => k_fold
  k_with "eval List" => k_fold
  k_with "eval BoolOp" => k_fold
  k_with "isTrue BoolOp Or" => k_fold
  k_with "isTrue BoolOp" => k_fold
  k_with "eval ListComp" => k_fold
  k_with "execs cons" => k_fold
  k_with "compareOp NotEq ref ref" => ((k_here; (with_reducible show wpAny _ _ (compareOp CmpOp.NotEq (Value.ref _) (Value.ref _)) _ _ _); k_dflt (refine' ke_ne_ints ?ea ?eb ?ei ?ej ?eu ?_; (case ea => kmk_list); (case eb => kmk_list); (case ei => l_ints); (case ej => l_ints); (case eu => units_room))))
  k_with "subscriptTail Name Constant ref int" => ((k_here; (with_unfolding_all refine' item_first ?ea ?_ ?eb; (case ea => kmk_list); (case eb => with_unfolding_all rfl); k_whole)))
  have hvl := hi.length
  cases hi with
  | nil =>
    k_steps
    all_goals ((refine' hret _ _ _ (Fr.keep ?kfr) ?_; (case kfr => k_asm)); exact bowl_mk (by assumption) (by k_mem) (by omega))
  | cons k9 t9 r9 =>
    k_steps
    all_goals ((refine' hret _ _ _ (Fr.keep ?kfr) ?_; (case kfr => k_asm)); first | exact bowl_mk (by assumption) (by k_mem) (by omega) | exact bowl_mk (by assumption) (by k_mem) (by simp only [Int.reducePow, Int.reduceToNat] at *; omega))
end
/-! part S14 -/
section
noncomputable abbrev bowlO (p : Int) (tp : Tok) (q : Int) (tq : Tok) (n : Nat) : Obj := listOf #[.int p tp, .int q tq] n
/-- a call of the def at f upon vs turns the bowl B alone, makes things besides, and hands back what Out says -/
noncomputable def Pb (w : World) (f : Addr) (B : Addr) (vs : List Value) (D U : Nat) (Out : Value → Prop) : Prop :=
  ∀ (mean : ExcName → Option Value) (mg mb : Str → Option Value) (dp un : Nat) (gd : Option (List Code)) (cn : Str) (cs : Scope) (a : Addr) (ccd : Value) (cl : List (Str × Addr)) (outer : List Env) (A₀ : Around) (base h₀ : Heap) (L : Addr) (m : Str → Option Value) (s : Shared)
    (Q E : Value → Shared → Prop) (news : List (Addr × Obj)) (p : Int) (tp : Tok) (q : Int) (tq : Tok) (n : Nat),
    Below A₀ base outer h₀ → Fr h₀ L s.heap m → (Mine.hd.heap_39 w.params).In h₀ → Top Mine.hd.view_39 (looseW Mine.hd.view_39 [Str.ofString "RowsError", Str.ofString "LIMITS"]) mean mg mb h₀ → cs.kind = .function → News h₀ L s.heap ((B, bowlO p tp q tq n) :: news) → (∀ x ∈ news, @Ne Nat x.1 B) → 0 ≤ p → 0 ≤ q → q < 65453 → dp + D < recursionLimit → un + U < cLine →
    (∀ r p' tp' q' tq' n' h' tk', Fr h₀ L h' m → News h₀ L h' ((B, bowlO p' tp' q' tq' n') :: news) → 0 ≤ p' → 0 ≤ q' → q' < 65453 → Out r → Q r { s with heap := h', toks := tk' }) →
    wpAny (model PySem.Challenge.rw_pc0189_01.row.prog w) (ktrTop dp un gd cn cs L a ccd cl outer) (call (.ref f) vs) Q E s
section
variable {prog : Program} {w : World} {A₀ A : Around} {s : Shared} {base h₀ : Heap} {outer : List Env} {L : Addr} {m mg mb : Str → Option Value} {env : Env} {K : Frag} {p : Program} {loose : List Str} {mean : ExcName → Option Value}
  {R : Result → Shared → Prop} {name qual : Str} {params : Arguments} {body : List Stmt} {scope : Scope} {dV kV doc pm cdv ct oc : Value} {an od : Option Addr} {osl : Array (Option Value)} {f : Addr} {args : Args} {binds : List (Str × Value)} {B : Addr} {oB : Obj} {news : List (Addr × Obj)}
theorem pm_enter (B₀ : Below A₀ base outer h₀) (F : Fr h₀ L s.heap m) (X₀ : K.In h₀) (T : Top p loose mean mg mb h₀) (hA : A.frames = some (env :: outer)) (hf : env.frame = some L) (hke : env.scope.kind = .function)
    (N : News h₀ L s.heap ((B, oB) :: news)) (hoff : ∀ x ∈ news, @Ne Nat x.1 B)
    (ho : K.lookup f = some ⟨oc, od, .func (fnOf name qual params body scope dV kV doc pm an cdv ct), osl⟩) (hcd : codeIn K cdv qual = true) (hroom : A.depth < recursionLimit)
    (hbind : BindsTo s (fnOf name qual params body scope dV kV doc pm an cdv ct) args binds) (hloc : ∀ y ∈ binds, scope.names.lookup y.1 = some .local)
    (h : ∀ g L' h₁, Fr g L' h₁ (fun y => binds.reverse.lookup y) → News g L' h₁ [(B, oB)] → Below A base (env :: outer) g → K.In g → Top p loose mean mg mb g →
      (∀ h' L'' m' oB', Fr g L'' h' m' → News g L'' h' [(B, oB')] → Fr h₀ L h' m ∧ News h₀ L h' ((B, oB') :: news)) →
      wpAny (model prog w) (A.deeper (envOf qual scope L' f cdv)) (execs body (envOf qual scope L' f cdv))
        (fun fl s' => R (.ok (.ret (match fl with | .ret v => v | _ => .none))) s')
        (fun e s' => wpAny (model prog w) (A.deeper (envOf qual scope L' f cdv)) (leaving (envOf qual scope L' f cdv) e) (fun _ s'' => R (.error e) s'') (fun e' s'' => R (.error e') s'') s')
        { s with heap := h₁, toks := s.toks + binds.length })
    (hco : scope.isCoroutine = false) (hgen : scope.isGenerator = false) (hk : scope.kind = .function)
    (hcell : ∀ x ∈ scope.names, x.2 ≠ .cell) : codeAny (model prog w) A (.call (.ref f) args) R s := by
  have N₁ : News h₀ L s.heap [(B, oB)] := fun x hx => N x (by rw [List.mem_singleton.mp hx]; exact List.mem_cons_self)
  obtain ⟨_, BG, st, _⟩ := groundX (R := R) B₀ F N₁ hA hf hke
  refine codeAny_call_def (fd := fnX name qual params body scope [] dV kV doc pm an cdv ct) (body := body) (binds := binds) hroom ((X₀.keeps F.keep) _ _ ho) rfl (T.nolimit.keeps F.keep) (codeRec_of (X₀.keeps F.keep) hcd) rfl hbind hcell hloc (fun h₁ hns hk₁ => ?_) hco hgen hk
  refine h (hideAll s.heap [B]) s.heap.objs.size h₁ ⟨hns, fun b o e => hk₁ b o (of_hideAll _ e), Nat.le_of_eq (hideAll_size _ _)⟩ (fun x hx => ?_) BG (X₀.keeps st) (T.keeps st) ?_
  · exact ⟨hk₁ _ _ (N₁ x hx).1, Nat.ne_of_lt (Heap.lt_size (N₁ x hx).1), hideAll_none _ (List.mem_map_of_mem hx)⟩
  · intro h' L'' m' oB' F' N'
    obtain ⟨_, _, _, back⟩ := groundX (R := fun _ s' => Fr h₀ L s'.heap m ∧ News h₀ L s'.heap [(B, oB')]) B₀ F N₁ hA hf hke
    obtain ⟨a, b⟩ := back .none { s with heap := h' } ⟨L'', m', [(B, oB')], F', N', fun a b => ⟨a, b⟩⟩
    refine ⟨a, fun x hx => ?_⟩
    rcases List.mem_cons.mp hx with rfl | hx
    · exact b _ (List.mem_singleton.mpr rfl)
    · have hN := N x (List.mem_cons_of_mem _ hx)
      refine ⟨F'.keep _ _ (hideAll_get _ hN.1 fun q => ?_), hN.2⟩
      have e : x.1 = B := by simpa using q
      exact hoff x hx e
end
section
variable {w : World} {f : Addr} {vs : List Value} {D U : Nat} {Out : Value → Prop} {mean : ExcName → Option Value} {mg mb : Str → Option Value} {dp un : Nat} {gd : Option (List Code)} {cn : Str} {cs : Scope} {a : Addr} {ccd : Value} {cl : List (Str × Addr)} {outer : List Env} {A₀ : Around} {base h₀ : Heap} {L : Addr} {m : Str → Option Value} {s : Shared}
    {Q E : Value → Shared → Prop} {news : List (Addr × Obj)} {B : Addr} {p q : Int} {tp tq : Tok} {n : Nat}
/-- the bowl stands ahead of what is kept -/
theorem Pb.use0 (P : Pb w f B vs D U Out) (B₀ : Below A₀ base outer h₀) (F : Fr h₀ L s.heap m) (X : (Mine.hd.heap_39 w.params).In h₀) (N : News h₀ L s.heap ((B, bowlO p tp q tq n) :: news)) (T : Top Mine.hd.view_39 (looseW Mine.hd.view_39 [Str.ofString "RowsError", Str.ofString "LIMITS"]) mean mg mb h₀) (hk : cs.kind = .function) (hoff : ∀ x ∈ news, @Ne Nat x.1 B) (hp : 0 ≤ p) (hq : 0 ≤ q ∧ q < 65453) (hd : dp + D < recursionLimit) (hu : un + U < cLine)
    (h : ∀ r p' tp' q' tq' n' h' tk', Fr h₀ L h' m → News h₀ L h' ((B, bowlO p' tp' q' tq' n') :: news) → 0 ≤ p' → 0 ≤ q' → q' < 65453 → Out r → Q r { s with heap := h', toks := tk' }) :
    wpAny (model PySem.Challenge.rw_pc0189_01.row.prog w) (ktrTop dp un gd cn cs L a ccd cl outer) (call (.ref f) vs) Q E s :=
  P mean mg mb dp un gd cn cs a ccd cl outer A₀ base h₀ L m s Q E news p tp q tq n B₀ F X T hk N hoff hp hq.1 hq.2 hd hu h
/-- behind one thing that is dropped -/
theorem Pb.use1 {x1 : Addr × Obj} (P : Pb w f B vs D U Out) (B₀ : Below A₀ base outer h₀) (F : Fr h₀ L s.heap m) (X : (Mine.hd.heap_39 w.params).In h₀) (N : News h₀ L s.heap [x1, (B, bowlO p tp q tq n)]) (T : Top Mine.hd.view_39 (looseW Mine.hd.view_39 [Str.ofString "RowsError", Str.ofString "LIMITS"]) mean mg mb h₀) (hk : cs.kind = .function) (hp : 0 ≤ p) (hq : 0 ≤ q ∧ q < 65453) (hd : dp + D < recursionLimit) (hu : un + U < cLine)
    (h : ∀ r p' tp' q' tq' n' h' tk', Fr h₀ L h' m → News h₀ L h' [(B, bowlO p' tp' q' tq' n')] → 0 ≤ p' → 0 ≤ q' → q' < 65453 → Out r → Q r { s with heap := h', toks := tk' }) :
    wpAny (model PySem.Challenge.rw_pc0189_01.row.prog w) (ktrTop dp un gd cn cs L a ccd cl outer) (call (.ref f) vs) Q E s :=
  P mean mg mb dp un gd cn cs a ccd cl outer A₀ base h₀ L m s Q E [] p tp q tq n B₀ F X T hk (fun x hx => N x (by rw [List.mem_singleton.mp hx]; simp)) (fun _ hx => nomatch hx) hp hq.1 hq.2 hd hu h
/-- behind two things that stay -/
theorem Pb.use2 {x1 x2 : Addr × Obj} (P : Pb w f B vs D U Out) (B₀ : Below A₀ base outer h₀) (F : Fr h₀ L s.heap m) (X : (Mine.hd.heap_39 w.params).In h₀) (N : News h₀ L s.heap [x1, x2, (B, bowlO p tp q tq n)]) (T : Top Mine.hd.view_39 (looseW Mine.hd.view_39 [Str.ofString "RowsError", Str.ofString "LIMITS"]) mean mg mb h₀) (hk : cs.kind = .function) (h1 : @Ne Nat x1.1 B) (h2 : @Ne Nat x2.1 B) (hp : 0 ≤ p) (hq : 0 ≤ q ∧ q < 65453) (hd : dp + D < recursionLimit) (hu : un + U < cLine)
    (h : ∀ r p' tp' q' tq' n' h' tk', Fr h₀ L h' m → News h₀ L h' [x1, x2, (B, bowlO p' tp' q' tq' n')] → 0 ≤ p' → 0 ≤ q' → q' < 65453 → Out r → Q r { s with heap := h', toks := tk' }) :
    wpAny (model PySem.Challenge.rw_pc0189_01.row.prog w) (ktrTop dp un gd cn cs L a ccd cl outer) (call (.ref f) vs) Q E s := by
  refine P mean mg mb dp un gd cn cs a ccd cl outer A₀ base h₀ L m s Q E [x1, x2] p tp q tq n B₀ F X T hk (fun x hx => N x ?_) (fun x hx => ?_) hp hq.1 hq.2 hd hu fun r p' tp' q' tq' n' h' tk' F' N' => h r p' tp' q' tq' n' h' tk' F' fun x hx => N' x ?_
  · simp only [List.mem_cons, List.not_mem_nil, or_false] at hx ⊢
    rcases hx with hx | hx | hx
    · exact .inr (.inr hx)
    · exact .inl hx
    · exact .inr (.inl hx)
  · simp only [List.mem_cons, List.not_mem_nil, or_false] at hx
    rcases hx with rfl | rfl
    · exact h1
    · exact h2
  · simp only [List.mem_cons, List.not_mem_nil, or_false] at hx ⊢
    rcases hx with hx | hx | hx
    · exact .inr (.inl hx)
    · exact .inr (.inr hx)
    · exact .inl hx
end
end
/-! part S15 -/
section
theorem scoop_pb (w : World) (B : Addr) (many : Int) (tm : Tok) (hm : 0 < many ∧ many ≤ 16) : Pb w 161 B [.ref B, .int many tm] 1 40 (fun r => ∃ v t, r = .int v t ∧ 0 ≤ v ∧ v < many) := by
  w_top off
  (
      unfold Pb
      k_fill
      intro mean mg mb dp un gd cn cs a ccd cl outer A₀ base h₀ L m s Q E news p tp q tq n B₀ F X T hk N hoff hp hq hq2 hd hu hret
      refine wpAny_call ?_
      k_dflt (refine' pm_enter B₀ F X T ?kA ?kF ?kK N hoff ?k6 ?k7 ?k8 ?k9 ?kB ?_ ?c2 ?c3 ?c4 ?c5; (case kA => exact rfl); (case kF => exact rfl); (case kK => assumption); (case k6 => k_is); (case k7 => k_is); (case k8 => ktr_room); (case k9 => exact BindsTo.of_eq rfl); (case c5 => decide); (case kB => exact locs rfl); (case c2 => exact rfl); (case c3 => exact rfl); (case c4 => exact rfl); k_whole)
      clear B₀ F X T N
      intro g' L' h' F' N' B' X' T' hback
      (try dsimp only)
      (try k_fold))
  k_with_none
  k_with "exec Assign" => k_fold
  k_with "exec Expr" => k_fold
  k_with "exec If" => k_fold
  k_with "exec Return" => k_fold
  k_with "exec AugAssign" => k_fold
  k_with "eval Call" => k_fold
  k_with "eval Compare" => k_fold
  k_with "isTrue Compare" => k_fold
  k_with "eval BinOp" => k_fold
  k_with "eval Subscript" => k_fold
  k_with "eval Tuple" => k_fold
  k_with "eval List" => k_fold
  k_with "eval BoolOp" => k_fold
  k_with "isTrue BoolOp Or" => k_fold
  k_with "isTrue BoolOp" => k_fold
  k_with "eval ListComp" => k_fold
  k_with "execs cons" => k_fold
  k_with "subscriptTail Name Constant ref int" => ((k_here; k_dflt (refine' item_at ?ea ?e0 ?e1 ?ex ?_ ?eb; (case ea => kmk_list); (case e0 => decide); (case e1 => decide); (case ex => rfl); (case eb => with_unfolding_all rfl); k_whole)))
  k_steps
  all_goals (
    (rename Fr _ _ _ _ => lF9); (rename News _ _ _ _ => lN9)
    obtain ⟨q1, q2⟩ := hback _ _ _ _ lF9 lN9
    refine' hret _ _ _ _ _ _ _ _ q1 q2 ?qa ?qb ?qc ⟨_, _, rfl, ?qd⟩
    (case qa => first | assumption | exact fdiv_nn hp (Int.le_of_lt hm.1))
    (case qb => first | assumption | exact (fmod_b _ (by decide)).1)
    (case qc => first | assumption | exact Int.lt_trans (fmod_b _ (by decide)).2 (by decide))
    (case qd => exact fmod_b _ hm.1))
theorem news_third {h₀ h : Heap} {L : Addr} {x1 x2 y : Addr × Obj} (N : News h₀ L h [x1, x2, y]) : News h₀ L h [y] := fun x hx => N x (by rw [List.mem_singleton.mp hx]; simp)
theorem piece_pb (w : World) (B : Addr) : Pb w 168 B [.ref B] 3 80 (fun r => ∃ b t, r = .bytes b t ∧ b.size ≤ 5) := by
  w_top off
  (
      unfold Pb
      k_fill
      intro mean mg mb dp un gd cn cs a ccd cl outer A₀ base h₀ L m s Q E news p tp q tq n B₀ F X T hk N hoff hp hq hq2 hd hu hret
      refine wpAny_call ?_
      k_dflt (refine' pm_enter B₀ F X T ?kA ?kF ?kK N hoff ?k6 ?k7 ?k8 ?k9 ?kB ?_ ?c2 ?c3 ?c4 ?c5; (case kA => exact rfl); (case kF => exact rfl); (case kK => assumption); (case k6 => k_is); (case k7 => k_is); (case k8 => ktr_room); (case k9 => exact BindsTo.of_eq rfl); (case c5 => decide); (case kB => exact locs rfl); (case c2 => exact rfl); (case c3 => exact rfl); (case c4 => exact rfl); k_whole)
      clear B₀ F X T N
      intro g' L' h' F' N' B' X' T' hback
      (try dsimp only)
      (try k_fold))
  k_with_none
  k_with "exec Assign" => k_fold
  k_with "exec Expr" => k_fold
  k_with "exec If" => k_fold
  k_with "exec Return" => k_fold
  k_with "exec AugAssign" => k_fold
  k_with "eval Call" => k_fold
  k_with "eval Compare" => k_fold
  k_with "isTrue Compare" => k_fold
  k_with "eval BinOp" => k_fold
  k_with "eval Subscript" => k_fold
  k_with "eval Tuple" => k_fold
  k_with "eval List" => k_fold
  k_with "eval BoolOp" => k_fold
  k_with "isTrue BoolOp Or" => k_fold
  k_with "isTrue BoolOp" => k_fold
  k_with "eval ListComp" => k_fold
  k_with "execs cons" => k_fold
  k_with "subscriptTail Name Constant ref int" => ((k_here; k_dflt (refine' item_at ?ea ?e0 ?e1 ?ex ?_ ?eb; (case ea => kmk_list); (case e0 => decide); (case e1 => decide); (case ex => rfl); (case eb => with_unfolding_all rfl); k_whole)))
  k_with "call ref" => ((k_here; k_dflt (first
      | (refine' Pb.use0 (scoop_pb _ _ _ _ ?km) ?k1 ?k2 ?k3 ?k4 ?k5 ?kK ?ko ?kp ?kq ?kd ?ku ?_; (case km => exact ⟨by decide, by decide⟩); ((case k1 => k_asm); (case k2 => k_asm); (case k3 => k_asm); (case k4 => k_asm); (case k5 => k_asm); (case kK => first | exact rfl | assumption); (try (case kp => exact trivial)); (case kd => ktr_room); (case ku => ktr_units)); (case ko => exact fun _ hx => nomatch hx); (case kp => assumption); (case kq => exact ⟨by assumption, by assumption⟩); intro r9 p9 tp9 q9 tq9 n9 h9 tk9 F9 N9 hp9 hq9 hq8 o9; (obtain ⟨v9, t9, er9, hv9, hv8⟩ := o9; subst er9); (try dsimp only); (try k_fold))
      | (refine' Pb.use2 (scoop_pb _ _ _ _ ?km) ?k1 ?k2 ?k3 ?k4 ?k5 ?kK ?kx ?ky ?kp ?kq ?kd ?ku ?_; (case km => exact ⟨by decide, by decide⟩); ((case k1 => k_asm); (case k2 => k_asm); (case k3 => k_asm); (case k4 => k_asm); (case k5 => k_asm); (case kK => first | exact rfl | assumption); (try (case kp => exact trivial)); (case kd => ktr_room); (case ku => ktr_units)); (case kx => exact Nat.ne_of_gt (by omega)); (case ky => exact Nat.ne_of_gt (by omega)); (case kp => assumption); (case kq => exact ⟨by assumption, by assumption⟩); intro r9 p9 tp9 q9 tq9 n9 h9 tk9 F9 N9 hp9 hq9 hq8 o9; (obtain ⟨v9, t9, er9, hv9, hv8⟩ := o9; subst er9); (try dsimp only); (try k_fold)))))
  k_with "subscriptTail Name Call ref int" => ((k_here; k_dflt (refine' menu_at ?ea ?e0 ?e1 ?el ?ex ?_ ?eb; (case ea => kmk_list); (case e0 => assumption); (case e1 => (simp only [List.length_cons, List.length_nil]; omega)); (case el => (simp only [List.length_cons, List.length_nil]; omega)); (case ex => ((repeat' (refine List.forall_mem_cons.mpr ⟨⟨_, _, rfl, by decide⟩, ?_⟩)); exact List.forall_mem_nil _)); (case eb => with_unfolding_all rfl); k_whole); intro b9 t9 hz9))
  k_steps
  all_goals (
    (rename Fr _ _ _ _ => lF9); (rename News _ _ _ _ => lN9)
    obtain ⟨q1, q2⟩ := hback _ _ _ _ lF9 (news_third lN9)
    exact hret _ _ _ _ _ _ _ _ q1 q2 (by assumption) (by assumption) (by assumption) ⟨_, _, rfl, by assumption⟩)
end
/-! part V1 -/
section
theorem bowl_use {h h' : Heap} {r : Value} {G : Prop} (o : BowlOut h h' r) (k : ∀ D p tp q tq n, r = .ref D → h.get? D = none → h'.get? D = some (listOf #[.int p tp, .int q tq] n) → 0 ≤ p → 0 ≤ q → q < 65453 → G) : G := by
  obtain ⟨D, p, tp, q, tq, n, a, b, c, d, e, f⟩ := o
  exact k D p tp q tq n a b c d e f
theorem own_off {own : List (Addr × Obj)} {B : Addr} (h : OwnOff own [B]) : ∀ x ∈ own, @Ne Nat x.1 B := fun x hx => h x hx B (List.mem_singleton.mpr rfl)
theorem bowl_loop' {prog : Program} {w : World} {A : Around} {E : Value → Shared → Prop} {s : Shared} {env : Env} {h₀ : Heap} {x : Str} {body : List Stmt} {Q : Flow → Shared → Prop} {r B : Addr} {b₀ : Int} {t₀ u₀ v₀ : Tok} {m₀ : Str → Option Value} {news : List (Addr × Obj)} {y : Str} {tb : Tok} {p₀ q₀ : Int} {tp₀ tq₀ : Tok} {n₀ : Nat}
    (hh : A.handled = none) (hr : IsRange s.heap r 0 b₀ 1 t₀ u₀ v₀) (hb₀ : 0 ≤ b₀) (hb₁ : b₀ < 8) (F : Fr h₀ env.locals s.heap m₀) (N : News h₀ env.locals s.heap news)
    (hB : (B, bowlO p₀ tp₀ q₀ tq₀ n₀) ∈ news) (hp : 0 ≤ p₀) (hq : 0 ≤ q₀ ∧ q₀ < 65453) (hy : m₀ y = some (.bytes #[] tb))
    (turn : ∀ (j : Nat) t p tp q tq nn b t' h tk own, j < 8 → 0 ≤ p → 0 ≤ q → q < 65453 → b.size ≤ 5 * j → OwnOff own [B] → Fr h₀ env.locals h (fun z => if z = x then some (.int (0 + (j : Int)) t) else if z = y then some (.bytes b t') else m₀ z) → News h₀ env.locals h ([(B, bowlO p tp q tq nn)] ++ own) →
      wpAny (model prog w) A (execs body env) (InvPostN h₀ env.locals (fun m' nx => (∃ p' tp' q' tq' nn', nx = [(B, bowlO p' tp' q' tq' nn')] ∧ 0 ≤ p' ∧ 0 ≤ q' ∧ q' < 65453) ∧ (∃ b' t', m' y = some (.bytes b' t') ∧ b'.size ≤ 5 * (j + 1)) ∧ ∀ z, z ≠ x → z ≠ y → m' z = m₀ z) own [B] { s with heap := h, toks := tk } Q) E { s with heap := h, toks := tk })
    (done : ∀ (u : Str → Option Value) b t' h tk, b.size ≤ 40 → Fr h₀ env.locals h (fun z => if z = x then u z else if z = y then some (.bytes b t') else m₀ z) → News h₀ env.locals h [] → Q .next { s with heap := h, toks := tk }) :
    wpAny (model prog w) A (pyIter (.ref r)) (fun it s₂ => LoopAtV prog w A h₀ env x body Q E it s₂) E s := by
  refine bowl_loop (n := (b₀ - 0).toNat) hh hr (small_one (by omega) (by omega) (by omega) (by omega)) (rangeSize_nat _ _) F N hB hp hq hy ?_ ?_
  · intro j t p tp q tq nn b t' h tk own hj
    exact turn j t p tp q tq nn b t' h tk own (by omega)
  · intro u b t' h tk hz
    exact done u b t' h tk (by omega)
theorem law_walk : PySem.Challenge.rw_pc0189_01.Holds := by
  refine hd ?_
  k_with_none
  k_with "exec Assign" => k_fold
  k_with "exec Expr" => k_fold
  k_with "exec If" => k_fold
  k_with "exec Return" => k_fold
  k_with "exec AugAssign" => k_fold
  k_with "eval Call" => k_fold
  k_with "eval Compare" => k_fold
  k_with "isTrue Compare" => k_fold
  k_with "eval BinOp" => k_fold
  k_with "eval Subscript" => k_fold
  k_with "eval Tuple" => k_fold
  k_with "eval List" => k_fold
  k_with "eval BoolOp" => k_fold
  k_with "isTrue BoolOp Or" => k_fold
  k_with "isTrue BoolOp" => k_fold
  k_with "eval ListComp" => k_fold
  k_with "execs cons" => k_fold
  k_with "call ref" => ((k_here; k_dflt (first
      | (refine' Pu.use (law_right_pu _ _ _ _ rfl ?hz) ?k1 ?k2 ?k3 ?k4 ?k5 ?kK ?kp ?kd ?ku ?_; (case hz => (rw [KBw.ints_length]; first | omega | decide)); (case kp => exact trivial); ((case k1 => k_asm); (case k2 => k_asm); (case k3 => k_asm); (case k4 => k_asm); (case k5 => k_asm); (case kK => first | exact rfl | assumption); (try (case kp => exact trivial)); (case kd => ktr_room); (case ku => ktr_units)); intro r9 h9 tk9 F9 N9 e9 o9; subst o9; (try dsimp only); (try k_fold))
      | (refine' Pu.use (law_bowl_pu _ _ _ _ ?hi ?hl) ?k1 ?k2 ?k3 ?k4 ?k5 ?kK ?kp ?kd ?ku ?_; (case hi => assumption); (case hl => omega); (case kp => kmk_list); ((case k1 => k_asm); (case k2 => k_asm); (case k3 => k_asm); (case k4 => k_asm); (case k5 => k_asm); (case kK => first | exact rfl | assumption); (try (case kp => exact trivial)); (case kd => ktr_room); (case ku => ktr_units)); intro r9 h9 tk9 F9 N9 e9 o9; refine bowl_use o9 (fun B9 p9 tp9 q9 tq9 nn9 er9 hn9 hT9 hp9 hq9 hq8 => ?_); subst er9; clear o9; have N9' := news_new (by assumption) (by assumption) e9 hn9 hT9; (try dsimp only); (try k_fold))
      | (refine' Pb.use1 (scoop_pb _ _ _ _ ?km) ?k1 ?k2 ?k3 ?k4 ?k5 ?kK ?kp ?kq ?kd ?ku ?_; (case km => exact ⟨by decide, by decide⟩); ((case k1 => k_asm); (case k2 => k_asm); (case k3 => k_asm); (case k4 => k_asm); (case k5 => k_asm); (case kK => first | exact rfl | assumption); (try (case kp => exact trivial)); (case kd => ktr_room); (case ku => ktr_units)); (case kp => assumption); (case kq => exact ⟨by assumption, by assumption⟩); intro r9 p9 tp9 q9 tq9 n9 h9 tk9 F9 N9 hp9 hq9 hq8 o9; (obtain ⟨v9, t9, er9, hv9, hv8⟩ := o9; subst er9); (try dsimp only); (try k_fold))
      | (refine' Pb.use0 (piece_pb _ _) ?k1 ?k2 ?k3 ?k4 ?k5 ?kK ?ko ?kp ?kq ?kd ?ku ?_; ((case k1 => k_asm); (case k2 => k_asm); (case k3 => k_asm); (case k4 => k_asm); (case k5 => k_asm); (case kK => first | exact rfl | assumption); (try (case kp => exact trivial)); (case kd => ktr_room); (case ku => ktr_units)); (case ko => exact own_off hoff9); (case kp => assumption); (case kq => exact ⟨by assumption, by assumption⟩); intro r9 p9 tp9 q9 tq9 n9 h9 tk9 F9 N9 hp9 hq9 hq8 o9; (obtain ⟨b8, t9, er9, hz8⟩ := o9; subst er9); (try dsimp only); (try k_fold)))))
  k_with "binaryOp Add bytes bytes" => ((k_here; (with_reducible show wpAny _ _ (binaryOp Operator.Add (Value.bytes _ _) (Value.bytes _ _)) _ _ _); (refine KBy.add_bytes (by omega) ?_); intro _ _))
  k_with "InvEndN" => ((k_dflt (refine' InvEndN.intro ?iF ?iN ⟨⟨_, _, _, _, _, rfl, ?ip, ?iq, ?ir⟩, ⟨_, _, ?ie, ?iz⟩, ?is⟩ ?it ?ia ?io; (case iF => assumption); (case iN => assumption); (case ie => rfl); (case ia => (intro p hp; rw [List.mem_singleton.mp hp]; exact List.mem_cons_self)); (case io => exact fun p hp => List.mem_cons_of_mem _ hp); (case it => rfl); (case ip => assumption); (case iq => assumption); (case ir => assumption); (case iz => (rw [Array.size_append]; omega)); (case is => (intro z h1 h2; simp only [h1, h2, if_false])))))
  k_with "pyIter ref" => (
   (rename Fr _ _ _ _ => lF'); (rename News _ _ _ _ => lN'); (rename IsRange _ _ _ _ _ _ _ _ => rgX)
   (with_unfolding_all refine' bowl_loop' (y := Str.ofString "octets") (by rfl) rgX (by assumption) (by assumption) lF' lN' (by k_mem) (by assumption) ⟨by assumption, by assumption⟩ (by rfl) (fun j9 t9 p9 tp9 q9 tq9 nn9 b9 tb9 h9 tk9 own9 hj9 hp9 hq9 hq8 hz9 hoff9 F' N' => ?_) (fun u9 b9 t9 h9 tk9 hz9 F' N' => ?_))
   (all_goals (try clear lF' lN'))
   (all_goals (try simp only [List.nil_append, List.cons_append, List.append_nil] at N'))
   (all_goals (try k_fold)))
  w_top off
  w_strict k_go
end
end Mine
theorem PySem.Challenge.cw_pc0189_01_holds : PySem.Challenge.rw_pc0189_01.Holds := by
  exact Mine.law_walk
