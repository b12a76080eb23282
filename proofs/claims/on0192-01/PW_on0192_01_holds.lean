import PyProof.Rows.All
import Wide.All
import OpenK.AllK
import Wide.FinOn
import PySem.Challenge.RW_on0192_01
open PySem PySem.Spec PySem.Calls PySem.W PySem.SeqAt PyProof.Rows
set_option Elab.async false
namespace Mine
set_option maxRecDepth 100000
set_option maxHeartbeats 8000000
/-- the top's run over a heap that is a tree -/
noncomputable def runG (st : SharedT → Thread → Option (SharedT × Thread)) (ok : Thread → Bool) : Nat → SharedT → Thread → Option SharedT
  | 0, _, _ => none
  | n + 1, s, t => match through t with
    | true => some s
    | false => match ok t with
      | false => none
      | true => match st s t with
        | some (s', t') => runG st ok n s' t'
        | none => none
theorem runG_spec {tb : String → Option Builtin} {p : Program} {w : World} {n₀ : Nat} {ann : Option Value} : ∀ {n : Nat} {s : SharedT} {t : Thread} {r : SharedT}, runG (stepT (denote tb) p w) (stepOk n₀ ann) n s t = some r → topRun tb p w n₀ ann n s.abs t = some r.abs
  | 0, _, _, _, h => by cases h
  | n + 1, s, t, r, h => by
    unfold runG at h
    unfold topRun
    cases h1 : through t with
    | true => rw [h1] at h; cases h; rfl
    | false =>
      rw [h1] at h
      dsimp only at h ⊢
      cases h2 : stepOk n₀ ann t with
      | false => rw [h2] at h; cases h
      | true =>
        rw [h2] at h
        dsimp only at h ⊢
        cases h3 : stepT (denote tb) p w s t with
        | none => rw [h3] at h; cases h
        | some x =>
          obtain ⟨s', t'⟩ := x
          rw [h3] at h
          rw [stepT_spec h3]
          exact runG_spec h
/-- a heap as a tree -/
noncomputable def toBT (l : List Obj) : BT := (l.foldl (fun (x : BT × Nat) o => (x.1.ins x.2 o, x.2 + 1)) (.nil, 0)).1
/-- the state at the top's begin -/
noncomputable abbrev sBoot (n₀ : Nat) (w : World) (os : OsState) : SharedT := ⟨toBT (boot_heap w.params).objs.toList, n₀, {}, #[], boot_drawn, boot_toks, os⟩
/-- what the top's run ends in, seen by f -/
noncomputable abbrev topSees {β : Type} (p : Program) (N n₀ : Nat) (ann : Option Value) (f : World → SharedT → β) (v : World → β) : Prop :=
  ∀ (w : World) (os : OsState), (runG (stepT (denote treeTable) p w) (stepOk n₀ ann) N (sBoot n₀ w os) (topStub p)).map (f w) = some (v w)
noncomputable abbrev seesA (p q : Program) (loose : List Str) (Xt : Shared → Bool) (w : World) (s : SharedT) :=
  (staticsOk (importedModules p.main.body) (boot_heap w.params) s.abs.heap && namesBound p s.abs.heap && gensDone s.abs && laidKept (boot_heap w.params) s.abs.heap,
   seen ((recsOf q).map (·.name)) (ownsOf q) [] { s.abs with gens := #[] }, s.abs.heap.bltView,
   s.abs.heap.keysOk (looseW q loose) ((recsOf q).map (·.name)) ((litsOf q).map (·.1)) ((clssOf q (looseW q loose)).map (·.name)) && s.abs.heap.accountedOkI (importedModules p.main.body) && s.abs.heap.isNs mainGlobals && s.abs.heap.isNs builtinsNs && tablesOk q s.abs.heap && Xt s.abs && (if true then s.abs.gens.size == 0 else !leftWithCleanup s.abs.gens),
   tabsOk q s.abs)
noncomputable abbrev seesB (q : Program) (loose : List Str) (_ : World) (s : SharedT) :=
  (pinSeenD q (drecsOf q) s.abs, plainSeenE q (looseW q loose) s.abs, plainSeenD q loose s.abs, wideSeen q s.abs, clsSeenW q loose s.abs)
theorem left_of {p q : Program} {loose : List Str} {Xt : Shared → Bool} {α : Type} {Yf : Shared → α} {Ya : World → α} {N n₀ : Nat} {ann : Option Value}
    (e : opening p = plainProg p.main.scope.names) (hN : Nat.ble 600 N = true) (f : ∀ s, fenceModules? p s = some s)
    (hb : ∀ P, absHeap (toBT (boot_heap P).objs.toList) n₀ {} = boot_heap P)
    (h0 : ∀ P, ((boot_heap P).isNs mainGlobals, (boot_heap P).objs.size, (boot_heap P).nsMap mainGlobals "__annotations__") = (true, n₀, ann))
    (hA : topSees p N n₀ ann (seesA p q loose Xt) fun _ => (true, expectedOf q, bltViewBooted, true, true))
    (hB : topSees p N n₀ ann (seesB q loose) fun _ => (pinGoodD (drecsOf q), plainGoodE q (looseW q loose), plainGoodD q loose, wideGood q, clsGoodW q loose))
    (hK : topSees p N n₀ ann (fun _ s => Yf s.abs) Ya) : LeftO p q loose Xt Yf Ya N := fun w => by
  obtain ⟨⟨hp, gs, d, k, os⟩, e1, e2⟩ := Option.map_eq_some_iff.mp (boot_open e hN f w)
  obtain ⟨rfl, rfl, rfl, rfl⟩ : hp = boot_heap w.params ∧ gs = #[] ∧ d = boot_drawn ∧ k = boot_toks := by simpa using e2
  obtain ⟨z1, z2, z3⟩ : _ ∧ _ ∧ _ := by simpa only [Prod.mk.injEq] using h0 w.params
  obtain ⟨s, hs, hl⟩ := Option.map_eq_some_iff.mp (hA w os)
  obtain ⟨s2, hs2, hl2⟩ := Option.map_eq_some_iff.mp (hB w os)
  obtain ⟨s3, hs3, hl3⟩ := Option.map_eq_some_iff.mp (hK w os)
  obtain rfl : s2 = s := Option.some.inj (hs2.symm.trans hs)
  obtain rfl : s3 = s2 := Option.some.inj (hs3.symm.trans hs2)
  obtain ⟨l1, a1, a2, a3, a4⟩ : _ ∧ _ ∧ _ ∧ _ ∧ _ := by simpa only [seesA, Prod.mk.injEq] using hl
  obtain ⟨b1, b2, b3, b4, b5⟩ : _ ∧ _ ∧ _ ∧ _ ∧ _ := by simpa only [seesB, Prod.mk.injEq] using hl2
  have r := runG_spec hs
  have ea : (sBoot n₀ w os).abs = ⟨boot_heap w.params, #[], boot_drawn, boot_toks, os⟩ := by
    show (⟨absHeap _ _ _, _, _, _, _⟩ : Shared) = _
    rw [hb]
  rw [ea] at r
  unfold openEnds
  rw [e1]
  show ((topFrom treeTable p w N ⟨boot_heap w.params, #[], boot_drawn, boot_toks, os⟩).map _) = _
  unfold topFrom
  dsimp only
  rw [z1, z2, z3, r]
  dsimp only [Option.bind]
  rw [show ((true && (#[] : Array GenState).size == 0)) = true from rfl]
  dsimp only
  rw [l1]
  dsimp only [Option.map]
  have o : openSeen q loose (importedModules p.main.body) Xt true s3.abs = openGood q loose := by
    unfold openSeen openGood
    exact Prod.ext a1 (Prod.ext a2 (Prod.ext a3 (Prod.ext a4 (Prod.ext b1 (Prod.ext b2 (Prod.ext b3 (Prod.ext b4 b5)))))))
  have y : Yf s3.abs = Ya w := hl3
  rw [o, y]
/-- the text less its rows that bind __name__ -/
noncomputable abbrev mkV (s0 s1 s2 s3 s4 s5 s6 s7 s8 s9 s10 s11 s12 s13 s14 s15 s16 s17 s18 s19 s20 s21 s22 s23 s24 s25 s26 s27 s28 s29 s30 s31 s32 : Stmt) (_ : [s0, s1, s2, s3, s4, s5, s6, s7, s8, s9, s10, s11, s12, s13, s14, s15, s16, s17, s18, s19, s20, s21, s22, s23, s24, s25, s26, s27, s28, s29, s30, s31, s32] = Challenge.pw_on0192_01.main.body) : Program :=
  { Challenge.pw_on0192_01 with main := { Challenge.pw_on0192_01.main with body := [s0, s2, s3, s4, s6, s7, s8, s9, s10, s11, s13, s15, s16, s18, s20, s21, s22, s24, s25, s26, s27, s28, s29, s30, s31, s32] } }
noncomputable def Vw : Program := mkV _ _ _ _ _ _ _ _ _ _ _ _ _ _ _ _ _ _ _ _ _ _ _ _ _ _ _ _ _ _ _ _ _ rfl
noncomputable abbrev rrW : RowW := (Challenge.rw_on0192_01.row).toRowW
theorem top_A : topSees Challenge.pw_on0192_01 6564 11 (some (.ref 6)) (seesA Challenge.pw_on0192_01 Vw [] fun s => xlAt Vw [] s && recOk (RowW.records rrW) s) fun _ => (true, expectedOf Vw, bltViewBooted, true, true) := fun w os => by
  simp only [PySem.W.Fast.te5923862056798008813, PySem.W.Fast.te14364793385576792824, PySem.W.Fast.te10156331382660048174, PySem.W.Fast.te6613529449190102663, PySem.W.Fast.te11892475500146522536]
  kernel_rfl
theorem top_B : topSees Challenge.pw_on0192_01 6564 11 (some (.ref 6)) (seesB Vw []) fun _ => (pinGoodD (drecsOf Vw), plainGoodE Vw (looseW Vw []), plainGoodD Vw [], wideGood Vw, clsGoodW Vw []) := fun w os => by
  simp only [PySem.W.Fast.te14364793385576792824, PySem.W.Fast.te10156331382660048174, PySem.W.Fast.te6613529449190102663, PySem.W.Fast.te11892475500146522536]
  kernel_rfl
theorem boot_tree : ∀ P, absHeap (toBT (boot_heap P).objs.toList) 11 {} = boot_heap P := fun P => by kernel_rfl
theorem boot_looks : ∀ P, ((boot_heap P).isNs mainGlobals, (boot_heap P).objs.size, (boot_heap P).nsMap mainGlobals "__annotations__") = (true, 11, some (.ref 6)) := fun P => by kernel_rfl
/-- the law's head, but for what the hook sees, the witness and the walk -/
theorem holds_mine (H : Hook) {d : DefRec} {kwd : List (Str × PySem.Expr)} (said : (Challenge.rw_on0192_01.row).wellSaid = true) (hdef : defOf Vw (Challenge.rw_on0192_01.row).name = some (d, kwd)) (hp : (Challenge.rw_on0192_01.row).prog.theDef (Challenge.rw_on0192_01.row).name = some (d.params, d.body, d.scope)) (hk : kwWritten? d.params.kwonlyargs d.params.kw_defaults = some kwd)
    (hK : ∀ (w : World) (os : OsState), Option.map (fun s : SharedT => H.obs s.abs) (runG (PySem.W.Fast.tw10156331382660048174 (PySem.W.Fast.tw11892475500146522536 PySem.W.Fast.tw14364793385576792824) Challenge.pw_on0192_01 w) (PySem.W.Fast.tw6613529449190102663 11 (some (.ref 6))) 6564 (sBoot 11 w os) (topStub Challenge.pw_on0192_01)) = some (H.val w))
    (hw : (Challenge.rw_on0192_01.row).toRowW.promised) (hc : WalkO Vw [] (XL Vw []) H.says (Challenge.rw_on0192_01.row).toRowW d kwd fun f vs => PySem.call f vs) : (Challenge.rw_on0192_01.row).Holds :=
  holds_open (q := Vw) (loose := []) (Xt := fun s => xlAt Vw [] s && recOk (RowW.records rrW) s) (XP := XL Vw []) (Yf := H.obs) (Ya := H.val) (YP := H.says) (N := 6564)
    (left_of (p := Challenge.pw_on0192_01) (n₀ := 11) (ann := some (.ref 6)) rfl rfl (fun s => rfl) boot_tree boot_looks top_A top_B fun w os => by
      simp only [PySem.W.Fast.te14364793385576792824, PySem.W.Fast.te10156331382660048174, PySem.W.Fast.te6613529449190102663, PySem.W.Fast.te11892475500146522536]
      exact hK w os)
    H.of H.keeps (fun s e => xl_of s (Bool.and_eq_true_iff.mp e).1) XL.keeps hdef hp hk (fun s e => recFacts_of (Bool.and_eq_true_iff.mp e).2) (by rfl) said (by decide +kernel) ⟨rfl, rfl, rfl, rfl, rfl, by decide +kernel⟩ hw hc
theorem law_said : (Challenge.rw_on0192_01).wellSaid = true := by decide +kernel
set_option hygiene false in
local macro_rules | `(tactic| o_law) => `(tactic| refine holds_law law_said fun s => ?_)
set_option hygiene false in
local macro_rules | `(tactic| o_head $H) => `(tactic| (refine holds_mine $H s (by rfl) (by rfl) (by rfl) ?hl ?hw ?hc; (case hl => (intro w os; kernel_rfl))))
open_top hd for PySem.Challenge.rw_on0192_01

noncomputable abbrev Led := List (Addr × Obj)
noncomputable abbrev PR : Program := Challenge.rw_on0192_01.row.prog
noncomputable abbrev keys (l : Led) : List Addr := l.map (·.1)

theorem same_step {α : Type} {z y : Str} {ys : List Str} {v r w : α} [Decidable (z = y)] (hz : z ∉ ys) (hy : y ∈ ys) (e : r = w) : (if z = y then v else r) = w := (if_neg fun h : z = y => hz (h ▸ hy)).trans e
theorem room0 {x D r : Nat} (h : x + D < r) : x < r := Nat.lt_of_le_of_lt (Nat.le_add_right x D) h
theorem room1 {x D r d : Nat} (h : x + D < r) (e : Nat.ble d D = true) : x + d < r := Nat.lt_of_le_of_lt (Nat.add_le_add_left (Nat.le_of_ble_eq_true e) x) h
theorem room2 {x D r a d : Nat} (h : x + D < r) (e : Nat.ble (a + d) D = true) : x + a + d < r := Nat.add_assoc x a d ▸ room1 h e
theorem room3 {x D r a b d : Nat} (h : x + D < r) (e : Nat.ble (a + b + d) D = true) : x + a + b + d < r := by
  rw [Nat.add_assoc x a b, Nat.add_assoc x]; exact room1 h e
theorem room4 {x D r a b c d : Nat} (h : x + D < r) (e : Nat.ble (a + b + c + d) D = true) : x + a + b + c + d < r := by
  rw [Nat.add_assoc x a b, Nat.add_assoc x, Nat.add_assoc x]; exact room1 h e
/-- the walk stops here, unless told to go on -/
noncomputable def Halt (p : Prop) : Prop := p
theorem halt {p : Prop} (h : Halt p) : p := h
structure Going : Prop where
  on ::
theorem unhalt {p : Prop} (h : p) : Halt p := h
/-- what a call hands back: the caller's frame stands, all but the named objects are as they were, the named ones and new ones are fp' -/
noncomputable def Back (h₀ : Heap) (L : Addr) (m : Str → Option Value) (fp : List Addr) (s : Shared) (R : Value → Led → Prop) (Q : Value → Shared → Prop) : Prop :=
  ∀ r fp' h' tk', Fr h₀ L h' m → GSub s.heap h' fp → News h₀ L h' fp' → (∀ p ∈ fp', p.1 ∈ fp ∨ s.heap.get? p.1 = none) → R r fp' → Q r { s with heap := h', toks := tk' }

/-- the contract of a def: called in a def's frame, with the objects fp -/
noncomputable def Ct (w : World) (f : Addr) (d u : Nat) (args : List Value) (fp : Led) (Pre : Heap → Prop) (R : Value → Led → Prop) : Prop :=
  ∀ (mean : ExcName → Option Value) (mg mb : Str → Option Value) (dp un : Nat) (gd : Option (List Code)) (cn : Str) (cs : Scope) (a : Addr) (ccd : Value) (cl : List (Str × Addr)) (outer : List Env) (A₀ : Around) (base h₀ : Heap) (L : Addr) (m : Str → Option Value) (s : Shared) (Q E : Value → Shared → Prop),
    Below A₀ base outer h₀ → Fr h₀ L s.heap m → (hd.heap_1 w.params).In h₀ → News h₀ L s.heap fp → Top Vw (looseW Vw []) mean mg mb h₀ → cs.kind = .function → Pre s.heap →
    dp + d < recursionLimit → un + u < cLine → Back h₀ L m (keys fp) s R Q →
    wpAny (model PR w) (ktrTop dp un gd cn cs L a ccd cl outer) (call (.ref f) args) Q E s

theorem gsub_trans {h g h' : Heap} {l : List Addr} (G : GSub h g l) (k : ∀ b o, g.get? b = some o → h'.get? b = some o) : GSub h h' l := fun b o e n => k b o (G b o e n)
theorem back_close {h₀ g : Heap} {L L' : Addr} {m m' : Str → Option Value} {fp fp' : Led} {s : Shared} {h' : Heap} {tk' : Nat} {R : Value → Led → Prop} {Q : Value → Shared → Prop} {r : Value}
    (hret : Back h₀ L m (keys fp) s R Q) (kF : Fr h₀ L h' m) (kN : News h₀ L h' fp') (G : GSub s.heap g (keys fp)) (F' : Fr g L' h' m') (N' : News g L' h' fp') (hR : R r fp') : Q r { s with heap := h', toks := tk' } :=
  hret r fp' h' tk' kF (gsub_trans G F'.keep) kN (fun p hp => by
    by_cases hb : p.1 ∈ keys fp
    · exact .inl hb
    · right
      cases e : s.heap.get? p.1 with
      | none => rfl
      | some o => have := G _ _ e hb; rw [(N' p hp).2.2] at this; cases this) hR

section
variable {prog : Program} {w : World} {A₀ A : Around} {s : Shared} {base h₀ : Heap} {outer : List Env} {L : Addr} {m : Str → Option Value} {env : Env} {news : List (Addr × Obj)} {K : Frag} {p : Program} {loose : List Str} {mean : ExcName → Option Value} {mg mb : Str → Option Value}
  {R : Result → Shared → Prop} {name qual : Str} {params : Arguments} {body : List Stmt} {scope : Scope} {dV kV doc pm cdv ct oc : Value} {an od : Option Addr} {osl : Array (Option Value)} {f : Addr} {args : Args} {binds : List (Str × Value)}
/-- the entry of a def whose names are captured; what is not in the ledger stays in the new base -/
theorem enter_cells (B : Below A₀ base outer h₀) (F : Fr h₀ L s.heap m) (X₀ : K.In h₀) (N : News h₀ L s.heap news) (T : Top p loose mean mg mb h₀) (hA : A.frames = some (env :: outer)) (hf : env.frame = some L) (hke : env.scope.kind = .function)
    (ho : K.lookup f = some ⟨oc, od, .func (fnOf name qual params body scope dV kV doc pm an cdv ct), osl⟩) (hcd : codeIn K cdv qual = true) (hroom : A.depth < recursionLimit)
    (hbind : BindsTo s (fnOf name qual params body scope dV kV doc pm an cdv ct) args binds) (hkind : (binds.all fun y => scope.names.lookup y.1 == some .local || scope.names.lookup y.1 == some .cell) = true)
    (hnd : ((cellsFrom 0 scope.names []).map (·.1)).Nodup)
    (h : ∀ g L' h₁ tk cells, Fr h₀ L g m → Fr g L' h₁ (bindL (envOfC qual scope L' f cdv).kindOf binds fun _ => none) → News g L' h₁ (cells ++ news) →
      CellsAre (bindC (envOfC qual scope L' f cdv).kindOf binds fun _ => none) (cellsFrom (L' + 1) scope.names []) cells → Below A base (env :: outer) g → K.In g → Top p loose mean mg mb g → (∀ p ∈ news, p.1 < L') → GSub s.heap g (news.map (·.1)) →
      wpAny (model prog w) (A.deeper (envOfC qual scope L' f cdv)) (execs body (envOfC qual scope L' f cdv))
        (fun fl s' => LeaveK h₀ L m g R (match fl with | .ret v => v | _ => .none) s')
        (fun e s' => wpAny (model prog w) (A.deeper (envOfC qual scope L' f cdv)) (leaving (envOfC qual scope L' f cdv) e) (fun _ s'' => R (.error e) s'') (fun e' s'' => R (.error e') s'') s')
        { s with heap := h₁, toks := tk })
    (hco : scope.isCoroutine = false) (hgen : scope.isGenerator = false) (hk : scope.kind = .function) : codeAny (model prog w) A (.call (.ref f) args) R s := by
  have G := groundX (R := R) B F N hA hf hke
  have XK := X₀.keeps F.keep
  refine codeAny_call_function hroom (XK _ _ ho) rfl hco hgen rfl (codeRec_of XK hcd) (hbind _ _ _ _ (wpAny_newFunctionEnv_cells hk (kindsX hkind _) ?_))
  rintro env' rfl s' x
  have keep := x.toInCall.keep
  refine ⟨(T.nolimit.keeps F.keep).keeps keep, codeAny_func ?_⟩
  obtain ⟨h₁, tk, rfl, _⟩ := x.done
  obtain ⟨cells, NC, Y⟩ := Cl.news (h₀ := s.heap) (Nat.le_refl _) fun n c hm => ⟨x.cell n c (lookup_of_mem_nodup (cellsFrom_names scope.names 0 (s.heap.objs.size + 1) [] [] rfl ▸ hnd) hm), x.above n c hm⟩
  have hid : ∀ {b : Addr} {o : Obj}, (hideAll s.heap (news.map (·.1))).get? b = some o → s.heap.get? b = some o := of_hideAll _
  have none_of : ∀ {b : Addr}, s.heap.get? b = none → (hideAll s.heap (news.map (·.1))).get? b = none := fun {b} hb => by
    cases q : (hideAll s.heap (news.map (·.1))).get? b with
    | none => rfl
    | some o => rw [hid q] at hb; cases hb
  have NN : News (hideAll s.heap (news.map (·.1))) s.heap.objs.size h₁ (cells ++ news) := fun p hp => (List.mem_append.mp hp).elim
    (fun hp => ⟨(NC p hp).1, (NC p hp).2.1, none_of (NC p hp).2.2⟩)
    (fun hp => ⟨keep _ _ (N p hp).1, Nat.ne_of_lt (Heap.lt_size (N p hp).1), hideAll_none _ (List.mem_map_of_mem hp)⟩)
  exact wpAny_mono (h _ _ h₁ tk cells G.1 ⟨x.toInCall.ns, fun b o e => keep b o (hid e), Nat.le_of_eq (hideAll_size _ _)⟩ NN Y G.2.1 (X₀.keeps G.2.2.1) (T.keeps G.2.2.1) (fun p hp => Heap.lt_size (N p hp).1) fun b o e n => hideAll_get _ e n)
    (fun fl s' hl => G.2.2.2 _ _ hl) fun _ _ y => y
end

theorem back_close2 {h₀ g : Heap} {L L' : Addr} {m m' : Str → Option Value} {fp full : Led} {s : Shared} {h' : Heap} {tk' : Nat} {R : Value → Led → Prop} {Q : Value → Shared → Prop} {r : Value}
    (hret : Back h₀ L m (keys fp) s R Q) (kF : Fr h₀ L h' m) (kN : News h₀ L h' full) (G : GSub s.heap g (keys fp)) (F' : Fr g L' h' m') (N' : News g L' h' full) (fp' : Led) (sub : ∀ p ∈ fp', p ∈ full) (hR : R r fp') : Q r { s with heap := h', toks := tk' } :=
  back_close hret kF (fun p hp => kN p (sub p hp)) G F' (fun p hp => N' p (sub p hp)) hR
/-- what a statement leaves, told once for all its branches -/
inductive SEnd (h₀ : Heap) (L : Addr) (JJ : (Str → Option Value) → Led → Prop) (s : Shared) : Flow → Shared → Prop
  | mk (h' : Heap) (tk' : Nat) (m : Str → Option Value) (nn : Led) (F : Fr h₀ L h' m) (N : News h₀ L h' nn) (j : JJ m nn) : SEnd h₀ L JJ s .next { s with heap := h', toks := tk' }
theorem SEnd.intro {h₀ h' : Heap} {L : Addr} {m : Str → Option Value} {JJ : (Str → Option Value) → Led → Prop} {s : Shared} {tk' : Nat} {nn full : Led} (F : Fr h₀ L h' m) (N : News h₀ L h' full) (k : ∀ p ∈ nn, p ∈ full) (j : JJ m nn) :
    SEnd h₀ L JJ s .next { s with heap := h', toks := tk' } := .mk h' tk' m nn F (fun p hp => N p (k p hp)) j
theorem cut_st {M : Model} {A : Around} {E : Value → Shared → Prop} {s : Shared} {h₀ : Heap} {L : Addr} {m : Str → Option Value} {c : Sem Flow} {Q : Flow → Shared → Prop} (JJ : (Str → Option Value) → Led → Prop) (_F : Fr h₀ L s.heap m)
    (h1 : wpAny M A c (SEnd h₀ L JJ s) E s) (h2 : ∀ h' tk' m' nn, Fr h₀ L h' m' → News h₀ L h' nn → JJ m' nn → Q .next { s with heap := h', toks := tk' }) : wpAny M A c Q E s :=
  wpAny_mono h1 (fun fl s' h => by cases h with | mk h' tk' m' nn F N j => exact h2 h' tk' m' nn F N j) fun _ _ e => e
theorem mul_small {prog : Program} {w : World} {A : Around} {E : Value → Shared → Prop} {s : Shared} {a b : Int} {t u : Tok} {Q : Value → Shared → Prop} (ha : 0 ≤ a) (ha2 : a < 2 ^ 40)
    (h : Q (.int (a * b) s.toks) { s with toks := s.toks + 1 }) : wpAny (model prog w) A (binaryOp .Mult (.int a t) (.int b u)) Q E s :=
  PyProof.Rows.mul_int h (.of_left (intBits_le_64 (by omega) (by omega)))

/-- the two ints that the draws come from -/
inductive IsSrc (o : Obj) : Prop
  | mk (x y : Int) (tx ty : Tok) (nn : Nat) (p1 : 0 ≤ x) (p2 : 0 ≤ y) (p3 : y < 2147483647) (p4 : o = listOf #[.int x tx, .int y ty] nn) : IsSrc o

/-- one object of a ledger, and the others -/
inductive Pick1 (a : Addr) (o : Obj) : Led → Led → Prop
  | head {r} : (∀ p ∈ r, p.1 ≠ a) → Pick1 a o ((a, o) :: r) r
  | tail {p r r'} : p.1 ≠ a → Pick1 a o r r' → Pick1 a o (p :: r) (p :: r')
theorem Pick1.mem {a : Addr} {o : Obj} {l r : Led} (h : Pick1 a o l r) : (a, o) ∈ l := by
  induction h with
  | head _ => exact .head _
  | tail _ _ ih => exact .tail _ ih
theorem Pick1.rest {a : Addr} {o : Obj} {l r : Led} (h : Pick1 a o l r) : ∀ p ∈ r, p ∈ l ∧ p.1 ≠ a := by
  induction h with
  | head h => exact fun p hp => ⟨.tail _ hp, h p hp⟩
  | tail h _ ih =>
    intro p hp
    rcases List.mem_cons.mp hp with rfl | hp
    · exact ⟨.head _, h⟩
    · exact ⟨.tail _ (ih p hp).1, (ih p hp).2⟩

/-- the objects of a ledger are not those -/
noncomputable def Off1 (a : Addr) : Led → Prop
  | [] => True
  | p :: r => (@Ne Nat p.1 a) ∧ Off1 a r
noncomputable def OffL : List Addr → Led → Prop
  | [], _ => True
  | a :: as, l => Off1 a l ∧ OffL as l
theorem off1_of {a : Addr} {l : Led} (h : ∀ p ∈ l, p.1 ≠ a) : Off1 a l := by
  induction l with
  | nil => trivial
  | cons p r ih => exact ⟨h p List.mem_cons_self, ih fun q hq => h q (List.mem_cons_of_mem _ hq)⟩
theorem AllLt.ne {d : Addr} : ∀ {l : Led}, AllLt d l → ∀ p ∈ l, p.1 ≠ d
  | [], _, _, h => nomatch h
  | q :: r, hl, p, h => by
    rcases List.mem_cons.mp h with rfl | h
    · exact Nat.ne_of_lt hl.1
    · exact AllLt.ne hl.2 p h
theorem Off1.all {a : Addr} {l : Led} (h : Off1 a l) : ∀ p ∈ l, p.1 ≠ a := by
  induction l with
  | nil => exact fun p hp => absurd hp List.not_mem_nil
  | cons p r ih =>
    intro q hq
    cases List.mem_cons.mp hq with
    | inl e => rw [e]; exact h.1
    | inr hq => exact ih h.2 q hq
theorem offL_of {fp l : Led} (h : ∀ q ∈ l, ∀ p ∈ fp, q.1 ≠ p.1) : OffL (keys fp) l := by
  induction fp with
  | nil => trivial
  | cons p r ih => exact ⟨off1_of fun q hq => h q hq p List.mem_cons_self, ih fun q hq p hp => h q hq p (List.mem_cons_of_mem _ hp)⟩

theorem use_ct {w : World} {f : Addr} {d u : Nat} {args : List Value} {fp rest news : Led} {Pre : Heap → Prop} {R : Value → Led → Prop} (C : Ct w f d u args fp Pre R)
    {mean : ExcName → Option Value} {mg mb : Str → Option Value} {dp un : Nat} {gd : Option (List Code)} {cn : Str} {cs : Scope} {a : Addr} {ccd : Value} {cl : List (Str × Addr)} {outer : List Env} {A₀ : Around} {base h₀ : Heap} {L : Addr} {m : Str → Option Value} {s : Shared} {Q E : Value → Shared → Prop}
    (B : Below A₀ base outer h₀) (F : Fr h₀ L s.heap m) (X : (hd.heap_1 w.params).In h₀) (N : News h₀ L s.heap news) (T : Top Vw (looseW Vw []) mean mg mb h₀) (hk : cs.kind = .function)
    (hfp : ∀ p ∈ fp, p ∈ news) (hrest : ∀ p ∈ rest, p ∈ news ∧ p.1 ∉ keys fp) (hpre : Pre s.heap) (hd : dp + d < recursionLimit) (hu : un + u < cLine)
    (k : ∀ r fp' h' tk', Fr h₀ L h' m → News h₀ L h' (fp' ++ rest) → OffL (keys fp') rest → GSub s.heap h' (keys fp) → (∀ p ∈ fp', p.1 ∈ keys fp ∨ s.heap.get? p.1 = none) → R r fp' → Q r { s with heap := h', toks := tk' }) :
    wpAny (model PR w) (ktrTop dp un gd cn cs L a ccd cl outer) (call (.ref f) args) Q E s := by
  refine C mean mg mb dp un gd cn cs a ccd cl outer A₀ base h₀ L m s Q E B F X (fun p hp => N p (hfp p hp)) T hk hpre hd hu ?_
  intro r fp' h' tk' F' G N' fr hR
  refine k r fp' h' tk' F' (fun p hp => ?_) (offL_of fun q hq p hp e => ?_) G fr hR
  · rcases List.mem_append.mp hp with hp | hp
    · exact N' p hp
    · exact ⟨G _ _ (N p (hrest p hp).1).1 (hrest p hp).2, (N p (hrest p hp).1).2⟩
  · rcases fr p hp with h | h
    · exact (hrest q hq).2 (e ▸ h)
    · have := (N q (hrest q hq).1).1
      rw [e, h] at this; cases this

theorem use_ct1 {w : World} {f : Addr} {d u : Nat} {args : List Value} {x : Addr} {o : Obj} {rest news : Led} {Pre : Heap → Prop} {R : Value → Led → Prop} (C : Ct w f d u args [(x, o)] Pre R)
    {mean : ExcName → Option Value} {mg mb : Str → Option Value} {dp un : Nat} {gd : Option (List Code)} {cn : Str} {cs : Scope} {a : Addr} {ccd : Value} {cl : List (Str × Addr)} {outer : List Env} {A₀ : Around} {base h₀ : Heap} {L : Addr} {m : Str → Option Value} {s : Shared} {Q E : Value → Shared → Prop}
    (B : Below A₀ base outer h₀) (F : Fr h₀ L s.heap m) (X : (hd.heap_1 w.params).In h₀) (N : News h₀ L s.heap news) (T : Top Vw (looseW Vw []) mean mg mb h₀) (hk : cs.kind = .function)
    (P : Pick1 x o news rest) (hpre : Pre s.heap) (hd : dp + d < recursionLimit) (hu : un + u < cLine)
    (k : ∀ r fp' h' tk', Fr h₀ L h' m → News h₀ L h' (fp' ++ rest) → OffL (keys fp') rest → R r fp' → Q r { s with heap := h', toks := tk' }) :
    wpAny (model PR w) (ktrTop dp un gd cn cs L a ccd cl outer) (call (.ref f) args) Q E s :=
  use_ct C B F X N T hk (rest := rest) (fun p hp => by rw [List.mem_singleton.mp hp]; exact P.mem) (fun p hp => ⟨(P.rest p hp).1, fun h => (P.rest p hp).2 (List.mem_singleton.mp h)⟩) hpre hd hu
    fun r fp' h' tk' F' N' O _ _ hR => k r fp' h' tk' F' N' O hR
theorem use_ct1p {w : World} {f : Addr} {d u : Nat} {args : List Value} {x : Addr} {o : Obj} {rest news : Led} {Pre : Heap → Prop} {R : Value → Led → Prop}
    {mean : ExcName → Option Value} {mg mb : Str → Option Value} {dp un : Nat} {gd : Option (List Code)} {cn : Str} {cs : Scope} {a : Addr} {ccd : Value} {cl : List (Str × Addr)} {outer : List Env} {A₀ : Around} {base h₀ : Heap} {L : Addr} {m : Str → Option Value} {s : Shared} {Q E : Value → Shared → Prop}
    (B : Below A₀ base outer h₀) (F : Fr h₀ L s.heap m) (X : (hd.heap_1 w.params).In h₀) (N : News h₀ L s.heap news) (T : Top Vw (looseW Vw []) mean mg mb h₀) (hk : cs.kind = .function)
    (P : Pick1 x o news rest) (hpre : Pre s.heap) (C : Ct w f d u args [(x, o)] Pre R) (hd : dp + d < recursionLimit) (hu : un + u < cLine)
    (k : ∀ r fp' h' tk', Fr h₀ L h' m → News h₀ L h' (fp' ++ rest) → OffL (keys fp') rest → R r fp' → Q r { s with heap := h', toks := tk' }) :
    wpAny (model PR w) (ktrTop dp un gd cn cs L a ccd cl outer) (call (.ref f) args) Q E s := use_ct1 C B F X N T hk P hpre hd hu k
/-- a node's objects -/
noncomputable abbrev nodeLed (x dx cl al : Addr) (od : Obj) (cvs avs : List Value) (n3 n4 : Nat) : Led := [(x, instObj 256 dx), (dx, od), (cl, listOf cvs.toArray n3), (al, listOf avs.toArray n4)]
local macro_rules | `(tactic| walk_at $s:str) => `(tactic| first | k_extra $s | fail)
local macro_rules | `(tactic| k_inst) => `(tactic| first | k_extra "k_inst" | fail)
local macro_rules | `(tactic| k_handed) => `(tactic| first | k_extra "k_handed" | fail)
local macro_rules | `(tactic| k_all) => `(tactic| first | k_extra "k_all" | fail)
local macro_rules | `(tactic| k_ne) => `(tactic| first | k_extra "k_ne" | fail)
local macro_rules | `(tactic| k_lt $h:ident) => `(tactic| (revert $h; k_extra "k_lt"))
local macro_rules | `(tactic| ktr_enter) => `(tactic| first | k_extra "ktr_enter" | fail)
local macro_rules | `(tactic| k_room) => `(tactic| first | k_extra "k_room" | fail)
local macro_rules | `(tactic| ktr_room) => `(tactic| first | k_extra "room" | fail)
local macro_rules | `(tactic| ktr_units) => `(tactic| first | k_extra "room" | fail)
theorem fill (w : World) : hd.heap_1 w.params = hd.heap_1 w.params ∧ Challenge.rw_on0192_01.row.prog = Challenge.rw_on0192_01.row.prog := by
  k_fill
  w_top off
  exact ⟨rfl, rfl⟩
section
theorem rows1 : True := by
  k_with_none
  k_with "ktr_enter" =>
    (refine enter_cells (by k_asm) (by k_asm) (by k_asm) (by k_asm) (by k_asm) (by exact rfl) (by exact rfl) (by assumption) (by k_is) (by k_is) (by ktr_room) (by exact BindsTo.of_eq rfl) (by exact rfl) (by decide +kernel) ?_ (by exact rfl) (by exact rfl) (by exact rfl); k_whole; intro g' L' h' tk' cells' FG' F' N' Y' B' X' T' l1 kG'; (try k_lt l1); k_cells Y'; (try dsimp only [List.cons_append, List.nil_append] at N'); (try dsimp only); (try k_fold))
  k_with "ktr_enter" =>
    (refine code_defG (by k_asm) (by k_asm) (by k_asm) (by k_asm) (by k_asm) (by exact rfl) (by exact rfl) (by assumption) (by k_is) (by k_is) (by ktr_room) (by exact BindsTo.of_eq rfl) (by exact locs rfl) ?_ (by exact rfl) (by exact rfl) (by exact rfl) (by decide); k_whole; intro g' L' h' FG' F' N' B' X' T' kG'; (try dsimp only); (try k_fold))
  k_with "k_ne" =>
    (refine neN ?_; (try dsimp only); with_reducible first | assumption | exact Ne.symm (by assumption) | exact Nat.ne_of_gt (by assumption) | exact Nat.ne_of_lt (by assumption) | exact Nat.ne_of_gt (Nat.lt_succ_of_lt (by assumption)) | exact Nat.ne_of_lt (Nat.lt_succ_of_lt (by assumption)))
  k_with "k_lt" =>
    (intro l1; replace l1 := allLt_of l1; (try dsimp only [AllLt] at l1); (repeat (with_reducible (have O8 := And.left l1; replace l1 := And.right l1))))
  k_with "my pick" =>
    (first | (refine Pick1.head ?_; k_extra "k_all") | exact Pick1.tail (by k_ne) (by k_extra "my pick"))
  k_with "my sub" =>
    (first | exact List.forall_mem_nil _ | (refine List.forall_mem_cons.mpr ⟨by k_mem, ?_⟩; k_extra "my sub"))
  k_with "k_room" =>
    ((try simp only [depth_under_make, depth_under_kw, depth_in1, depth_deeper, depth_caller]); (try dsimp only [ktrTop]); omega)
  k_with "my and" =>
    (first | assumption | exact And.intro (by k_ne) (by k_extra "my and") | k_ne)
  k_with "my conj" =>
    (intro l1; (repeat (with_reducible (have O8 := And.left l1; replace l1 := And.right l1))))
  k_with "my off" =>
    ((rename OffL _ _ => O9); (try dsimp only [OffL, Off1, keys, nodeLed, List.map] at O9); revert O9; k_extra "my conj2")
  k_with "CompRest" =>
    (with_unfolding_all first | (refine LCg.CompRest.succ ?_; intro v' I' oI' C' oC' D' m' h' tk' E' hv' hC' hx' F' N' off' ne'; (first | lcg_open hv' | (obtain ⟨t9', hv9'⟩ := hv'; subst hv9')); (try dsimp only [LCg.Off3] at off'); revert off'; k_extra "my conj2"; revert ne'; k_extra "my conj") | refine LCg.CompRest.zero ?_)
  k_with "FinE" =>
    ((unfold LCg.FinE); intro D' h' tk' F' N' o1'; (try dsimp only [LCg.Off1] at o1'); (try dsimp only [List.nil_append, List.cons_append] at N'); (try dsimp only); revert o1'; k_extra "my conj")
  k_with "FinA" =>
    ((unfold LCg.FinA); intro D' h' tk' F' N' o1'; (try dsimp only [LCg.Off1] at o1'); (try dsimp only [List.nil_append, List.cons_append] at N'); (try dsimp only); revert o1'; k_extra "my conj")
  k_with "k_all" =>
    (first | exact List.forall_mem_nil _ | exact Off1.all (by with_reducible assumption) | exact AllLt.ne (by with_reducible assumption) | exact List.forall_mem_cons.mpr ⟨by k_ne, by k_extra "k_all"⟩)
  k_with "my conj2" =>
    (intro l2; (repeat (with_reducible (have l1 := And.left l2; replace l2 := And.right l2; revert l1; k_extra "my conj"))))
  k_with "my same" =>
    (intro z9 hz9; first | rfl | (refine same_step hz9 (by k_mem) ?_; k_extra "my same2") | ((simp only [List.mem_cons, List.not_mem_nil, or_false, not_or] at hz9); first | rfl | (simp only [hz9, if_false, if_neg, over, not_false_eq_true]; done) | (simp [hz9, over]; done)))
  k_with "my same2" =>
    (first | rfl | (refine same_step (by assumption) (by k_mem) ?_; k_extra "my same2"))
  k_with "TurnPost" =>
    (dsimp only [TurnPost])
  k_with "my for" =>
    (k_here; (rename Fr _ _ _ _ => lF'); (with_unfolding_all refine For_turns lF' ?_ (hE := by first | passes_own | assumption); k_whole))
  k_with "execs cons" =>
    (refine wpAny_execs_cons ?_; (try k_fold))
  k_with "room" =>
    (first | exact room2 (by assumption) (by exact rfl) | exact room3 (by assumption) (by exact rfl) | exact room1 (by assumption) (by exact rfl) | exact room0 (by assumption) | exact room4 (by assumption) (by exact rfl))
  k_with "k_room" =>
    (k_extra "room")
  k_with "binaryOp Mult int int" =>
    ((with_reducible show wpAny _ _ (binaryOp Operator.Mult (Value.int (List.getD _ _ _) _) (Value.int (List.getD _ _ _) _)) _ _ _); refine mul_small ?_ ?_ ?_; (· show 0 ≤ Int.fmod _ _; exact Int.fmod_nonneg_of_pos _ (by decide)); (· show Int.fmod _ _ < _; exact Int.lt_trans (Int.fmod_lt_of_pos _ (by decide)) (by decide)))
  trivial
theorem take_ct (w : World) (a : Addr) (o : Obj) (top : Int) (tt : Tok) (ho : IsSrc o) (h1 : 1 ≤ top) (h2 : top ≤ 64) :
    Ct w 463 1 8 [.ref a, .int top tt] [(a, o)] (fun _ => True)
      (fun r fp' => ∃ k t o', r = .int k t ∧ 0 ≤ k ∧ k < top ∧ IsSrc o' ∧ fp' = [(a, o')]) := by
  obtain ⟨x, y, tx, ty, nn, hx, hy, hy2, rfl⟩ := ho
  intro mean mg mb dp un gd cn cs ca ccd cl outer A₀ base h₀ L m s Q E B F X N T hk _ hdp hun hret
  refine wpAny_call ?_
  k_dflt ktr_enter
  k_steps
  all_goals (rename GSub _ _ _ => kG)
  all_goals (refine back_close hret (by assumption) (by assumption) kG (by assumption) (by assumption) ⟨_, _, _, rfl, ?_, ?_, ⟨_, _, _, _, _, ?_, ?_, ?_, rfl⟩, rfl⟩)
  all_goals first
    | exact Int.fmod_nonneg_of_pos _ (by omega)
    | exact Int.fmod_lt_of_pos _ (by omega)
    | exact hx
    | exact hy
    | exact hy2
    | exact Int.fdiv_nonneg (show 0 ≤ x from hx) (by omega)
end

section
variable {prog : Program} {w : World} {A : Around} {E : Value → Shared → Prop} {s : Shared} {g : Heap} {l L : Addr} {m : Str → Option Value} {vs : List Value}
theorem len_base {Q : Value → Shared → Prop} (hl : g.IsList l vs.toArray) (F : Fr g L s.heap m) (hz : vs.length ≤ 2 ^ 24) (h : Q (.int (vs.length : Int) (s.toks + 1)) { s with toks := s.toks + 1 + 1 }) :
    wpAny (model prog w) A (call (.builtin "len") [.ref l]) Q E s := by
  have e : vs.toArray.size = vs.length := List.size_toArray ..
  exact call_len_list (F.lst hl) (by rw [e]; omega) (by rw [e]; exact h)
theorem item_base {value slice : Expr} {k : Int} {u : Tok} {Q : Value → Shared → Prop} (hl : g.IsList l vs.toArray) (F : Fr g L s.heap m) (hz : vs.length ≤ 2 ^ 24) (h0 : 0 ≤ k) (hk : k < (vs.length : Int))
    (h : ∀ v, v ∈ vs → vs[k.toNat]? = some v → Q v s)
    (hs : subscripted slice false (.ref l) (.int k u) = operate [.ref l, .int k u] (getItem (.ref l) (.int k u)) := by with_unfolding_all rfl) :
    wpAny (model prog w) A (subscriptTail value slice (.ref l) (.int k u)) Q E s := by
  have hlt : k.toNat < vs.length := by omega
  have hx : vs[k.toNat]? = some vs[k.toNat] := List.getElem?_eq_getElem hlt
  exact tail_any (F.lst hl).typeIs slot_list_getitem.lookup (wpAny_getItem_list (F.lst hl) h0 (by omega) (by simpa using hx) (h _ (List.getElem_mem hlt) hx)) hs
end

section
theorem rows2 : True := by
  k_with_none
  k_with "ktr_enter" =>
    (refine enter_cells (by k_asm) (by k_asm) (by k_asm) (by k_asm) (by k_asm) (by exact rfl) (by exact rfl) (by assumption) (by k_is) (by k_is) (by ktr_room) (by exact BindsTo.of_eq rfl) (by exact rfl) (by decide +kernel) ?_ (by exact rfl) (by exact rfl) (by exact rfl); k_whole; intro g' L' h' tk' cells' FG' F' N' Y' B' X' T' l1 kG'; (try k_lt l1); k_cells Y'; (try dsimp only [List.cons_append, List.nil_append] at N'); (try dsimp only); (try k_fold))
  k_with "ktr_enter" =>
    (refine code_defG (by k_asm) (by k_asm) (by k_asm) (by k_asm) (by k_asm) (by exact rfl) (by exact rfl) (by assumption) (by k_is) (by k_is) (by ktr_room) (by exact BindsTo.of_eq rfl) (by exact locs rfl) ?_ (by exact rfl) (by exact rfl) (by exact rfl) (by decide); k_whole; intro g' L' h' FG' F' N' B' X' T' kG'; (try dsimp only); (try k_fold))
  k_with "k_ne" =>
    (refine neN ?_; (try dsimp only); with_reducible first | assumption | exact Ne.symm (by assumption) | exact Nat.ne_of_gt (by assumption) | exact Nat.ne_of_lt (by assumption) | exact Nat.ne_of_gt (Nat.lt_succ_of_lt (by assumption)) | exact Nat.ne_of_lt (Nat.lt_succ_of_lt (by assumption)))
  k_with "k_lt" =>
    (intro l1; replace l1 := allLt_of l1; (try dsimp only [AllLt] at l1); (repeat (with_reducible (have O8 := And.left l1; replace l1 := And.right l1))))
  k_with "my pick" =>
    (first | (refine Pick1.head ?_; k_extra "k_all") | exact Pick1.tail (by k_ne) (by k_extra "my pick"))
  k_with "my sub" =>
    (first | exact List.forall_mem_nil _ | (refine List.forall_mem_cons.mpr ⟨by k_mem, ?_⟩; k_extra "my sub"))
  k_with "k_room" =>
    ((try simp only [depth_under_make, depth_under_kw, depth_in1, depth_deeper, depth_caller]); (try dsimp only [ktrTop]); omega)
  k_with "my and" =>
    (first | assumption | exact And.intro (by k_ne) (by k_extra "my and") | k_ne)
  k_with "my conj" =>
    (intro l1; (repeat (with_reducible (have O8 := And.left l1; replace l1 := And.right l1))))
  k_with "my off" =>
    ((rename OffL _ _ => O9); (try dsimp only [OffL, Off1, keys, nodeLed, List.map] at O9); revert O9; k_extra "my conj2")
  k_with "CompRest" =>
    (with_unfolding_all first | (refine LCg.CompRest.succ ?_; intro v' I' oI' C' oC' D' m' h' tk' E' hv' hC' hx' F' N' off' ne'; (first | lcg_open hv' | (obtain ⟨t9', hv9'⟩ := hv'; subst hv9')); (try dsimp only [LCg.Off3] at off'); revert off'; k_extra "my conj2"; revert ne'; k_extra "my conj") | refine LCg.CompRest.zero ?_)
  k_with "FinE" =>
    ((unfold LCg.FinE); intro D' h' tk' F' N' o1'; (try dsimp only [LCg.Off1] at o1'); (try dsimp only [List.nil_append, List.cons_append] at N'); (try dsimp only); revert o1'; k_extra "my conj")
  k_with "FinA" =>
    ((unfold LCg.FinA); intro D' h' tk' F' N' o1'; (try dsimp only [LCg.Off1] at o1'); (try dsimp only [List.nil_append, List.cons_append] at N'); (try dsimp only); revert o1'; k_extra "my conj")
  k_with "k_all" =>
    (first | exact List.forall_mem_nil _ | exact Off1.all (by with_reducible assumption) | exact AllLt.ne (by with_reducible assumption) | exact List.forall_mem_cons.mpr ⟨by k_ne, by k_extra "k_all"⟩)
  k_with "my conj2" =>
    (intro l2; (repeat (with_reducible (have l1 := And.left l2; replace l2 := And.right l2; revert l1; k_extra "my conj"))))
  k_with "my same" =>
    (intro z9 hz9; first | rfl | (refine same_step hz9 (by k_mem) ?_; k_extra "my same2") | ((simp only [List.mem_cons, List.not_mem_nil, or_false, not_or] at hz9); first | rfl | (simp only [hz9, if_false, if_neg, over, not_false_eq_true]; done) | (simp [hz9, over]; done)))
  k_with "my same2" =>
    (first | rfl | (refine same_step (by assumption) (by k_mem) ?_; k_extra "my same2"))
  k_with "TurnPost" =>
    (dsimp only [TurnPost])
  k_with "my for" =>
    (k_here; (rename Fr _ _ _ _ => lF'); (with_unfolding_all refine For_turns lF' ?_ (hE := by first | passes_own | assumption); k_whole))
  k_with "execs cons" =>
    (refine wpAny_execs_cons ?_; (try k_fold))
  k_with "room" =>
    (first | exact room2 (by assumption) (by exact rfl) | exact room3 (by assumption) (by exact rfl) | exact room1 (by assumption) (by exact rfl) | exact room0 (by assumption) | exact room4 (by assumption) (by exact rfl))
  k_with "k_room" =>
    (k_extra "room")
  k_with "call ref" =>
    (k_here; (with_reducible show wpAny _ _ (call (Value.ref 463) [Value.ref _, Value.int _ _]) _ _ _); k_dflt (refine use_ct1p (by k_asm) (by k_asm) (by k_asm) (by k_asm) (by k_asm) (by first | exact rfl | assumption) (by k_extra "my pick") trivial (take_ct _ _ _ _ _ (by assumption) (by omega) (by omega)) (by ktr_room) (by ktr_units) ?_; intro r9 fp9 h9 tk9 F9 N9 O9 R9; obtain ⟨k9, t9, o9, e9, hk9, hk9', ho9, f9⟩ := R9; subst e9; subst f9; (try dsimp only [List.cons_append, List.nil_append] at N9); (try dsimp only); (try k_fold)))
  k_with "call builtin:len" =>
    (k_here; refine len_base (by assumption) (by assumption) (by omega) ?_)
  k_with "subscriptTail" =>
    (k_here; (with_reducible show wpAny _ _ (subscriptTail _ _ (Value.ref _) (Value.int _ _)) _ _ _); k_dflt (refine item_base (by assumption) (by assumption) (by omega) (by assumption) (by omega) ?_; intro v9 hm9 hx9))
  k_with "k_handed" =>
    (exact hv _ (by assumption))
  trivial
theorem one_ct (w : World) (a l : Addr) (o : Obj) (vs : List Value) (ho : IsSrc o) (hl : l ≠ a) (hv : ∀ v ∈ vs, handedIn v = true) (h1 : 1 ≤ vs.length) (h2 : vs.length ≤ 64) :
    Ct w 470 2 16 [.ref a, .ref l] [(a, o)] (fun h => h.IsList l vs.toArray)
      (fun r fp' => ∃ o', r ∈ vs ∧ IsSrc o' ∧ fp' = [(a, o')]) := by
  intro mean mg mb dp un gd cn cs ca ccd cl outer A₀ base h₀ L m s Q E B F X N T hk hls hdp hun hret
  refine wpAny_call ?_
  k_dflt ktr_enter
  rename GSub _ _ _ => kG
  have hlg : (_ : Heap).IsList l vs.toArray := (let ⟨ol, e, r⟩ := hls; ⟨ol, kG _ _ e (by simpa using hl), r⟩)
  k_steps
  exact back_close hret (by assumption) (by assumption) kG (by assumption) (by assumption) ⟨_, by assumption, by assumption, rfl⟩
end

theorem ct_mono {w : World} {f : Addr} {d u : Nat} {args : List Value} {fp : Led} {Pre : Heap → Prop} {R R' : Value → Led → Prop} (C : Ct w f d u args fp Pre R) (h : ∀ r fp', R r fp' → R' r fp') : Ct w f d u args fp Pre R' := by
  intro mean mg mb dp un gd cn cs ca ccd cl outer A₀ base h₀ L m s Q E B F X N T hk hp hd hu hret
  exact C mean mg mb dp un gd cn cs ca ccd cl outer A₀ base h₀ L m s Q E B F X N T hk hp hd hu fun r fp' h' tk' F' G N' fr hR => hret r fp' h' tk' F' G N' fr (h _ _ hR)
theorem strsAre_mem {vs : List Value} {xs : List Str} (h : StrsAre vs xs) : ∀ v ∈ vs, ∃ x t, v = .str x t ∧ x ∈ xs := by
  intro v hv
  obtain ⟨i, hi⟩ := List.mem_iff_getElem?.mp hv
  obtain ⟨y, t, rfl, hy⟩ := h.item i v hi
  exact ⟨y, t, rfl, List.mem_of_getElem? hy⟩
theorem intsAre_mem {vs : List Value} {ns : List Int} (h : IntsAre vs ns) : ∀ v ∈ vs, ∃ n t, v = .int n t ∧ n ∈ ns := by
  intro v hv
  obtain ⟨i, hi⟩ := List.mem_iff_getElem?.mp hv
  obtain ⟨n, t, rfl, hn⟩ := h.at i v hi
  exact ⟨n, t, rfl, List.mem_of_getElem? hn⟩
noncomputable def strsV : List Value → List Str
  | [] => []
  | .str x _ :: r => x :: strsV r
  | _ :: r => strsV r
noncomputable def intsV : List Value → List Int
  | [] => []
  | .int x _ :: r => x :: intsV r
  | _ :: r => intsV r
noncomputable def allStr : List Value → Bool
  | [] => true
  | .str _ _ :: r => allStr r
  | _ :: _ => false
noncomputable def allInt : List Value → Bool
  | [] => true
  | .int _ _ :: r => allInt r
  | _ :: _ => false
theorem strsV_are : ∀ {vs : List Value}, allStr vs = true → StrsAre vs (strsV vs)
  | [], _ => .nil
  | .str x t :: r, h => .cons x t (strsV_are (vs := r) h)
theorem intsV_are : ∀ {vs : List Value}, allInt vs = true → IntsAre vs (intsV vs)
  | [], _ => .nil
  | .int x t :: r, h => .cons x t (intsV_are (vs := r) h)
theorem one_str (w : World) (a l : Addr) (o : Obj) (vs : List Value) (ho : IsSrc o) (hl : l ≠ a) (hv : allStr vs = true) (h1 : 1 ≤ vs.length) (h2 : vs.length ≤ 64) :
    Ct w 470 2 16 [.ref a, .ref l] [(a, o)] (fun h => h.IsList l vs.toArray) (fun r fp' => ∃ x t o', r = .str x t ∧ x ∈ strsV vs ∧ IsSrc o' ∧ fp' = [(a, o')]) :=
  ct_mono (one_ct w a l o vs ho hl (fun v h => by obtain ⟨x, t, rfl, _⟩ := strsAre_mem (strsV_are hv) v h; rfl) h1 h2) fun r fp' ⟨o', hr, ho', e⟩ => by
    obtain ⟨x, t, rfl, hx⟩ := strsAre_mem (strsV_are hv) r hr
    exact ⟨x, t, o', rfl, hx, ho', e⟩
theorem one_int (w : World) (a l : Addr) (o : Obj) (vs : List Value) (ho : IsSrc o) (hl : l ≠ a) (hv : allInt vs = true) (h1 : 1 ≤ vs.length) (h2 : vs.length ≤ 64) :
    Ct w 470 2 16 [.ref a, .ref l] [(a, o)] (fun h => h.IsList l vs.toArray) (fun r fp' => ∃ n t o', r = .int n t ∧ n ∈ intsV vs ∧ IsSrc o' ∧ fp' = [(a, o')]) :=
  ct_mono (one_ct w a l o vs ho hl (fun v h => by obtain ⟨x, t, rfl, _⟩ := intsAre_mem (intsV_are hv) v h; rfl) h1 h2) fun r fp' ⟨o', hr, ho', e⟩ => by
    obtain ⟨x, t, rfl, hx⟩ := intsAre_mem (intsV_are hv) r hr
    exact ⟨x, t, o', rfl, hx, ho', e⟩

/-- the signs that part words -/
noncomputable def isSp (c : Nat) : Bool := c == 32 || c == 9 || c == 10 || c == 13
noncomputable def runsAux (cur : List Nat) : List Nat → List (List Nat)
  | [] => if cur.isEmpty then [] else [cur]
  | c :: r => if isSp c then (if cur.isEmpty then runsAux [] r else cur :: runsAux [] r) else runsAux (cur ++ [c]) r
/-- the words of a text -/
noncomputable def splitS (x : Str) : List Str := (runsAux [] x.cps.toList).map fun l => ⟨l.toArray⟩
noncomputable abbrev leads : List Str := [Str.ofString "", Str.ofString " "]
noncomputable abbrev seps : List Str := [Str.ofString " ", Str.ofString "  ", Str.ofString " \t"]
noncomputable abbrev trails : List Str := [Str.ofString "", Str.ofString "\n"]
noncomputable abbrev wordsX : List Str := [Str.ofString "x", Str.ofString "y", Str.ofString "z"]
theorem split0 : ∀ a ∈ leads, ∀ b ∈ seps, ∀ c ∈ trails, splitS (a ++ Txt.join b [] ++ c) = [] := by decide +kernel
theorem split1 : ∀ a ∈ leads, ∀ b ∈ seps, ∀ c ∈ trails, ∀ x ∈ wordsX, splitS (a ++ Txt.join b [x] ++ c) = [x] := by decide +kernel
theorem split2 : ∀ a ∈ leads, ∀ b ∈ seps, ∀ c ∈ trails, ∀ x ∈ wordsX, ∀ y ∈ wordsX, splitS (a ++ Txt.join b [x, y] ++ c) = [x, y] := by decide +kernel
theorem short_of {x : Str} {l : List Str} (h : x ∈ l) (h2 : (l.all fun x => decide (x.length ≤ 2)) = true) : x.length ≤ 2 := of_decide_eq_true (List.all_eq_true.mp h2 x h)
theorem join_short {sep : Str} {ys : List Str} (h1 : sep.length ≤ 2) (h2 : ∀ y ∈ ys, y.length ≤ 2) (h3 : ys.length ≤ 2) : (Txt.join sep ys).length ≤ 8 := by
  have e : Txt.join sep ys = Str.join sep ys := StrLaws.glued_eq_join ..
  rw [e]
  refine Nat.le_trans (StrLaws.join_length_le sep ys) ?_
  match ys, h2, h3 with
  | [], _, _ => simp
  | [a], h2, _ => have := h2 a (by simp); simp; omega
  | [a, b], h2, _ => have := h2 a (by simp); have := h2 b (by simp); simp; omega
theorem join_rule {prog : Program} {w : World} {A : Around} {E : Value → Shared → Prop} {s : Shared} {x : Str} {t : Tok} {D : Addr} {vs : List Value} {Q : Value → Shared → Prop} (hl : s.heap.IsList D vs.toArray) (hv : allStr vs = true) (hsep : x.length ≤ 2) (h2 : ∀ y ∈ strsV vs, y.length ≤ 2) (h3 : (strsV vs).length ≤ 2)
    (h : ∀ t' k, (Txt.join x (strsV vs)).length ≤ 8 → Q (.str (Txt.join x (strsV vs)) t') { s with toks := k }) : wpAny (model prog w) A (call (.builtin "str.join") [.str x t, .ref D]) Q E s := by
  refine join_listW hl (strsV_are hv) (by omega) ?_ fun t' k => h t' k (join_short hsep h2 h3)
  match strsV vs, h2, h3 with
  | [], _, _ => simp
  | [a], h2, _ => have := h2 a (by simp); simp; omega
  | [a, b], h2, _ => have := h2 a (by simp); have := h2 b (by simp); simp; omega
theorem three_ints {x : Int} (h : x ∈ [1, 1, 1, 0, 2]) : x = 0 ∨ x = 1 ∨ x = 2 := by
  simp only [List.mem_cons, List.not_mem_nil, or_false] at h
  omega
noncomputable abbrev tup2 (l : Addr) (x : Str) (tk : Tok) : Obj := { cls := .type "tuple", data := .seq #[.ref l, .str x tk] }
inductive ValueR (a : Addr) (r : Value) (fp' : Led) : Prop
  | mk (o' t l vs x tk : _) (p1 : r = .ref t) (p2 : IsSrc o') (p3 : fp' = [(t, tup2 l x tk), (l, LCg.lst vs), (a, o')]) (p4 : allStr vs = true) (p5 : vs.length ≤ 2) (p6 : splitS x = strsV vs) (p7 : (∀ y ∈ strsV vs, y ∈ wordsX)) (p8 : x.length ≤ 12) (p9 : t ≠ l) (p10 : t ≠ a) (p11 : l ≠ a) : ValueR a r fp'
theorem value_close {h₀ g : Heap} {L L' a t l : Addr} {m m' : Str → Option Value} {fp full : Led} {s : Shared} {h' : Heap} {tk' : Nat} {Q : Value → Shared → Prop} {x : Str} {tk : Tok} {vs : List Value} {o' : Obj}
    (hret : Back h₀ L m (keys fp) s (ValueR a) Q) (kF : Fr h₀ L h' m) (kN : News h₀ L h' full) (G : GSub s.heap g (keys fp)) (F' : Fr g L' h' m') (N' : News g L' h' full) (m1 : (t, tup2 l x tk) ∈ full) (m2 : (l, LCg.lst vs) ∈ full) (m3 : (a, o') ∈ full) (ho : IsSrc o')
    (hv : allStr vs = true) (hn : vs.length ≤ 2) (hx : splitS x = strsV vs) (hw : ∀ y ∈ strsV vs, y ∈ wordsX) (hz : x.length ≤ 12) (d1 : t ≠ l) (d2 : t ≠ a) (d3 : l ≠ a) : Q (.ref t) { s with heap := h', toks := tk' } :=
  back_close2 hret kF kN G F' N' [(t, tup2 l x tk), (l, LCg.lst vs), (a, o')] (fun p hp => by
    simp only [List.mem_cons, List.not_mem_nil, or_false] at hp
    rcases hp with rfl | rfl | rfl <;> assumption) ⟨o', t, l, vs, x, tk, rfl, ho, rfl, hv, hn, hx, hw, hz, d1, d2, d3⟩
theorem strsV_len {vs : List Value} (h : vs.length ≤ 2) : (strsV vs).length ≤ 2 := by
  have : ∀ l : List Value, (strsV l).length ≤ l.length := fun l => by
    induction l with
    | nil => exact Nat.le_refl _
    | cons a r ih => cases a <;> first | exact Nat.succ_le_succ ih | exact Nat.le_succ_of_le ih
  exact Nat.le_trans (this vs) h
theorem short_words {l : List Str} (h : ∀ y ∈ l, y ∈ wordsX) : ∀ y ∈ l, y.length ≤ 2 := fun y hy => short_of (h y hy) (by decide +kernel)
theorem split_words {ws : List Str} (hn : ws.length ≤ 2) (hw : ∀ y ∈ ws, y ∈ wordsX) {a b c : Str} (ha : a ∈ leads) (hb : b ∈ seps) (hc : c ∈ trails) : splitS (a ++ Txt.join b ws ++ c) = ws :=
  match ws, hn, hw with
  | [], _, _ => split0 a ha b hb c hc
  | [x], _, hw => split1 a ha b hb c hc x (hw x (.head _))
  | [x, y], _, hw => split2 a ha b hb c hc x (hw x (.head _)) y (hw y (.tail _ (.head _)))
  | _ :: _ :: _ :: _, hn, _ => absurd hn (by simp)
theorem app2 {a b : Str} {n m k : Nat} (h1 : a.length ≤ n) (h2 : b.length ≤ m) (h : n + m ≤ k) : (a ++ b).length ≤ k := by rw [Str.length_append]; omega
/-- the drawn words -/
inductive WordsJ (a c : Addr) (oc : Obj) : (Str → Option Value) → Led → Prop
  | mk (l : Addr) (o' : Obj) (vs : List Value) (ho : IsSrc o') (hv : allStr vs = true) (hn : vs.length ≤ 2) (hw : ∀ y ∈ strsV vs, y ∈ wordsX) (d1 : l ≠ c) (d2 : l ≠ a) (d3 : c ≠ a) :
    WordsJ a c oc (fun y => if y = Str.ofString "words" then some (.ref l) else none) [(l, LCg.lst vs), (c, oc), (a, o')]
theorem cut_words {M : Model} {A : Around} {E : Value → Shared → Prop} {s : Shared} {h₀ : Heap} {L a c : Addr} {m : Str → Option Value} {oc o : Obj} {t : Sem Flow} {Q : Flow → Shared → Prop} (_N : News h₀ L s.heap [(c, oc), (a, o)]) (F : Fr h₀ L s.heap m)
    (h1 : wpAny M A t (SEnd h₀ L (WordsJ a c oc) s) E s) (h2 : ∀ h' tk' m' nn, Fr h₀ L h' m' → News h₀ L h' nn → WordsJ a c oc m' nn → Q .next { s with heap := h', toks := tk' }) : wpAny M A t Q E s := cut_st (WordsJ a c oc) F h1 h2
section

theorem rows3 : True := by
  k_with_none
  k_with "ktr_enter" =>
    (refine enter_cells (by k_asm) (by k_asm) (by k_asm) (by k_asm) (by k_asm) (by exact rfl) (by exact rfl) (by assumption) (by k_is) (by k_is) (by ktr_room) (by exact BindsTo.of_eq rfl) (by exact rfl) (by decide +kernel) ?_ (by exact rfl) (by exact rfl) (by exact rfl); k_whole; intro g' L' h' tk' cells' FG' F' N' Y' B' X' T' l1 kG'; (try k_lt l1); k_cells Y'; (try dsimp only [List.cons_append, List.nil_append] at N'); (try dsimp only); (try k_fold))
  k_with "ktr_enter" =>
    (refine code_defG (by k_asm) (by k_asm) (by k_asm) (by k_asm) (by k_asm) (by exact rfl) (by exact rfl) (by assumption) (by k_is) (by k_is) (by ktr_room) (by exact BindsTo.of_eq rfl) (by exact locs rfl) ?_ (by exact rfl) (by exact rfl) (by exact rfl) (by decide); k_whole; intro g' L' h' FG' F' N' B' X' T' kG'; (try dsimp only); (try k_fold))
  k_with "k_ne" =>
    (refine neN ?_; (try dsimp only); with_reducible first | assumption | exact Ne.symm (by assumption) | exact Nat.ne_of_gt (by assumption) | exact Nat.ne_of_lt (by assumption) | exact Nat.ne_of_gt (Nat.lt_succ_of_lt (by assumption)) | exact Nat.ne_of_lt (Nat.lt_succ_of_lt (by assumption)))
  k_with "k_lt" =>
    (intro l1; replace l1 := allLt_of l1; (try dsimp only [AllLt] at l1); (repeat (with_reducible (have O8 := And.left l1; replace l1 := And.right l1))))
  k_with "my pick" =>
    (first | (refine Pick1.head ?_; k_extra "k_all") | exact Pick1.tail (by k_ne) (by k_extra "my pick"))
  k_with "my sub" =>
    (first | exact List.forall_mem_nil _ | (refine List.forall_mem_cons.mpr ⟨by k_mem, ?_⟩; k_extra "my sub"))
  k_with "k_room" =>
    ((try simp only [depth_under_make, depth_under_kw, depth_in1, depth_deeper, depth_caller]); (try dsimp only [ktrTop]); omega)
  k_with "my and" =>
    (first | assumption | exact And.intro (by k_ne) (by k_extra "my and") | k_ne)
  k_with "my conj" =>
    (intro l1; (repeat (with_reducible (have O8 := And.left l1; replace l1 := And.right l1))))
  k_with "my off" =>
    ((rename OffL _ _ => O9); (try dsimp only [OffL, Off1, keys, nodeLed, List.map] at O9); revert O9; k_extra "my conj2")
  k_with "CompRest" =>
    (with_unfolding_all first | (refine LCg.CompRest.succ ?_; intro v' I' oI' C' oC' D' m' h' tk' E' hv' hC' hx' F' N' off' ne'; (first | lcg_open hv' | (obtain ⟨t9', hv9'⟩ := hv'; subst hv9')); (try dsimp only [LCg.Off3] at off'); revert off'; k_extra "my conj2"; revert ne'; k_extra "my conj") | refine LCg.CompRest.zero ?_)
  k_with "FinE" =>
    ((unfold LCg.FinE); intro D' h' tk' F' N' o1'; (try dsimp only [LCg.Off1] at o1'); (try dsimp only [List.nil_append, List.cons_append] at N'); (try dsimp only); revert o1'; k_extra "my conj")
  k_with "FinA" =>
    ((unfold LCg.FinA); intro D' h' tk' F' N' o1'; (try dsimp only [LCg.Off1] at o1'); (try dsimp only [List.nil_append, List.cons_append] at N'); (try dsimp only); revert o1'; k_extra "my conj")
  k_with "k_all" =>
    (first | exact List.forall_mem_nil _ | exact Off1.all (by with_reducible assumption) | exact AllLt.ne (by with_reducible assumption) | exact List.forall_mem_cons.mpr ⟨by k_ne, by k_extra "k_all"⟩)
  k_with "my conj2" =>
    (intro l2; (repeat (with_reducible (have l1 := And.left l2; replace l2 := And.right l2; revert l1; k_extra "my conj"))))
  k_with "my same" =>
    (intro z9 hz9; first | rfl | (refine same_step hz9 (by k_mem) ?_; k_extra "my same2") | ((simp only [List.mem_cons, List.not_mem_nil, or_false, not_or] at hz9); first | rfl | (simp only [hz9, if_false, if_neg, over, not_false_eq_true]; done) | (simp [hz9, over]; done)))
  k_with "my same2" =>
    (first | rfl | (refine same_step (by assumption) (by k_mem) ?_; k_extra "my same2"))
  k_with "TurnPost" =>
    (dsimp only [TurnPost])
  k_with "my for" =>
    (k_here; (rename Fr _ _ _ _ => lF'); (with_unfolding_all refine For_turns lF' ?_ (hE := by first | passes_own | assumption); k_whole))
  k_with "execs cons" =>
    (refine wpAny_execs_cons ?_; (try k_fold))
  k_with "room" =>
    (first | exact room2 (by assumption) (by exact rfl) | exact room3 (by assumption) (by exact rfl) | exact room1 (by assumption) (by exact rfl) | exact room0 (by assumption) | exact room4 (by assumption) (by exact rfl))
  k_with "k_room" =>
    (k_extra "room")
  k_with "my one" =>
    ((case hl => k_ne); (case h1 => exact Nat.le_of_ble_eq_true rfl); (case h2 => exact Nat.le_of_ble_eq_true rfl); (case ho => assumption))
  k_with "my after" =>
    (intro r9 fp9 h9 tk9 F9 N9 O9 R9; obtain ⟨x9, t9, o9, e9, hx9, ho9, f9⟩ := R9; subst e9; subst f9; (try dsimp only [intsV, strsV] at hx9); (have hn9 := short_of hx9 (by decide +kernel)); (try dsimp only [List.cons_append, List.nil_append] at N9); (try dsimp only); (try k_fold))
  k_with "my after int" =>
    (intro r9 fp9 h9 tk9 F9 N9 O9 R9; obtain ⟨x9, t9, o9, e9, hx9, ho9, f9⟩ := R9; subst e9; subst f9; (try dsimp only [intsV, strsV] at hx9); (try dsimp only [List.cons_append, List.nil_append] at N9); rcases three_ints hx9 with e9 | e9 | e9 <;> subst e9 <;> clear hx9 <;> (try dsimp only) <;> (try k_fold))
  k_with "call builtin:str.join" =>
    (k_here; k_dflt (refine join_rule (News.isList (by k_asm) (by k_mem)) (by assumption) (by assumption) (short_words (by assumption)) (strsV_len (by assumption)) ?_); intro t9 k9 hj9; (try k_fold))
  k_with "binaryOp Add str str" =>
    (k_here; refine PyProof.Rows.add_str ?_ (by first | exact app2 (m := 8) (by assumption) (by assumption) (Nat.le_of_ble_eq_true rfl) | exact app2 (m := 2) (app2 (m := 8) (by assumption) (by assumption) (Nat.le_refl _)) (by assumption) (Nat.le_of_ble_eq_true rfl)); intro t9 k9; (try k_fold))
  k_with "CompSrc" =>
    (k_here; k_dflt (refine LCg.CompSrc.range (by rfl) (by k_asm) (by k_asm) (by assumption) (by first | decide | rfl) (by first | rfl | decide) (by first | size_fits | exact Nat.le_of_ble_eq_true rfl) ?_; intro g'; lcg_lit))
  k_with "CompEnd" =>
    (lcg_end)
  k_with "call ref" =>
    (k_here; (with_reducible show wpAny _ _ (call (Value.ref 470) [Value.ref _, Value.ref _]) _ _ _); k_dflt (first | (refine use_ct1p (by k_asm) (by k_asm) (by k_asm) (by k_asm) (by k_asm) (by first | exact rfl | assumption) (by k_extra "my pick") (by exact News.isList (by k_asm) (by k_mem)) (one_str _ _ _ _ _ (by assumption) (by k_ne) (by exact rfl) (by exact Nat.le_of_ble_eq_true rfl) (by exact Nat.le_of_ble_eq_true rfl)) (by ktr_room) (by ktr_units) ?_; k_extra "my after") | (refine use_ct1p (by k_asm) (by k_asm) (by k_asm) (by k_asm) (by k_asm) (by first | exact rfl | assumption) (by k_extra "my pick") (by exact News.isList (by k_asm) (by k_mem)) (one_int _ _ _ _ _ (by assumption) (by k_ne) (by exact rfl) (by exact Nat.le_of_ble_eq_true rfl) (by exact Nat.le_of_ble_eq_true rfl)) (by ktr_room) (by ktr_units) ?_; k_extra "my after int")))
  k_with "exec Assign cons ListComp" =>
    (k_here; (fail_if_success (have := (‹Going› : Going))); refine halt ?_)
  trivial
theorem value_ct (w : World) (a : Addr) (o : Obj) (ho : IsSrc o) : Ct w 482 3 32 [.ref a] [(a, o)] (fun _ => True) (ValueR a) := by
  intro mean mg mb dp un gd cn cs ca ccd cl outer A₀ base h₀ L m s Q E B F X N T hk _ hdp hun hret
  refine wpAny_call ?_
  k_dflt ktr_enter
  rename GSub _ _ _ => kG
  rename _ = Data.cell _ => c1
  rename Fr _ _ _ (bindL _ _ _) => F1
  rename News _ _ _ [_, _] => N1
  rename _ < _ => lt1
  replace c1 : _ = Data.cell (some (Value.ref a)) := c1
  have F2 : Fr _ _ _ (fun _ => none) := F1
  clear F1
  k_steps
  refine unhalt (cut_words N1 F2 ?_ ?_)
  · have going : Going := ⟨⟩
    show wpAny _ _ _ _ _ _
    k_steps
    all_goals (refine SEnd.intro (by assumption) (by assumption) (by k_extra "my sub") (WordsJ.mk _ _ _ (by assumption) rfl (Nat.le_of_ble_eq_true rfl) ?_ (by k_ne) (by k_ne) (by k_ne)))
    all_goals first
      | exact List.forall_mem_cons.mpr ⟨by assumption, List.forall_mem_nil _⟩
      | exact List.forall_mem_cons.mpr ⟨by assumption, List.forall_mem_cons.mpr ⟨by assumption, List.forall_mem_nil _⟩⟩
      | exact List.forall_mem_nil _
  · intro h1 tk1 m1 nn1 F3 N3 J1
    obtain ⟨l, o', vs, ho', hv, hn, hw, d1, d2, d3⟩ := J1
    clear N1 F2 lt1
    dsimp only
    k_steps
    exact value_close hret (by assumption) (by assumption) kG (by assumption) (by assumption) (by k_mem) (by k_mem) (by k_mem) (by assumption) hv hn (split_words (strsV_len hn) hw (by assumption) (by assumption) (by assumption)) hw (app2 (m := 2) (app2 (m := 8) (by assumption) (by assumption) (Nat.le_refl _)) (by assumption) (Nat.le_of_ble_eq_true rfl)) (by k_ne) (by k_ne) (by k_ne)
end

noncomputable abbrev ent (P : Params) (k : String) (t : Tok) (v : Value) : DictEntry := { hash := PyData.keyHash P (Str.ofString k), key := .str (Str.ofString k) t, val := v }
noncomputable abbrev rowsObj (P : Params) (k : Tok) (r : Addr) (n : Nat) : Obj := dictOf [ent P "rows" k (.ref r)] n
/-- a tree as it lies: its rows are items -/
inductive TreeRd (P : Params) (h : Heap) (t : Addr) (items : List Value) : Prop
  | mk (dt r k n1 n2 : _) (p1 : h.get? t = some (instObj 445 dt)) (p2 : h.get? dt = some (rowsObj P k r n1)) (p3 : h.get? r = some (listOf items.toArray n2)) : TreeRd P h t items
theorem TreeRd.keep {P : Params} {h h' : Heap} {t : Addr} {items : List Value} (x : TreeRd P h t items) (k : ∀ b o, h.get? b = some o → h'.get? b = some o) : TreeRd P h' t items :=
  let ⟨dt, r, kk, n1, n2, e1, e2, e3⟩ := x; ⟨dt, r, kk, n1, n2, k _ _ e1, k _ _ e2, k _ _ e3⟩
theorem TreeRd.of {P : Params} {g h : Heap} {L t dt r : Addr} {m : Str → Option Value} {items : List Value} {k : Tok} {n1 n2 : Nat} (F : Fr g L h m) (g1 : g.get? t = some (instObj 445 dt)) (g2 : g.get? dt = some (rowsObj P k r n1)) (g3 : g.get? r = some (listOf items.toArray n2)) : TreeRd P h t items :=
  ⟨dt, r, k, n1, n2, F.keep _ _ g1, F.keep _ _ g2, F.keep _ _ g3⟩
theorem use_ct0 {w : World} {f : Addr} {d u : Nat} {args : List Value} {news : Led} {Pre : Heap → Prop} {v : Value} (C : Ct w f d u args [] Pre (fun r fp' => r = v ∧ fp' = []))
    {mean : ExcName → Option Value} {mg mb : Str → Option Value} {dp un : Nat} {gd : Option (List Code)} {cn : Str} {cs : Scope} {a : Addr} {ccd : Value} {cl : List (Str × Addr)} {outer : List Env} {A₀ : Around} {base h₀ : Heap} {L : Addr} {m : Str → Option Value} {s : Shared} {Q E : Value → Shared → Prop}
    (B : Below A₀ base outer h₀) (F : Fr h₀ L s.heap m) (X : (hd.heap_1 w.params).In h₀) (N : News h₀ L s.heap news) (T : Top Vw (looseW Vw []) mean mg mb h₀) (hk : cs.kind = .function)
    (hpre : Pre s.heap) (hd : dp + d < recursionLimit) (hu : un + u < cLine) (k : ∀ h' tk', Fr h₀ L h' m → News h₀ L h' news → Q v { s with heap := h', toks := tk' }) :
    wpAny (model PR w) (ktrTop dp un gd cn cs L a ccd cl outer) (call (.ref f) args) Q E s :=
  use_ct C B F X N T hk (rest := news) (fun _ hp => nomatch hp) (fun p hp => ⟨hp, List.not_mem_nil⟩) hpre hd hu
    fun r fp' h' tk' F' N' _ _ _ hR => by
      obtain ⟨rfl, rfl⟩ := hR
      exact k h' tk' F' (by simpa using N')
theorem inst_base {g h : Heap} {L x C dx : Addr} {m : Str → Option Value} {od : Obj} {sl : Array (Option Value)} (F : Fr g L h m) (h1 : g.get? x = some ⟨.ref C, some dx, .plain, sl⟩) (h2 : g.get? dx = some od) :
    W.InstAt h x ⟨.ref C, some dx, .plain, sl⟩ C (some od) := ⟨F.keep _ _ h1, rfl, rfl, F.keep _ _ h2⟩
theorem isList_of {h : Heap} {l : Addr} {vs : List Value} {n : Nat} (e : h.get? l = some (listOf vs.toArray n)) : h.IsList l vs.toArray := ⟨_, e, rfl, n, rfl⟩
section
variable {prog : Program} {w : World} {A : Around} {E : Value → Shared → Prop} {s : Shared} {g : Heap} {l L : Addr} {m : Str → Option Value} {vs : List Value}
theorem item_at {value slice : Expr} {i : Nat} {u : Tok} {v : Value} {Q : Value → Shared → Prop} (hl : g.IsList l vs.toArray) (F : Fr g L s.heap m) (hz : vs.length ≤ 2 ^ 24) (hx : vs[i]? = some v) (h : Q v s)
    (hs : subscripted slice false (.ref l) (.int (i : Int) u) = operate [.ref l, .int (i : Int) u] (getItem (.ref l) (.int (i : Int) u)) := by with_unfolding_all rfl) :
    wpAny (model prog w) A (subscriptTail value slice (.ref l) (.int (i : Int) u)) Q E s := by
  have hlt : i < vs.length := (List.getElem?_eq_some_iff.mp hx).1
  exact tail_any (F.lst hl).typeIs slot_list_getitem.lookup (wpAny_getItem_list (F.lst hl) (by omega) (by omega) (by simpa using hx) h) hs
end
section
theorem rows4 : True := by
  k_with_none
  k_with "ktr_enter" =>
    (refine enter_cells (by k_asm) (by k_asm) (by k_asm) (by k_asm) (by k_asm) (by exact rfl) (by exact rfl) (by assumption) (by k_is) (by k_is) (by ktr_room) (by exact BindsTo.of_eq rfl) (by exact rfl) (by decide +kernel) ?_ (by exact rfl) (by exact rfl) (by exact rfl); k_whole; intro g' L' h' tk' cells' FG' F' N' Y' B' X' T' l1 kG'; (try k_lt l1); k_cells Y'; (try dsimp only [List.cons_append, List.nil_append] at N'); (try dsimp only); (try k_fold))
  k_with "ktr_enter" =>
    (refine code_defG (by k_asm) (by k_asm) (by k_asm) (by k_asm) (by k_asm) (by exact rfl) (by exact rfl) (by assumption) (by k_is) (by k_is) (by ktr_room) (by exact BindsTo.of_eq rfl) (by exact locs rfl) ?_ (by exact rfl) (by exact rfl) (by exact rfl) (by decide); k_whole; intro g' L' h' FG' F' N' B' X' T' kG'; (try dsimp only); (try k_fold))
  k_with "k_ne" =>
    (refine neN ?_; (try dsimp only); with_reducible first | assumption | exact Ne.symm (by assumption) | exact Nat.ne_of_gt (by assumption) | exact Nat.ne_of_lt (by assumption) | exact Nat.ne_of_gt (Nat.lt_succ_of_lt (by assumption)) | exact Nat.ne_of_lt (Nat.lt_succ_of_lt (by assumption)))
  k_with "k_lt" =>
    (intro l1; replace l1 := allLt_of l1; (try dsimp only [AllLt] at l1); (repeat (with_reducible (have O8 := And.left l1; replace l1 := And.right l1))))
  k_with "my pick" =>
    (first | (refine Pick1.head ?_; k_extra "k_all") | exact Pick1.tail (by k_ne) (by k_extra "my pick"))
  k_with "my sub" =>
    (first | exact List.forall_mem_nil _ | (refine List.forall_mem_cons.mpr ⟨by k_mem, ?_⟩; k_extra "my sub"))
  k_with "k_room" =>
    ((try simp only [depth_under_make, depth_under_kw, depth_in1, depth_deeper, depth_caller]); (try dsimp only [ktrTop]); omega)
  k_with "my and" =>
    (first | assumption | exact And.intro (by k_ne) (by k_extra "my and") | k_ne)
  k_with "my conj" =>
    (intro l1; (repeat (with_reducible (have O8 := And.left l1; replace l1 := And.right l1))))
  k_with "my off" =>
    ((rename OffL _ _ => O9); (try dsimp only [OffL, Off1, keys, nodeLed, List.map] at O9); revert O9; k_extra "my conj2")
  k_with "CompRest" =>
    (with_unfolding_all first | (refine LCg.CompRest.succ ?_; intro v' I' oI' C' oC' D' m' h' tk' E' hv' hC' hx' F' N' off' ne'; (first | lcg_open hv' | (obtain ⟨t9', hv9'⟩ := hv'; subst hv9')); (try dsimp only [LCg.Off3] at off'); revert off'; k_extra "my conj2"; revert ne'; k_extra "my conj") | refine LCg.CompRest.zero ?_)
  k_with "FinE" =>
    ((unfold LCg.FinE); intro D' h' tk' F' N' o1'; (try dsimp only [LCg.Off1] at o1'); (try dsimp only [List.nil_append, List.cons_append] at N'); (try dsimp only); revert o1'; k_extra "my conj")
  k_with "FinA" =>
    ((unfold LCg.FinA); intro D' h' tk' F' N' o1'; (try dsimp only [LCg.Off1] at o1'); (try dsimp only [List.nil_append, List.cons_append] at N'); (try dsimp only); revert o1'; k_extra "my conj")
  k_with "k_all" =>
    (first | exact List.forall_mem_nil _ | exact Off1.all (by with_reducible assumption) | exact AllLt.ne (by with_reducible assumption) | exact List.forall_mem_cons.mpr ⟨by k_ne, by k_extra "k_all"⟩)
  k_with "my conj2" =>
    (intro l2; (repeat (with_reducible (have l1 := And.left l2; replace l2 := And.right l2; revert l1; k_extra "my conj"))))
  k_with "my same" =>
    (intro z9 hz9; first | rfl | (refine same_step hz9 (by k_mem) ?_; k_extra "my same2") | ((simp only [List.mem_cons, List.not_mem_nil, or_false, not_or] at hz9); first | rfl | (simp only [hz9, if_false, if_neg, over, not_false_eq_true]; done) | (simp [hz9, over]; done)))
  k_with "my same2" =>
    (first | rfl | (refine same_step (by assumption) (by k_mem) ?_; k_extra "my same2"))
  k_with "TurnPost" =>
    (dsimp only [TurnPost])
  k_with "my for" =>
    (k_here; (rename Fr _ _ _ _ => lF'); (with_unfolding_all refine For_turns lF' ?_ (hE := by first | passes_own | assumption); k_whole))
  k_with "execs cons" =>
    (refine wpAny_execs_cons ?_; (try k_fold))
  k_with "room" =>
    (first | exact room2 (by assumption) (by exact rfl) | exact room3 (by assumption) (by exact rfl) | exact room1 (by assumption) (by exact rfl) | exact room0 (by assumption) | exact room4 (by assumption) (by exact rfl))
  k_with "k_room" =>
    (k_extra "room")
  k_with "k_inst" =>
    (exact inst_base (by k_asm) (by assumption) (by assumption))
  k_with "call builtin:len" =>
    (k_here; refine len_base (isList_of (by assumption)) (by assumption) (by omega) ?_)
  k_with "subscriptTail" =>
    (k_here; (with_reducible show wpAny _ _ (subscriptTail _ _ (Value.ref _) (Value.int _ _)) _ _ _); k_dflt (refine item_at (isList_of (by assumption)) (by assumption) (by omega) (by assumption) ?_))
  trivial
theorem row_ct (w : World) (t : Addr) (items : List Value) (i : Nat) (ti : Tok) (x : Addr) (hx : items[i]? = some (.ref x)) (hz : items.length ≤ 2 ^ 24) :
    Ct w 288 2 16 [.ref t, .int i ti] [] (fun h => TreeRd w.params h t items) (fun r fp' => r = .ref x ∧ fp' = []) := by
  intro mean mg mb dp un gd cn cs ca ccd cl outer A₀ base h₀ L m s Q E B F X N T hk hp hdp hun hret
  obtain ⟨dt, r, k, n1, n2, e1, e2, e3⟩ := hp
  have hlt : i < items.length := (List.getElem?_eq_some_iff.mp hx).1
  refine wpAny_call ?_
  k_dflt ktr_enter
  rename GSub _ _ _ => kG
  have g1 := kG _ _ e1 (List.not_mem_nil)
  have g2 := kG _ _ e2 (List.not_mem_nil)
  have g3 := kG _ _ e3 (List.not_mem_nil)
  k_steps
  exact back_close2 hret (by assumption) (by assumption) kG (by assumption) (by assumption) [] (List.forall_mem_nil _) ⟨rfl, rfl⟩
end
noncomputable abbrev nodeObj (P : Params) (k1 k2 k3 k4 k5 k6 k7 k8 k9 : Tok) (kind name uri loc value parent : Value) (cl al nl : Addr) (n : Nat) : Obj :=
  dictOf [ent P "kind" k1 kind, ent P "name" k2 name, ent P "uri" k3 uri, ent P "local" k4 loc, ent P "value" k5 value, ent P "parent" k6 parent, ent P "children" k7 (.ref cl), ent P "attributes" k8 (.ref al), ent P "namespaces" k9 (.ref nl)] n
/-- a node's object -/
inductive IsNode (P : Params) (o : Obj) (kind name uri loc value : Value) (cl al : Addr) : Prop
  | mk (k1 k2 k3 k4 k5 k6 k7 k8 k9 parent nl n : _) (p1 : o = nodeObj P k1 k2 k3 k4 k5 k6 k7 k8 k9 kind name uri loc value parent cl al nl n) : IsNode P o kind name uri loc value cl al
/-- a node as it lies -/
inductive NodeRd (P : Params) (h : Heap) (x : Addr) (kind name uri loc value : Value) (cl al : Addr) : Prop
  | mk (dx od : _) (p1 : h.get? x = some (instObj 256 dx)) (p2 : h.get? dx = some od) (p3 : IsNode P od kind name uri loc value cl al) : NodeRd P h x kind name uri loc value cl al
section
theorem rows5 : True := by
  k_with_none
  k_with "ktr_enter" =>
    (refine enter_cells (by k_asm) (by k_asm) (by k_asm) (by k_asm) (by k_asm) (by exact rfl) (by exact rfl) (by assumption) (by k_is) (by k_is) (by ktr_room) (by exact BindsTo.of_eq rfl) (by exact rfl) (by decide +kernel) ?_ (by exact rfl) (by exact rfl) (by exact rfl); k_whole; intro g' L' h' tk' cells' FG' F' N' Y' B' X' T' l1 kG'; (try k_lt l1); k_cells Y'; (try dsimp only [List.cons_append, List.nil_append] at N'); (try dsimp only); (try k_fold))
  k_with "ktr_enter" =>
    (refine code_defG (by k_asm) (by k_asm) (by k_asm) (by k_asm) (by k_asm) (by exact rfl) (by exact rfl) (by assumption) (by k_is) (by k_is) (by ktr_room) (by exact BindsTo.of_eq rfl) (by exact locs rfl) ?_ (by exact rfl) (by exact rfl) (by exact rfl) (by decide); k_whole; intro g' L' h' FG' F' N' B' X' T' kG'; (try dsimp only); (try k_fold))
  k_with "k_ne" =>
    (refine neN ?_; (try dsimp only); with_reducible first | assumption | exact Ne.symm (by assumption) | exact Nat.ne_of_gt (by assumption) | exact Nat.ne_of_lt (by assumption) | exact Nat.ne_of_gt (Nat.lt_succ_of_lt (by assumption)) | exact Nat.ne_of_lt (Nat.lt_succ_of_lt (by assumption)))
  k_with "k_lt" =>
    (intro l1; replace l1 := allLt_of l1; (try dsimp only [AllLt] at l1); (repeat (with_reducible (have O8 := And.left l1; replace l1 := And.right l1))))
  k_with "my pick" =>
    (first | (refine Pick1.head ?_; k_extra "k_all") | exact Pick1.tail (by k_ne) (by k_extra "my pick"))
  k_with "my sub" =>
    (first | exact List.forall_mem_nil _ | (refine List.forall_mem_cons.mpr ⟨by k_mem, ?_⟩; k_extra "my sub"))
  k_with "k_room" =>
    ((try simp only [depth_under_make, depth_under_kw, depth_in1, depth_deeper, depth_caller]); (try dsimp only [ktrTop]); omega)
  k_with "my and" =>
    (first | assumption | exact And.intro (by k_ne) (by k_extra "my and") | k_ne)
  k_with "my conj" =>
    (intro l1; (repeat (with_reducible (have O8 := And.left l1; replace l1 := And.right l1))))
  k_with "my off" =>
    ((rename OffL _ _ => O9); (try dsimp only [OffL, Off1, keys, nodeLed, List.map] at O9); revert O9; k_extra "my conj2")
  k_with "CompRest" =>
    (with_unfolding_all first | (refine LCg.CompRest.succ ?_; intro v' I' oI' C' oC' D' m' h' tk' E' hv' hC' hx' F' N' off' ne'; (first | lcg_open hv' | (obtain ⟨t9', hv9'⟩ := hv'; subst hv9')); (try dsimp only [LCg.Off3] at off'); revert off'; k_extra "my conj2"; revert ne'; k_extra "my conj") | refine LCg.CompRest.zero ?_)
  k_with "FinE" =>
    ((unfold LCg.FinE); intro D' h' tk' F' N' o1'; (try dsimp only [LCg.Off1] at o1'); (try dsimp only [List.nil_append, List.cons_append] at N'); (try dsimp only); revert o1'; k_extra "my conj")
  k_with "FinA" =>
    ((unfold LCg.FinA); intro D' h' tk' F' N' o1'; (try dsimp only [LCg.Off1] at o1'); (try dsimp only [List.nil_append, List.cons_append] at N'); (try dsimp only); revert o1'; k_extra "my conj")
  k_with "k_all" =>
    (first | exact List.forall_mem_nil _ | exact Off1.all (by with_reducible assumption) | exact AllLt.ne (by with_reducible assumption) | exact List.forall_mem_cons.mpr ⟨by k_ne, by k_extra "k_all"⟩)
  k_with "my conj2" =>
    (intro l2; (repeat (with_reducible (have l1 := And.left l2; replace l2 := And.right l2; revert l1; k_extra "my conj"))))
  k_with "my same" =>
    (intro z9 hz9; first | rfl | (refine same_step hz9 (by k_mem) ?_; k_extra "my same2") | ((simp only [List.mem_cons, List.not_mem_nil, or_false, not_or] at hz9); first | rfl | (simp only [hz9, if_false, if_neg, over, not_false_eq_true]; done) | (simp [hz9, over]; done)))
  k_with "my same2" =>
    (first | rfl | (refine same_step (by assumption) (by k_mem) ?_; k_extra "my same2"))
  k_with "TurnPost" =>
    (dsimp only [TurnPost])
  k_with "my for" =>
    (k_here; (rename Fr _ _ _ _ => lF'); (with_unfolding_all refine For_turns lF' ?_ (hE := by first | passes_own | assumption); k_whole))
  k_with "execs cons" =>
    (refine wpAny_execs_cons ?_; (try k_fold))
  k_with "room" =>
    (first | exact room2 (by assumption) (by exact rfl) | exact room3 (by assumption) (by exact rfl) | exact room1 (by assumption) (by exact rfl) | exact room0 (by assumption) | exact room4 (by assumption) (by exact rfl))
  k_with "k_room" =>
    (k_extra "room")
  k_with "k_inst" =>
    (exact inst_base (by k_asm) (by assumption) (by assumption))
  k_with "call ref" =>
    (k_here; (with_reducible show wpAny _ _ (call (Value.ref 288) [Value.ref _, Value.int _ _]) _ _ _); k_dflt (refine use_ct0 (row_ct _ _ _ _ _ _ (by assumption) (by assumption)) (by k_asm) (by k_asm) (by k_asm) (by k_asm) (by k_asm) (by first | exact rfl | assumption) (by exact TreeRd.of (by k_asm) (by assumption) (by assumption) (by assumption)) (by ktr_room) (by ktr_units) ?_; intro h9 tk9 F9 N9; (try dsimp only); (try k_fold)))
  k_with "k_handed" =>
    (assumption)
  trivial
theorem kind_m (w : World) (t : Addr) (items : List Value) (i : Nat) (ti : Tok) (x cl al : Addr) (kind name uri loc value : Value) (hx : items[i]? = some (.ref x)) (hz : items.length ≤ 2 ^ 24) (hh : handedIn kind = true) :
    Ct w 365 3 24 [.ref t, .int i ti] [] (fun h => TreeRd w.params h t items ∧ NodeRd w.params h x kind name uri loc value cl al) (fun r fp' => r = kind ∧ fp' = []) := by
  intro mean mg mb dp un gd cn cs ca ccd cl' outer A₀ base h₀ L m s Q E B F X N T hk hp hdp hun hret
  obtain ⟨⟨dt, r, k, n1, n2, e1, e2, e3⟩, dx, od, e4, e5, k1, k2, k3, k4, k5, k6, k7, k8, k9, parent, nl, n, rfl⟩ := hp
  refine wpAny_call ?_
  k_dflt ktr_enter
  rename GSub _ _ _ => kG
  have g1 := kG _ _ e1 List.not_mem_nil
  have g2 := kG _ _ e2 List.not_mem_nil
  have g3 := kG _ _ e3 List.not_mem_nil
  have g4 := kG _ _ e4 List.not_mem_nil
  have g5 := kG _ _ e5 List.not_mem_nil
  k_steps
  exact back_close2 hret (by assumption) (by assumption) kG (by assumption) (by assumption) [] (List.forall_mem_nil _) ⟨rfl, rfl⟩
theorem name_m (w : World) (t : Addr) (items : List Value) (i : Nat) (ti : Tok) (x cl al : Addr) (kind name uri loc value : Value) (hx : items[i]? = some (.ref x)) (hz : items.length ≤ 2 ^ 24) (hh : handedIn name = true) :
    Ct w 372 3 24 [.ref t, .int i ti] [] (fun h => TreeRd w.params h t items ∧ NodeRd w.params h x kind name uri loc value cl al) (fun r fp' => r = name ∧ fp' = []) := by
  intro mean mg mb dp un gd cn cs ca ccd cl' outer A₀ base h₀ L m s Q E B F X N T hk hp hdp hun hret
  obtain ⟨⟨dt, r, k, n1, n2, e1, e2, e3⟩, dx, od, e4, e5, k1, k2, k3, k4, k5, k6, k7, k8, k9, parent, nl, n, rfl⟩ := hp
  refine wpAny_call ?_
  k_dflt ktr_enter
  rename GSub _ _ _ => kG
  have g1 := kG _ _ e1 List.not_mem_nil
  have g2 := kG _ _ e2 List.not_mem_nil
  have g3 := kG _ _ e3 List.not_mem_nil
  have g4 := kG _ _ e4 List.not_mem_nil
  have g5 := kG _ _ e5 List.not_mem_nil
  k_steps
  exact back_close2 hret (by assumption) (by assumption) kG (by assumption) (by assumption) [] (List.forall_mem_nil _) ⟨rfl, rfl⟩
theorem value_m (w : World) (t : Addr) (items : List Value) (i : Nat) (ti : Tok) (x cl al : Addr) (kind name uri loc value : Value) (hx : items[i]? = some (.ref x)) (hz : items.length ≤ 2 ^ 24) (hh : handedIn value = true) :
    Ct w 393 3 24 [.ref t, .int i ti] [] (fun h => TreeRd w.params h t items ∧ NodeRd w.params h x kind name uri loc value cl al) (fun r fp' => r = value ∧ fp' = []) := by
  intro mean mg mb dp un gd cn cs ca ccd cl' outer A₀ base h₀ L m s Q E B F X N T hk hp hdp hun hret
  obtain ⟨⟨dt, r, k, n1, n2, e1, e2, e3⟩, dx, od, e4, e5, k1, k2, k3, k4, k5, k6, k7, k8, k9, parent, nl, n, rfl⟩ := hp
  refine wpAny_call ?_
  k_dflt ktr_enter
  rename GSub _ _ _ => kG
  have g1 := kG _ _ e1 List.not_mem_nil
  have g2 := kG _ _ e2 List.not_mem_nil
  have g3 := kG _ _ e3 List.not_mem_nil
  have g4 := kG _ _ e4 List.not_mem_nil
  have g5 := kG _ _ e5 List.not_mem_nil
  k_steps
  exact back_close2 hret (by assumption) (by assumption) kG (by assumption) (by assumption) [] (List.forall_mem_nil _) ⟨rfl, rfl⟩
theorem children_m (w : World) (t : Addr) (items : List Value) (i : Nat) (ti : Tok) (x cl al : Addr) (kind name uri loc value : Value) (vs : List Value) (hx : items[i]? = some (.ref x)) (hz : items.length ≤ 2 ^ 24) (hv : vs.length ≤ 2 ^ 20) :
    Ct w 407 3 24 [.ref t, .int i ti] [] (fun h => TreeRd w.params h t items ∧ NodeRd w.params h x kind name uri loc value cl al ∧ ∃ nn, h.get? cl = some (listOf vs.toArray nn)) (fun r fp' => ∃ D n, r = .ref D ∧ fp' = [(D, listOf vs.toArray n)]) := by
  intro mean mg mb dp un gd cn cs ca ccd cl' outer A₀ base h₀ L m s Q E B F X N T hk hp hdp hun hret
  obtain ⟨⟨dt, r, k, n1, n2, e1, e2, e3⟩, ⟨dx, od, e4, e5, k1, k2, k3, k4, k5, k6, k7, k8, k9, parent, nl, n, rfl⟩, nn, e6⟩ := hp
  refine wpAny_call ?_
  k_dflt ktr_enter
  rename GSub _ _ _ => kG
  have g1 := kG _ _ e1 List.not_mem_nil
  have g2 := kG _ _ e2 List.not_mem_nil
  have g3 := kG _ _ e3 List.not_mem_nil
  have g4 := kG _ _ e4 List.not_mem_nil
  have g5 := kG _ _ e5 List.not_mem_nil
  have g6 := kG _ _ e6 List.not_mem_nil
  have g7 := isList_of g6
  k_steps
  exact back_close2 hret (by assumption) (by assumption) kG (by assumption) (by assumption) [(_, _)] (by k_extra "my sub") ⟨_, _, rfl, rfl⟩
theorem attributes_m (w : World) (t : Addr) (items : List Value) (i : Nat) (ti : Tok) (x cl al : Addr) (kind name uri loc value : Value) (vs : List Value) (hx : items[i]? = some (.ref x)) (hz : items.length ≤ 2 ^ 24) (hv : vs.length ≤ 2 ^ 20) :
    Ct w 414 3 24 [.ref t, .int i ti] [] (fun h => TreeRd w.params h t items ∧ NodeRd w.params h x kind name uri loc value cl al ∧ ∃ nn, h.get? al = some (listOf vs.toArray nn)) (fun r fp' => ∃ D n, r = .ref D ∧ fp' = [(D, listOf vs.toArray n)]) := by
  intro mean mg mb dp un gd cn cs ca ccd cl' outer A₀ base h₀ L m s Q E B F X N T hk hp hdp hun hret
  obtain ⟨⟨dt, r, k, n1, n2, e1, e2, e3⟩, ⟨dx, od, e4, e5, k1, k2, k3, k4, k5, k6, k7, k8, k9, parent, nl, n, rfl⟩, nn, e6⟩ := hp
  refine wpAny_call ?_
  k_dflt ktr_enter
  rename GSub _ _ _ => kG
  have g1 := kG _ _ e1 List.not_mem_nil
  have g2 := kG _ _ e2 List.not_mem_nil
  have g3 := kG _ _ e3 List.not_mem_nil
  have g4 := kG _ _ e4 List.not_mem_nil
  have g5 := kG _ _ e5 List.not_mem_nil
  have g6 := kG _ _ e6 List.not_mem_nil
  have g7 := isList_of g6
  k_steps
  exact back_close2 hret (by assumption) (by assumption) kG (by assumption) (by assumption) [(_, _)] (by k_extra "my sub") ⟨_, _, rfl, rfl⟩
end

section
variable {prog : Program} {w : World} {A : Around} {E : Value → Shared → Prop} {s : Shared} {l : Addr} {vs : List Value}
theorem item_now {value slice : Expr} {i : Nat} {u : Tok} {v : Value} {Q : Value → Shared → Prop} (hl : s.heap.IsList l vs.toArray) (hz : vs.length ≤ 2 ^ 24) (hx : vs[i]? = some v) (h : Q v s)
    (hs : subscripted slice false (.ref l) (.int (i : Int) u) = operate [.ref l, .int (i : Int) u] (getItem (.ref l) (.int (i : Int) u)) := by with_unfolding_all rfl) :
    wpAny (model prog w) A (subscriptTail value slice (.ref l) (.int (i : Int) u)) Q E s := by
  have hlt : i < vs.length := (List.getElem?_eq_some_iff.mp hx).1
  exact tail_any hl.typeIs slot_list_getitem.lookup (wpAny_getItem_list hl (by omega) (by omega) (by simpa using hx) h) hs
theorem len_now {Q : Value → Shared → Prop} (hl : s.heap.IsList l vs.toArray) (hz : vs.length ≤ 2 ^ 24) (h : Q (.int (vs.length : Int) (s.toks + 1)) { s with toks := s.toks + 1 + 1 }) :
    wpAny (model prog w) A (call (.builtin "len") [.ref l]) Q E s := by
  have e : vs.toArray.size = vs.length := List.size_toArray ..
  exact call_len_list hl (by rw [e]; omega) (by rw [e]; exact h)
end
theorem item_more {items : List Value} {p : Nat} {v y : Value} (h : items[p]? = some v) : (items ++ [y])[p]? = some v := by
  rw [List.getElem?_append_left (List.getElem?_eq_some_iff.mp h).1]; exact h
/-- what a new node brings -/
structure NewNode (P : Params) (base : List Addr) (x dx cl al : Addr) (od : Obj) (kind name uri loc value : Value) : Prop where
  node : IsNode P od kind name uri loc value cl al
  nodup : [x, dx, cl, al].Nodup
  off : ∀ a ∈ base, a ≠ x ∧ a ≠ dx ∧ a ≠ cl ∧ a ≠ al
inductive NewRowR (P : Params) (r : Addr) (items : List Value) (n2 : Nat) (kind name uri loc value : Value) (v : Value) (fp' : Led) : Prop
  | mk (x dx cl al od tk : _) (p1 : v = .int (items.length : Int) tk) (p2 : fp' = (r, listOf (items ++ [Value.ref x]).toArray (n2 + 1)) :: nodeLed x dx cl al od [] [] 0 0) (p3 : NewNode P [r] x dx cl al od kind name uri loc value) : NewRowR P r items n2 kind name uri loc value v fp'
theorem new_row_close {P : Params} {h₀ g : Heap} {L L' r x dx cl al nl : Addr} {m m' : Str → Option Value} {fp full : Led} {s : Shared} {h' : Heap} {tk' n2 : Nat} {Q : Value → Shared → Prop} {items : List Value} {kind name uri loc value parent : Value} {z : Int} {tz k1 k2 k3 k4 k5 k6 k7 k8 k9 : Tok} {n : Nat}
    (hret : Back h₀ L m (keys fp) s (NewRowR P r items n2 kind name uri loc value) Q) (kF : Fr h₀ L h' m) (kN : News h₀ L h' full) (G : GSub s.heap g (keys fp)) (F' : Fr g L' h' m') (N' : News g L' h' full)
    (m1 : (r, listOf (items ++ [Value.ref x]).toArray (n2 + 1)) ∈ full) (m2 : (x, instObj 256 dx) ∈ full) (m3 : (dx, nodeObj P k1 k2 k3 k4 k5 k6 k7 k8 k9 kind name uri loc value parent cl al nl n) ∈ full) (m4 : (cl, listOf #[] 0) ∈ full) (m5 : (al, listOf #[] 0) ∈ full)
    (hz : z = (items.length : Int)) (hd : [x, dx, cl, al].Nodup) (ho : @Ne Nat r x ∧ @Ne Nat r dx ∧ @Ne Nat r cl ∧ @Ne Nat r al) : Q (.int z tz) { s with heap := h', toks := tk' } := by
  subst hz
  refine back_close2 hret kF kN G F' N' _ ?_ ⟨x, dx, cl, al, _, tz, rfl, rfl, ⟨⟨k1, k2, k3, k4, k5, k6, k7, k8, k9, parent, nl, n, rfl⟩, hd, fun a ha => by rw [List.mem_singleton.mp ha]; exact ho⟩⟩
  intro p hp
  simp only [List.mem_cons, List.not_mem_nil, or_false] at hp
  rcases hp with rfl | rfl | rfl | rfl | rfl <;> assumption
theorem nodup4 {a b c d : Nat} (h : a ≠ b ∧ a ≠ c ∧ a ≠ d ∧ b ≠ c ∧ b ≠ d ∧ c ≠ d) : [a, b, c, d].Nodup := by
  simp only [List.nodup_cons, List.mem_cons, List.not_mem_nil, or_false, not_or, not_false_eq_true, List.nodup_nil, and_true]
  omega
section
theorem rows6 : True := by
  k_with_none
  k_with "ktr_enter" =>
    (refine enter_cells (by k_asm) (by k_asm) (by k_asm) (by k_asm) (by k_asm) (by exact rfl) (by exact rfl) (by assumption) (by k_is) (by k_is) (by ktr_room) (by exact BindsTo.of_eq rfl) (by exact rfl) (by decide +kernel) ?_ (by exact rfl) (by exact rfl) (by exact rfl); k_whole; intro g' L' h' tk' cells' FG' F' N' Y' B' X' T' l1 kG'; (try k_lt l1); k_cells Y'; (try dsimp only [List.cons_append, List.nil_append] at N'); (try dsimp only); (try k_fold))
  k_with "ktr_enter" =>
    (refine code_defG (by k_asm) (by k_asm) (by k_asm) (by k_asm) (by k_asm) (by exact rfl) (by exact rfl) (by assumption) (by k_is) (by k_is) (by ktr_room) (by exact BindsTo.of_eq rfl) (by exact locs rfl) ?_ (by exact rfl) (by exact rfl) (by exact rfl) (by decide); k_whole; intro g' L' h' FG' F' N' B' X' T' kG'; (try dsimp only); (try k_fold))
  k_with "k_ne" =>
    (refine neN ?_; (try dsimp only); with_reducible first | assumption | exact Ne.symm (by assumption) | exact Nat.ne_of_gt (by assumption) | exact Nat.ne_of_lt (by assumption) | exact Nat.ne_of_gt (Nat.lt_succ_of_lt (by assumption)) | exact Nat.ne_of_lt (Nat.lt_succ_of_lt (by assumption)))
  k_with "k_lt" =>
    (intro l1; replace l1 := allLt_of l1; (try dsimp only [AllLt] at l1); (repeat (with_reducible (have O8 := And.left l1; replace l1 := And.right l1))))
  k_with "my pick" =>
    (first | (refine Pick1.head ?_; k_extra "k_all") | exact Pick1.tail (by k_ne) (by k_extra "my pick"))
  k_with "my sub" =>
    (first | exact List.forall_mem_nil _ | (refine List.forall_mem_cons.mpr ⟨by k_mem, ?_⟩; k_extra "my sub"))
  k_with "k_room" =>
    ((try simp only [depth_under_make, depth_under_kw, depth_in1, depth_deeper, depth_caller]); (try dsimp only [ktrTop]); omega)
  k_with "my and" =>
    (first | assumption | exact And.intro (by k_ne) (by k_extra "my and") | k_ne)
  k_with "my conj" =>
    (intro l1; (repeat (with_reducible (have O8 := And.left l1; replace l1 := And.right l1))))
  k_with "my off" =>
    ((rename OffL _ _ => O9); (try dsimp only [OffL, Off1, keys, nodeLed, List.map] at O9); revert O9; k_extra "my conj2")
  k_with "CompRest" =>
    (with_unfolding_all first | (refine LCg.CompRest.succ ?_; intro v' I' oI' C' oC' D' m' h' tk' E' hv' hC' hx' F' N' off' ne'; (first | lcg_open hv' | (obtain ⟨t9', hv9'⟩ := hv'; subst hv9')); (try dsimp only [LCg.Off3] at off'); revert off'; k_extra "my conj2"; revert ne'; k_extra "my conj") | refine LCg.CompRest.zero ?_)
  k_with "FinE" =>
    ((unfold LCg.FinE); intro D' h' tk' F' N' o1'; (try dsimp only [LCg.Off1] at o1'); (try dsimp only [List.nil_append, List.cons_append] at N'); (try dsimp only); revert o1'; k_extra "my conj")
  k_with "FinA" =>
    ((unfold LCg.FinA); intro D' h' tk' F' N' o1'; (try dsimp only [LCg.Off1] at o1'); (try dsimp only [List.nil_append, List.cons_append] at N'); (try dsimp only); revert o1'; k_extra "my conj")
  k_with "k_all" =>
    (first | exact List.forall_mem_nil _ | exact Off1.all (by with_reducible assumption) | exact AllLt.ne (by with_reducible assumption) | exact List.forall_mem_cons.mpr ⟨by k_ne, by k_extra "k_all"⟩)
  k_with "my conj2" =>
    (intro l2; (repeat (with_reducible (have l1 := And.left l2; replace l2 := And.right l2; revert l1; k_extra "my conj"))))
  k_with "my same" =>
    (intro z9 hz9; first | rfl | (refine same_step hz9 (by k_mem) ?_; k_extra "my same2") | ((simp only [List.mem_cons, List.not_mem_nil, or_false, not_or] at hz9); first | rfl | (simp only [hz9, if_false, if_neg, over, not_false_eq_true]; done) | (simp [hz9, over]; done)))
  k_with "my same2" =>
    (first | rfl | (refine same_step (by assumption) (by k_mem) ?_; k_extra "my same2"))
  k_with "TurnPost" =>
    (dsimp only [TurnPost])
  k_with "my for" =>
    (k_here; (rename Fr _ _ _ _ => lF'); (with_unfolding_all refine For_turns lF' ?_ (hE := by first | passes_own | assumption); k_whole))
  k_with "execs cons" =>
    (refine wpAny_execs_cons ?_; (try k_fold))
  k_with "room" =>
    (first | exact room2 (by assumption) (by exact rfl) | exact room3 (by assumption) (by exact rfl) | exact room1 (by assumption) (by exact rfl) | exact room0 (by assumption) | exact room4 (by assumption) (by exact rfl))
  k_with "k_room" =>
    (k_extra "room")
  k_with "k_inst" =>
    (exact inst_base (by k_asm) (by assumption) (by assumption))
  k_with "no such key" =>
    (skip)
  k_with "call builtin:len" =>
    (k_here; refine len_now (News.isList (by k_asm) (by k_mem)) (by first | assumption | (simp only [List.length_append, List.length_cons, List.length_nil]; omega)) ?_)
  trivial
theorem new_row_m (w : World) (t dt r : Addr) (items : List Value) (k : Tok) (n1 n2 : Nat) (kind name uri loc value parent : Value)
    (hz : items.length < 2 ^ 20) (d1 : t ≠ r) (d3 : dt ≠ r) (h1 : handedIn kind = true) (h2 : handedIn name = true) (h3 : handedIn uri = true) (h4 : handedIn loc = true) (h5 : handedIn value = true) (h6 : handedIn parent = true) :
    Ct w 281 3 32 [.ref t, kind, name, uri, loc, value, parent] [(r, listOf items.toArray n2)]
      (fun h => h.get? t = some (instObj 445 dt) ∧ h.get? dt = some (rowsObj w.params k r n1))
      (NewRowR w.params r items n2 kind name uri loc value) := by
  intro mean mg mb dp un gd cn cs ca ccd cl' outer A₀ base h₀ L m s Q E B F X N T hk hp hdp hun hret
  obtain ⟨e1, e2⟩ := hp
  refine wpAny_call ?_
  k_dflt ktr_enter
  rename GSub _ _ _ => kG
  have g1 := kG _ _ e1 (by simp [d1])
  have g2 := kG _ _ e2 (by simp [d3])
  k_steps
  refine new_row_close hret (by assumption) (by assumption) kG (by assumption) (by assumption) (by k_mem) (by k_mem) (by k_mem) (by k_mem) (by k_mem) (by simp only [List.length_append, List.length_cons, List.length_nil]; omega) (nodup4 ?_) ?_
  · omega
  · omega
end

noncomputable abbrev kRoot : Str := Str.ofString "root"
noncomputable abbrev kElem : Str := Str.ofString "element"
noncomputable abbrev IsParent (k : Value) : Prop := ∃ z t, k = .str z t ∧ z ∈ [kRoot, kElem]
section
variable {prog : Program} {w : World} {A : Around} {E : Value → Shared → Prop} {s : Shared} {h₀ : Heap} {K : Frag} {L a : Addr} {m : Str → Option Value} {x : Str} {t : Tok} {l : List Value}
theorem tup_any (hv : allStr l = true) : l.any (fun y => match y with | .str z _ => z == x | _ => false) = decide (x ∈ strsV l) := by
  induction l with
  | nil => rfl
  | cons v r ih =>
    cases v with
    | str z tz =>
      rw [List.any_cons, ih hv]
      by_cases h : z = x
      · subst h; simp [strsV]
      · have h' : ¬ x = z := fun e => h e.symm
        simp [strsV, h, h']
    | _ => cases hv
theorem tup_eqs {B : Around} (hv : allStr l = true) : ∀ y, y ∈ l.toArray → EqAt B s y (.str x t) (match y with | .str z _ => z == x | _ => false) := by
  intro y hy
  obtain ⟨z, tz, rfl, _⟩ := strsAre_mem (strsV_are hv) y (by simpa using hy)
  exact EqAt.str_str z tz x t
/-- a text sought in a tuple of texts of the top -/
theorem notin_top {dd : Option Addr} {n : Nat} {sl : Array (Option Value)} {Q : Value → Shared → Prop} (F : Fr h₀ L s.heap m) (X : K.In h₀) (hl : K.lookup a = some ⟨.type "tuple", dd, .seq l.toArray n, sl⟩) (hv : allStr l = true) (hb : x ∈ strsV l)
    (h : Q (.bool false) s) : wpAny (model prog w) A (compareOp .NotIn (.str x t) (.ref a)) Q E s := by
  refine notIn_tupleAt _ (tupK (X.keeps F.keep) hl) (tup_eqs hv) ?_
  have e : l.toArray.any (fun y => match y with | .str z _ => z == x | _ => false) = true := by
    rw [List.any_toArray, tup_any hv, decide_eq_true hb]
  rw [e]; exact h
end
inductive AddR (P : Params) (r cl : Addr) (items cvs : List Value) (n2 n3 : Nat) (kind name uri loc value : Value) (v : Value) (fp' : Led) : Prop
  | mk (x dx cl' al' od tk tk2 : _) (p1 : v = .int (items.length : Int) tk) (p2 : fp' = (cl, listOf (cvs ++ [Value.int (items.length : Int) tk2]).toArray (n3 + 1)) :: (r, listOf (items ++ [Value.ref x]).toArray (n2 + 1)) :: nodeLed x dx cl' al' od [] [] 0 0) (p3 : NewNode P [r, cl] x dx cl' al' od kind name uri loc value) : AddR P r cl items cvs n2 n3 kind name uri loc value v fp'
theorem add_child_close {P : Params} {h₀ g : Heap} {L L' r cl x dx cl' al' : Addr} {m m' : Str → Option Value} {fp full : Led} {s : Shared} {h' : Heap} {tk' n2 n3 : Nat} {Q : Value → Shared → Prop} {items cvs : List Value} {kind name uri loc value : Value} {od : Obj} {tz : Tok}
    (hret : Back h₀ L m (keys fp) s (AddR P r cl items cvs n2 n3 kind name uri loc value) Q) (kF : Fr h₀ L h' m) (kN : News h₀ L h' full) (G : GSub s.heap g (keys fp)) (F' : Fr g L' h' m') (N' : News g L' h' full)
    (hn : NewNode P [r] x dx cl' al' od kind name uri loc value) (hc : cl ≠ r ∧ cl ≠ x ∧ cl ≠ dx ∧ cl ≠ cl' ∧ cl ≠ al')
    (hm : ∀ p ∈ (cl, listOf (cvs.toArray.push (Value.int (items.length : Int) tz)) (n3 + 1)) :: (r, listOf (items ++ [Value.ref x]).toArray (n2 + 1)) :: nodeLed x dx cl' al' od [] [] 0 0, p ∈ full) : Q (.int (items.length : Int) tz) { s with heap := h', toks := tk' } := by
  refine back_close2 hret kF kN G F' N' _ hm ⟨x, dx, cl', al', od, tz, tz, rfl, by rw [List.push_toArray], ⟨hn.node, hn.nodup, fun a ha => ?_⟩⟩
  rcases List.mem_cons.mp ha with rfl | ha
  · exact hn.off _ (List.mem_singleton.mpr rfl)
  · rw [List.mem_singleton.mp ha]; exact hc.2
section
theorem rows7 : True := by
  k_with_none
  k_with "ktr_enter" =>
    (refine enter_cells (by k_asm) (by k_asm) (by k_asm) (by k_asm) (by k_asm) (by exact rfl) (by exact rfl) (by assumption) (by k_is) (by k_is) (by ktr_room) (by exact BindsTo.of_eq rfl) (by exact rfl) (by decide +kernel) ?_ (by exact rfl) (by exact rfl) (by exact rfl); k_whole; intro g' L' h' tk' cells' FG' F' N' Y' B' X' T' l1 kG'; (try k_lt l1); k_cells Y'; (try dsimp only [List.cons_append, List.nil_append] at N'); (try dsimp only); (try k_fold))
  k_with "ktr_enter" =>
    (refine code_defG (by k_asm) (by k_asm) (by k_asm) (by k_asm) (by k_asm) (by exact rfl) (by exact rfl) (by assumption) (by k_is) (by k_is) (by ktr_room) (by exact BindsTo.of_eq rfl) (by exact locs rfl) ?_ (by exact rfl) (by exact rfl) (by exact rfl) (by decide); k_whole; intro g' L' h' FG' F' N' B' X' T' kG'; (try dsimp only); (try k_fold))
  k_with "k_ne" =>
    (refine neN ?_; (try dsimp only); with_reducible first | assumption | exact Ne.symm (by assumption) | exact Nat.ne_of_gt (by assumption) | exact Nat.ne_of_lt (by assumption) | exact Nat.ne_of_gt (Nat.lt_succ_of_lt (by assumption)) | exact Nat.ne_of_lt (Nat.lt_succ_of_lt (by assumption)))
  k_with "k_lt" =>
    (intro l1; replace l1 := allLt_of l1; (try dsimp only [AllLt] at l1); (repeat (with_reducible (have O8 := And.left l1; replace l1 := And.right l1))))
  k_with "my pick" =>
    (first | (refine Pick1.head ?_; k_extra "k_all") | exact Pick1.tail (by k_ne) (by k_extra "my pick"))
  k_with "my sub" =>
    (first | exact List.forall_mem_nil _ | (refine List.forall_mem_cons.mpr ⟨by k_mem, ?_⟩; k_extra "my sub"))
  k_with "k_room" =>
    ((try simp only [depth_under_make, depth_under_kw, depth_in1, depth_deeper, depth_caller]); (try dsimp only [ktrTop]); omega)
  k_with "my and" =>
    (first | assumption | exact And.intro (by k_ne) (by k_extra "my and") | k_ne)
  k_with "my conj" =>
    (intro l1; (repeat (with_reducible (have O8 := And.left l1; replace l1 := And.right l1))))
  k_with "my off" =>
    ((rename OffL _ _ => O9); (try dsimp only [OffL, Off1, keys, nodeLed, List.map] at O9); revert O9; k_extra "my conj2")
  k_with "CompRest" =>
    (with_unfolding_all first | (refine LCg.CompRest.succ ?_; intro v' I' oI' C' oC' D' m' h' tk' E' hv' hC' hx' F' N' off' ne'; (first | lcg_open hv' | (obtain ⟨t9', hv9'⟩ := hv'; subst hv9')); (try dsimp only [LCg.Off3] at off'); revert off'; k_extra "my conj2"; revert ne'; k_extra "my conj") | refine LCg.CompRest.zero ?_)
  k_with "FinE" =>
    ((unfold LCg.FinE); intro D' h' tk' F' N' o1'; (try dsimp only [LCg.Off1] at o1'); (try dsimp only [List.nil_append, List.cons_append] at N'); (try dsimp only); revert o1'; k_extra "my conj")
  k_with "FinA" =>
    ((unfold LCg.FinA); intro D' h' tk' F' N' o1'; (try dsimp only [LCg.Off1] at o1'); (try dsimp only [List.nil_append, List.cons_append] at N'); (try dsimp only); revert o1'; k_extra "my conj")
  k_with "k_all" =>
    (first | exact List.forall_mem_nil _ | exact Off1.all (by with_reducible assumption) | exact AllLt.ne (by with_reducible assumption) | exact List.forall_mem_cons.mpr ⟨by k_ne, by k_extra "k_all"⟩)
  k_with "my conj2" =>
    (intro l2; (repeat (with_reducible (have l1 := And.left l2; replace l2 := And.right l2; revert l1; k_extra "my conj"))))
  k_with "my same" =>
    (intro z9 hz9; first | rfl | (refine same_step hz9 (by k_mem) ?_; k_extra "my same2") | ((simp only [List.mem_cons, List.not_mem_nil, or_false, not_or] at hz9); first | rfl | (simp only [hz9, if_false, if_neg, over, not_false_eq_true]; done) | (simp [hz9, over]; done)))
  k_with "my same2" =>
    (first | rfl | (refine same_step (by assumption) (by k_mem) ?_; k_extra "my same2"))
  k_with "TurnPost" =>
    (dsimp only [TurnPost])
  k_with "my for" =>
    (k_here; (rename Fr _ _ _ _ => lF'); (with_unfolding_all refine For_turns lF' ?_ (hE := by first | passes_own | assumption); k_whole))
  k_with "execs cons" =>
    (refine wpAny_execs_cons ?_; (try k_fold))
  k_with "room" =>
    (first | exact room2 (by assumption) (by exact rfl) | exact room3 (by assumption) (by exact rfl) | exact room1 (by assumption) (by exact rfl) | exact room0 (by assumption) | exact room4 (by assumption) (by exact rfl))
  k_with "k_room" =>
    (k_extra "room")
  k_with "k_inst" =>
    (exact inst_base (by k_asm) (by assumption) (by assumption))
  k_with "k_handed" =>
    (assumption)
  k_with "compareOp NotIn str ref" =>
    (k_here; k_dflt (refine notin_top (by k_asm) (by k_asm) (by exact rfl) (by exact rfl) (by assumption) ?_))
  k_with "call ref" =>
    (k_here; (with_reducible show wpAny _ _ (call (Value.ref 288) [Value.ref _, Value.int _ _]) _ _ _); k_dflt (refine use_ct0 (row_ct _ _ _ _ _ _ (by assumption) (by omega)) (by k_asm) (by k_asm) (by k_asm) (by k_asm) (by k_asm) (by first | exact rfl | assumption) (by exact ⟨_, _, _, _, _, Fr.keep (by k_asm) _ _ (by assumption), Fr.keep (by k_asm) _ _ (by assumption), News.get (by k_asm) (by k_mem)⟩) (by ktr_room) (by ktr_units) ?_; intro h9 tk9 F9 N9; (try dsimp only); (try k_fold)))
  k_with "call ref" =>
    (k_here; (with_reducible show wpAny _ _ (call (Value.ref 281) [Value.ref _, _, _, _, _, _, _]) _ _ _); k_dflt (refine use_ct1p (by k_asm) (by k_asm) (by k_asm) (by k_asm) (by k_asm) (by first | exact rfl | assumption) (by k_extra "my pick") (by exact ⟨Fr.keep (by k_asm) _ _ (by assumption), Fr.keep (by k_asm) _ _ (by assumption)⟩) (new_row_m _ _ _ _ _ _ _ _ _ _ _ _ _ _ (by assumption) (by assumption) (by assumption) (by k_handed) (by k_handed) (by k_handed) (by k_handed) (by k_handed) (by k_handed)) (by ktr_room) (by ktr_units) ?_; intro r9 fp9 h9 tk9 F9 N9 O9 R9; obtain ⟨x9, dx9, cl9, al9, od9, t9, e9, f9, n9⟩ := R9; subst e9; subst f9; (have hi9 := item_more (y := Value.ref x9) (by assumption)); k_extra "my off"; (try dsimp only [List.cons_append, List.nil_append] at N9); (try dsimp only); (try k_fold)))
  k_with "subscriptTail" =>
    (k_here; (with_reducible show wpAny _ _ (subscriptTail _ _ (Value.ref _) (Value.int _ _)) _ _ _); k_dflt (refine item_now (News.isList (by k_asm) (by k_mem)) (by simp only [List.length_append, List.length_cons, List.length_nil]; omega) (by assumption) ?_))
  trivial
theorem add_child_m (w : World) (t dt r cl : Addr) (p : Nat) (items cvs : List Value) (x dx al : Addr) (k : Tok) (n1 n2 n3 : Nat) (tp : Tok) (ckind cname curi cloc cvalue : Value) (kind name uri loc value : Value) (od : Obj)
    (hx : items[p]? = some (.ref x)) (hz : items.length < 2 ^ 20) (hc : cvs.length < 2 ^ 20) (hk' : IsParent kind) (hod : IsNode w.params od kind name uri loc value cl al)
    (h1 : handedIn ckind = true) (h2 : handedIn cname = true) (h3 : handedIn curi = true) (h4 : handedIn cloc = true) (h5 : handedIn cvalue = true)
    (d1 : t ≠ r) (d2 : t ≠ cl) (d3 : dt ≠ r) (d4 : dt ≠ cl) (d5 : x ≠ r) (d6 : x ≠ cl) (d7 : dx ≠ r) (d8 : dx ≠ cl) (d9 : r ≠ cl) :
    Ct w 302 4 48 [.ref t, .int p tp, ckind, cname, curi, cloc, cvalue] [(r, listOf items.toArray n2), (cl, listOf cvs.toArray n3)]
      (fun h => h.get? t = some (instObj 445 dt) ∧ h.get? dt = some (rowsObj w.params k r n1) ∧ h.get? x = some (instObj 256 dx) ∧ h.get? dx = some od)
      (AddR w.params r cl items cvs n2 n3 ckind cname curi cloc cvalue) := by
  intro mean mg mb dp un gd cn cs ca ccd cl' outer A₀ base h₀ L m s Q E B F X N T hk hp hdp hun hret
  obtain ⟨e1, e2, e4, e5⟩ := hp
  obtain ⟨k1, k2, k3, k4, k5, k6, k7, k8, k9, parent, nl, n, rfl⟩ := hod
  refine wpAny_call ?_
  k_dflt ktr_enter
  rename GSub _ _ _ => kG
  have g1 := kG _ _ e1 (by simp [d1, d2])
  have g2 := kG _ _ e2 (by simp [d3, d4])
  have g4 := kG _ _ e4 (by simp [d5, d6])
  have g5 := kG _ _ e5 (by simp [d7, d8])
  have d9' := neN d9
  obtain ⟨zk, tzk, rfl, hzk⟩ := hk'
  k_steps
  exact add_child_close hret (by assumption) (by assumption) kG (by assumption) (by assumption) (by assumption) (by k_extra "my and") (by k_extra "my sub")
end

/-- a contract within a larger footprint -/
theorem ct_frame {w : World} {f : Addr} {d u : Nat} {args : List Value} {fp big rest : Led} {Pre Pre' : Heap → Prop} {R R' : Value → Led → Prop} (C : Ct w f d u args fp Pre R) (h1 : ∀ p ∈ fp, p ∈ big) (h2 : ∀ p ∈ rest, p ∈ big ∧ p.1 ∉ keys fp)
    (hpre : ∀ {h₀ h : Heap} {L : Addr}, News h₀ L h big → Pre' h → Pre h)
    (hR : ∀ r fp', R r fp' → (∀ q ∈ rest, ∀ p ∈ fp', q.1 ≠ p.1) → (∀ p ∈ fp', p.1 ∈ keys fp ∨ p.1 ∉ keys big) → ∃ fp2, (∀ p ∈ fp2, p ∈ fp' ∨ p ∈ rest) ∧ R' r fp2) : Ct w f d u args big Pre' R' := by
  intro mean mg mb dp un gd cn cs ca ccd cl' outer A₀ base h₀ L m s Q E B F X N T hk hp hdp hun hret
  refine C mean mg mb dp un gd cn cs ca ccd cl' outer A₀ base h₀ L m s Q E B F X (fun p hp => N p (h1 p hp)) T hk (hpre N hp) hdp hun ?_
  intro r fp' h' tk' F' G N' fr hr
  have hk1 : ∀ b, b ∈ keys fp → b ∈ keys big := fun b hb => by
    obtain ⟨p, hp, rfl⟩ := List.mem_map.mp hb
    exact List.mem_map_of_mem (h1 p hp)
  obtain ⟨fp2, sub, r2⟩ := hR r fp' hr (fun q hq p hp e => by
      rcases fr p hp with h | h
      · exact (h2 q hq).2 (e ▸ h)
      · have := (N q (h2 q hq).1).1
        rw [e, h] at this; cases this) (fun p hp => by
      rcases fr p hp with h | h
      · exact .inl h
      · refine .inr fun hb => ?_
        obtain ⟨q, hq, e⟩ := List.mem_map.mp hb
        have := (N q hq).1
        rw [e, h] at this; cases this)
  refine hret r fp2 h' tk' F' (fun b o e n => G b o e fun hb => n (hk1 b hb)) (fun p hp => ?_) (fun p hp => ?_) r2
  · rcases sub p hp with h | h
    · exact N' p h
    · exact ⟨G _ _ (N p (h2 p h).1).1 (h2 p h).2, (N p (h2 p h).1).2⟩
  · rcases sub p hp with h | h
    · exact (fr p h).imp (hk1 _) id
    · exact .inl (List.mem_map_of_mem (h2 p h).1)

/-- a node as it lies -/
structure Nd where
  x : Addr
  dx : Addr
  cl : Addr
  al : Addr
  od : Obj
  kind : Value
  name : Value
  uri : Value
  loc : Value
  value : Value
  cvs : List Value
  avs : List Value
  n3 : Nat
  n4 : Nat
noncomputable def Nd.led (d : Nd) : Led := nodeLed d.x d.dx d.cl d.al d.od d.cvs d.avs d.n3 d.n4
/-- a tree as it lies -/
structure Tr where
  t : Addr
  dt : Addr
  r : Addr
  k : Tok
  n1 : Nat
  n2 : Nat
  ns : List Nd
noncomputable def Tr.items (T : Tr) : List Value := T.ns.map fun d => .ref d.x
noncomputable def Tr.led (P : Params) (T : Tr) : Led := (T.t, instObj 445 T.dt) :: (T.dt, rowsObj P T.k T.r T.n1) :: (T.r, listOf T.items.toArray T.n2) :: T.ns.flatMap Nd.led
structure Tr.Ok (P : Params) (T : Tr) : Prop where
  nodup : (keys (T.led P)).Nodup
  node : ∀ d ∈ T.ns, IsNode P d.od d.kind d.name d.uri d.loc d.value d.cl d.al
  kids : ∀ d ∈ T.ns, d.cvs.length ≤ T.ns.length ∧ d.avs.length ≤ T.ns.length
/-- the same node but for its lists -/
structure Nd.Same (d e : Nd) : Prop where
  x : e.x = d.x
  dx : e.dx = d.dx
  cl : e.cl = d.cl
  al : e.al = d.al
  od : e.od = d.od
  kind : e.kind = d.kind
  name : e.name = d.name
  uri : e.uri = d.uri
  loc : e.loc = d.loc
  value : e.value = d.value
noncomputable def Tr.grow (T : Tr) (p : Nat) (f : Nd → Nd) (c : Nd) : Tr := { T with n2 := T.n2 + 1, ns := T.ns.modify p f ++ [c] }
theorem modify_map {α β : Type} {f : α → α} {g : α → β} (h : ∀ d, g (f d) = g d) : ∀ (l : List α) (p : Nat), (l.modify p f).map g = l.map g
  | [], p => by cases p <;> rfl
  | a :: l, 0 => by simp [h]
  | a :: l, p + 1 => by simp [modify_map h l p]
theorem mem_modify {α : Type} {f : α → α} {q : α} : ∀ {l : List α} {p : Nat}, q ∈ l.modify p f → q ∈ l ∨ ∃ d, l[p]? = some d ∧ q = f d
  | [], p, h => by cases p <;> simp at h
  | a :: l, 0, h => by
    simp at h
    rcases h with h | h
    · exact .inr ⟨a, rfl, h⟩
    · exact .inl (.tail _ h)
  | a :: l, p + 1, h => by
    simp at h
    rcases h with h | h
    · exact .inl (by rw [h]; exact .head _)
    · rcases mem_modify h with h | ⟨d, h1, h2⟩
      · exact .inl (.tail _ h)
      · exact .inr ⟨d, by simpa using h1, h2⟩
theorem mem_modify_at {α : Type} {f : α → α} : ∀ {l : List α} {p : Nat} {d : α}, l[p]? = some d → f d ∈ l.modify p f
  | [], p, d, h => by simp at h
  | a :: l, 0, d, h => by simp at h; subst h; simp
  | a :: l, p + 1, d, h => by
    have := mem_modify_at (f := f) (l := l) (p := p) (d := d) (by simpa using h)
    simp [this]
theorem same_keys {d e : Nd} (h : d.Same e) : keys e.led = keys d.led := by
  simp [Nd.led, keys, h.x, h.dx, h.cl, h.al]
theorem keys_ns (ns : List Nd) : keys (ns.flatMap Nd.led) = (ns.map fun d => keys d.led).flatten := by
  induction ns with
  | nil => rfl
  | cons d r ih =>
    show (d.led ++ r.flatMap Nd.led).map _ = _
    rw [List.map_append, List.map_cons, List.flatten_cons]
    exact congrArg _ ih
section
variable {P : Params} {T : Tr} {p : Nat} {f : Nd → Nd} {c d : Nd}
theorem Tr.items_grow (hf : ∀ d : Nd, d.Same (f d)) : (T.grow p f c).items = T.items ++ [.ref c.x] := by
  simp only [Tr.items, Tr.grow, List.map_append, List.map_cons, List.map_nil]
  rw [modify_map fun d => by rw [(hf d).x]]
theorem Tr.keys_grow (hf : ∀ d : Nd, d.Same (f d)) : keys ((T.grow p f c).led P) = keys (T.led P) ++ keys c.led := by
  have e : keys ((T.grow p f c).ns.flatMap Nd.led) = keys (T.ns.flatMap Nd.led) ++ keys c.led := by
    rw [keys_ns, keys_ns]
    simp only [Tr.grow, List.map_append, List.map_cons, List.map_nil, List.flatten_append]
    rw [modify_map fun d => same_keys (hf d)]
    simp
  show T.t :: T.dt :: T.r :: keys ((T.grow p f c).ns.flatMap Nd.led) = (T.t :: T.dt :: T.r :: keys (T.ns.flatMap Nd.led)) ++ keys c.led
  rw [e]; rfl
theorem led_fun {l : Led} (h : (keys l).Nodup) {a : Addr} {o o' : Obj} (h1 : (a, o) ∈ l) (h2 : (a, o') ∈ l) : o = o' := by
  induction l with
  | nil => cases h1
  | cons q r ih =>
    have hn := List.nodup_cons.mp h
    rcases List.mem_cons.mp h1 with e1 | h1 <;> rcases List.mem_cons.mp h2 with e2 | h2
    · rw [← e2] at e1; exact (Prod.mk.inj e1).2
    · exact absurd (List.mem_map.mpr ⟨_, h2, by rw [← e1]⟩) hn.1
    · exact absurd (List.mem_map.mpr ⟨_, h1, by rw [← e2]⟩) hn.1
    · exact ih hn.2 h1 h2
theorem Tr.mem_ns {q : Addr × Obj} (hd : d ∈ T.ns) (h : q ∈ d.led) : q ∈ T.led P := .tail _ (.tail _ (.tail _ (List.mem_flatMap.mpr ⟨d, hd, h⟩)))
theorem Tr.at_t : (T.t, instObj 445 T.dt) ∈ T.led P := .head _
theorem Tr.at_dt : (T.dt, rowsObj P T.k T.r T.n1) ∈ T.led P := .tail _ (.head _)
theorem Tr.at_r : (T.r, listOf T.items.toArray T.n2) ∈ T.led P := .tail _ (.tail _ (.head _))
theorem Nd.at_x : (d.x, instObj 256 d.dx) ∈ d.led := .head _
theorem Nd.at_dx : (d.dx, d.od) ∈ d.led := .tail _ (.head _)
theorem Nd.at_cl : (d.cl, listOf d.cvs.toArray d.n3) ∈ d.led := .tail _ (.tail _ (.head _))
theorem Nd.at_al : (d.al, listOf d.avs.toArray d.n4) ∈ d.led := .tail _ (.tail _ (.tail _ (.head _)))
/-- what is apart within a tree -/
theorem Tr.Ok.apart (h : T.Ok P) (hd : d ∈ T.ns) : T.t ≠ T.dt ∧ T.t ≠ T.r ∧ T.dt ≠ T.r ∧ (∀ a ∈ keys d.led, T.t ≠ a ∧ T.dt ≠ a ∧ T.r ≠ a) ∧ (keys d.led).Nodup := by
  have hn : (T.t :: T.dt :: T.r :: keys (T.ns.flatMap Nd.led)).Nodup := h.nodup
  simp only [List.nodup_cons, List.mem_cons, not_or] at hn
  obtain ⟨⟨a1, a2, a3⟩, ⟨b1, b2⟩, c1, c2⟩ := hn
  have hs : ∀ a ∈ keys d.led, a ∈ keys (T.ns.flatMap Nd.led) := fun a ha => by
    obtain ⟨q, hq, rfl⟩ := List.mem_map.mp ha
    exact List.mem_map_of_mem (List.mem_flatMap.mpr ⟨d, hd, hq⟩)
  refine ⟨a1, a2, b1, fun a ha => ⟨fun e => a3 (e ▸ hs a ha), fun e => b2 (e ▸ hs a ha), fun e => c1 (e ▸ hs a ha)⟩, ?_⟩
  rw [keys_ns] at c2
  exact (List.pairwise_flatten.mp c2).1 _ (List.mem_map_of_mem hd)
/-- what a grown tree is made of -/
theorem Tr.grow_parts {a : Addr} {oa or : Obj} {fp' : Led} (hf : ∀ d : Nd, d.Same (f d)) (hd : T.ns[p]? = some d) (hn : (keys ((T.grow p f c).led P)).Nodup)
    (ha : (a, oa) ∈ (f d).led) (hpart : ∀ q ∈ (f d).led, q.1 ≠ a → q ∈ d.led) (hr : or = listOf (T.items ++ [Value.ref c.x]).toArray (T.n2 + 1))
    (hm : ∀ q ∈ (a, oa) :: (T.r, or) :: c.led, q ∈ fp') : ∀ q ∈ (T.grow p f c).led P, q ∈ fp' ∨ q ∈ (T.led P).filter fun q => q.1 ≠ a ∧ q.1 ≠ T.r := by
  intro q hq
  have er : (T.r, or) ∈ (T.grow p f c).led P := by rw [hr, ← Tr.items_grow hf (c := c) (p := p)]; exact Tr.at_r
  have ea : (a, oa) ∈ (T.grow p f c).led P := Tr.mem_ns (d := f d) (List.mem_append_left _ (mem_modify_at hd)) ha
  by_cases h1 : q.1 = T.r
  · obtain ⟨b, o⟩ := q
    cases h1
    exact .inl (by rw [led_fun hn hq er]; exact hm _ (.tail _ (.head _)))
  by_cases h2 : q.1 = a
  · obtain ⟨b, o⟩ := q
    cases h2
    exact .inl (by rw [led_fun hn hq ea]; exact hm _ (.head _))
  rcases List.mem_cons.mp hq with e | hq
  · exact .inr (List.mem_filter.mpr ⟨by rw [e]; exact Tr.at_t, by simp [h1, h2]⟩)
  rcases List.mem_cons.mp hq with e | hq
  · exact .inr (List.mem_filter.mpr ⟨by rw [e]; exact Tr.at_dt, by simp [h1, h2]⟩)
  rcases List.mem_cons.mp hq with e | hq
  · exact absurd (by rw [e]; rfl) h1
  obtain ⟨e, he, hqe⟩ := List.mem_flatMap.mp hq
  rcases List.mem_append.mp he with he | he
  · refine .inr (List.mem_filter.mpr ⟨?_, by simp [h1, h2]⟩)
    rcases mem_modify he with he | ⟨d', h3, rfl⟩
    · exact Tr.mem_ns he hqe
    · rw [hd] at h3; cases h3
      exact Tr.mem_ns (List.mem_of_getElem? hd) (hpart q hqe h2)
  · rw [List.mem_singleton.mp he] at hqe
    exact .inl (hm _ (.tail _ (.tail _ hqe)))
theorem Tr.Ok.grow (h : T.Ok P) (hf : ∀ d : Nd, d.Same (f d)) (hl : ∀ d, (f d).cvs.length ≤ d.cvs.length + 1 ∧ (f d).avs.length ≤ d.avs.length + 1) (hn : (keys ((T.grow p f c).led P)).Nodup)
    (hc : IsNode P c.od c.kind c.name c.uri c.loc c.value c.cl c.al) (h0 : c.cvs = [] ∧ c.avs = []) : (T.grow p f c).Ok P where
  nodup := hn
  node := fun d hd => by
    rcases List.mem_append.mp hd with hd | hd
    · rcases mem_modify hd with hd | ⟨e, he, rfl⟩
      · exact h.node d hd
      · have := h.node e (List.mem_of_getElem? he)
        have s := hf e
        rw [s.od, s.kind, s.name, s.uri, s.loc, s.value, s.cl, s.al]; exact this
    · rw [List.mem_singleton.mp hd]; exact hc
  kids := fun d hd => by
    have hz : (T.grow p f c).ns.length = T.ns.length + 1 := by simp [Tr.grow]
    rw [hz]
    rcases List.mem_append.mp hd with hd | hd
    · rcases mem_modify hd with hd | ⟨e, he, rfl⟩
      · have := h.kids d hd; omega
      · have := h.kids e (List.mem_of_getElem? he)
        have := hl e; omega
    · rw [List.mem_singleton.mp hd, h0.1, h0.2]; simp
end
noncomputable def Nd.new (x dx cl al : Addr) (od : Obj) (kind name uri loc value : Value) : Nd := ⟨x, dx, cl, al, od, kind, name, uri, loc, value, [], [], 0, 0⟩
noncomputable def Nd.kid (z : Nat) (tk : Tok) (d : Nd) : Nd := { d with cvs := d.cvs ++ [.int (z : Int) tk], n3 := d.n3 + 1 }
noncomputable def Nd.att (z : Nat) (tk : Tok) (d : Nd) : Nd := { d with avs := d.avs ++ [.int (z : Int) tk], n4 := d.n4 + 1 }
theorem Nd.kid_same {z : Nat} {tk : Tok} (d : Nd) : d.Same (d.kid z tk) := ⟨rfl, rfl, rfl, rfl, rfl, rfl, rfl, rfl, rfl, rfl⟩
theorem Nd.att_same {z : Nat} {tk : Tok} (d : Nd) : d.Same (d.att z tk) := ⟨rfl, rfl, rfl, rfl, rfl, rfl, rfl, rfl, rfl, rfl⟩
/-- what a call that makes a node hands back -/
inductive GrownR (P : Params) (T : Tr) (p : Nat) (f : Nat → Tok → Nd → Nd) (kind name uri loc value : Value) (v : Value) (fp' : Led) : Prop
  | mk (x dx cl al od tk tk2 : _) (p1 : v = .int (T.ns.length : Int) tk) (p2 : fp' = (T.grow p (f T.ns.length tk2) (.new x dx cl al od kind name uri loc value)).led P) (p3 : (T.grow p (f T.ns.length tk2) (.new x dx cl al od kind name uri loc value)).Ok P) : GrownR P T p f kind name uri loc value v fp'
theorem nodup_app {l k : List Addr} (h1 : l.Nodup) (h2 : k.Nodup) (h : ∀ a ∈ k, a ∉ l) : (l ++ k).Nodup :=
  List.nodup_append.mpr ⟨h1, h2, fun a ha b hb e => h b hb (e ▸ ha)⟩
theorem Tr.len_items {T : Tr} : T.items.length = T.ns.length := by simp [Tr.items]
/-- a small contract that makes a node and tells it in the list at a, lifted to the tree -/
theorem grow_t {w : World} {f : Addr} {df uf : Nat} {args : List Value} {T : Tr} {p : Nat} {d : Nd} {a : Addr} {vs : List Value} {n : Nat} {Pre Pre' : Heap → Prop} {R : Value → Led → Prop} {PK : Value → Prop} {name uri loc value : Value} (fk : Nat → Tok → Nd → Nd)
    (C : Ct w f df uf args [(T.r, listOf T.items.toArray T.n2), (a, listOf vs.toArray n)] Pre R) (hok : T.Ok w.params) (hd : T.ns[p]? = some d) (hpre : ∀ {h₀ h : Heap} {L : Addr}, News h₀ L h (T.led w.params) → Pre' h → Pre h)
    (hR : ∀ v fp', R v fp' → ∃ kind, PK kind ∧ AddR w.params T.r a T.items vs T.n2 n kind name uri loc value v fp') (ha : (a, listOf vs.toArray n) ∈ d.led) (hfa : ∀ z tk, (a, listOf (vs ++ [Value.int ((z : Nat) : Int) tk]).toArray (n + 1)) ∈ (fk z tk d).led)
    (hpart : ∀ z tk, ∀ q ∈ (fk z tk d).led, q.1 ≠ a → q ∈ d.led) (hf : ∀ z tk, ∀ d : Nd, d.Same (fk z tk d)) (hl : ∀ z tk, ∀ d : Nd, (fk z tk d).cvs.length ≤ d.cvs.length + 1 ∧ (fk z tk d).avs.length ≤ d.avs.length + 1) :
    Ct w f df uf args (T.led w.params) Pre' (fun v fp' => ∃ kind, PK kind ∧ GrownR w.params T p fk kind name uri loc value v fp') := by
  have hm := List.mem_of_getElem? hd
  refine ct_frame (rest := (T.led w.params).filter fun q => q.1 ≠ a ∧ q.1 ≠ T.r) C ?_ ?_ hpre ?_
  · intro q hq
    simp only [List.mem_cons, List.not_mem_nil, or_false] at hq
    rcases hq with rfl | rfl
    · exact Tr.at_r
    · exact Tr.mem_ns hm ha
  · intro q hq
    obtain ⟨h, e⟩ := List.mem_filter.mp hq
    have e := of_decide_eq_true e
    exact ⟨h, by simp [keys, e.1, e.2]⟩
  · intro v fp' hv hoff hfr
    obtain ⟨kind, hpk, x, dx, cl', al', od, tk, tk2, rfl, rfl, hn⟩ := hR v fp' hv
    have hz' : (T.items.length : Int) = T.ns.length := by rw [Tr.len_items]
    have hfresh : ∀ b ∈ [x, dx, cl', al'], b ∉ keys (T.led w.params) := fun b hb hc => by
      have o1 := hn.off T.r (by simp)
      have o2 := hn.off a (by simp)
      have : b ∈ keys [(T.r, listOf T.items.toArray T.n2), (a, listOf vs.toArray n)] ∨ b ∉ keys (T.led w.params) := by
        simp only [List.mem_cons, List.not_mem_nil, or_false] at hb
        rcases hb with rfl | rfl | rfl | rfl
        · exact hfr (_, _) (.tail _ (.tail _ (.head _)))
        · exact hfr (_, _) (.tail _ (.tail _ (.tail _ (.head _))))
        · exact hfr (_, _) (.tail _ (.tail _ (.tail _ (.tail _ (.head _)))))
        · exact hfr (_, _) (.tail _ (.tail _ (.tail _ (.tail _ (.tail _ (.head _))))))
      rcases this with h | h
      · simp only [keys, List.map_cons, List.map_nil, List.mem_cons, List.not_mem_nil, or_false] at h
        simp only [List.mem_cons, List.not_mem_nil, or_false] at hb
        rcases h with rfl | rfl
        · rcases hb with h | h | h | h
          · exact o1.1 h
          · exact o1.2.1 h
          · exact o1.2.2.1 h
          · exact o1.2.2.2 h
        · rcases hb with h | h | h | h
          · exact o2.1 h
          · exact o2.2.1 h
          · exact o2.2.2.1 h
          · exact o2.2.2.2 h
      · exact h hc
    have hnd : (keys ((T.grow p (fk T.ns.length tk2) (.new x dx cl' al' od kind name uri loc value)).led w.params)).Nodup := by
      rw [Tr.keys_grow (hf _ _)]
      exact nodup_app hok.nodup hn.nodup hfresh
    refine ⟨_, Tr.grow_parts (fp' := _) (hf _ _) hd hnd (hfa T.ns.length tk2) (hpart _ _) rfl ?_, kind, hpk, x, dx, cl', al', od, tk, tk2, by rw [hz'], rfl, hok.grow (hf _ _) (hl _ _) hnd hn.node ⟨rfl, rfl⟩⟩
    intro q hq
    rw [hz']; exact hq
theorem Nd.kid_part {z : Nat} {tk : Tok} {d : Nd} : ∀ q ∈ (d.kid z tk).led, q.1 ≠ d.cl → q ∈ d.led := by
  intro q hq hne
  simp only [Nd.led, nodeLed, Nd.kid, List.mem_cons, List.not_mem_nil, or_false] at hq ⊢
  rcases hq with rfl | rfl | rfl | rfl
  · exact .inl rfl
  · exact .inr (.inl rfl)
  · exact absurd rfl hne
  · exact .inr (.inr (.inr rfl))
theorem Nd.att_part {z : Nat} {tk : Tok} {d : Nd} : ∀ q ∈ (d.att z tk).led, q.1 ≠ d.al → q ∈ d.led := by
  intro q hq hne
  simp only [Nd.led, nodeLed, Nd.att, List.mem_cons, List.not_mem_nil, or_false] at hq ⊢
  rcases hq with rfl | rfl | rfl | rfl
  · exact .inl rfl
  · exact .inr (.inl rfl)
  · exact .inr (.inr (.inl rfl))
  · exact absurd rfl hne
theorem add_child_t (w : World) (T : Tr) (p : Nat) (tp : Tok) (d : Nd) (kind name uri loc value : Value) (hok : T.Ok w.params) (hd : T.ns[p]? = some d) (hk : IsParent d.kind) (hz : T.ns.length < 2 ^ 20)
    (h1 : handedIn kind = true) (h2 : handedIn name = true) (h3 : handedIn uri = true) (h4 : handedIn loc = true) (h5 : handedIn value = true) :
    Ct w 302 4 48 [.ref T.t, .int p tp, kind, name, uri, loc, value] (T.led w.params) (fun _ => True) (GrownR w.params T p Nd.kid kind name uri loc value) := by
  have hm := List.mem_of_getElem? hd
  obtain ⟨a1, a2, a3, a4, a5⟩ := hok.apart hm
  have b1 := a4 d.x (by simp [Nd.led, keys])
  have b2 := a4 d.dx (by simp [Nd.led, keys])
  have b3 := a4 d.cl (by simp [Nd.led, keys])
  have b5 : [d.x, d.dx, d.cl, d.al].Nodup := a5
  simp only [List.nodup_cons, List.mem_cons, List.not_mem_nil, or_false, not_or] at b5
  have kk := (hok.kids d hm).1
  refine ct_mono (grow_t (PK := fun k => k = kind) Nd.kid (add_child_m w T.t T.dt T.r d.cl p T.items d.cvs d.x d.dx d.al T.k T.n1 T.n2 d.n3 tp kind name uri loc value d.kind d.name d.uri d.loc d.value d.od
    (by simp [Tr.items, hd]) (by rw [Tr.len_items]; omega) (by omega) hk (hok.node d hm) h1 h2 h3 h4 h5 a2 b3.1 a3 b3.2.1 (Ne.symm b1.2.2) b5.1.2.1 (Ne.symm b2.2.2) b5.2.1.1 b3.2.2) hok hd
    (fun N _ => ⟨N.get Tr.at_t, N.get Tr.at_dt, N.get (Tr.mem_ns hm Nd.at_x), N.get (Tr.mem_ns hm Nd.at_dx)⟩) (fun v fp' h => ⟨_, rfl, h⟩) Nd.at_cl (fun _ _ => Nd.at_cl) (fun _ _ => Nd.kid_part) (fun _ _ => Nd.kid_same) fun _ _ d => by simp [Nd.kid]) ?_
  rintro v fp' ⟨_, rfl, h⟩
  exact h

section
variable {prog : Program} {w : World} {A : Around} {E : Value → Shared → Prop} {s : Shared} {env : Env} {h₀ : Heap} {target : Expr} {body : List Stmt} {Q : Flow → Shared → Prop}
/-- a turn has come to its end -/
inductive TurnEnd (h₀ : Heap) (L I : Addr) (ito : Obj) (J : (Str → Option Value) → Led → Prop) (s₁ s₂ : Shared) : Prop
  | mk (h' tk m' news' : _) (p1 : s₂ = { s₁ with heap := h', toks := tk }) (p2 : Fr h₀ L h' m') (p3 : News h₀ L h' ((I, ito) :: news')) (p4 : (∀ p ∈ news', p.1 ≠ I)) (p5 : J m' news') : TurnEnd h₀ L I ito J s₁ s₂
noncomputable def TurnPost (h₀ : Heap) (L I : Addr) (ito : Obj) (J : (Str → Option Value) → Led → Prop) (s₁ : Shared) (Q : Flow → Shared → Prop) (f : Flow) (s₂ : Shared) : Prop :=
  match f with
  | .ret v => Q (.ret v) s₂
  | .brk => Q .next s₂
  | _ => TurnEnd h₀ L I ito J s₁ s₂
theorem TurnEnd.intro {L I : Addr} {ito : Obj} {J : (Str → Option Value) → Led → Prop} {m' : Str → Option Value} {news' full : Led} {s₁ : Shared} {h' : Heap} {tk : Nat} (F : Fr h₀ L h' m') (N : News h₀ L h' full) (hi : (I, ito) ∈ full)
    (hs : ∀ p ∈ news', p ∈ full) (hI : ∀ p ∈ news', p.1 ≠ I) (hj : J m' news') : TurnEnd h₀ L I ito J s₁ { s₁ with heap := h', toks := tk } :=
  ⟨h', tk, m', news', rfl, F, fun p hp => (List.mem_cons.mp hp).elim (fun e => N p (e ▸ hi)) fun h => N p (hs p h), hI, hj⟩
end
theorem go_name {prog : Program} {w : World} {A : Around} {x : Str} {px : Pos} {l : Addr} : ∀ (s : Shared) (v : Value) (I : Addr) (Q : Unit → Shared → Prop) (E : Value → Shared → Prop) (k : Nat), s.heap.IsListIter I l k → Q () s → wpAny (model prog w) A (letOwnedTupleGo (.Name x px) (.ref I) v) Q E s :=
  fun _ _ _ _ _ _ _ h => wpAny_pure h
theorem go_tuple {prog : Program} {w : World} {A : Around} {elts : List Expr} {x1 : Nat} {pos : Pos} {l : Addr} : ∀ (s : Shared) (v : Value) (I : Addr) (Q : Unit → Shared → Prop) (E : Value → Shared → Prop) (k : Nat), s.heap.IsListIter I l k → Q () s → wpAny (model prog w) A (letOwnedTupleGo (.Tuple elts x1 pos) (.ref I) v) Q E s :=
  fun _ v _ _ _ _ hit h => by
    cases v with
    | ref T => exact wpAny_letOwnedTupleGo_listiter hit h
    | _ => exact wpAny_pure h
section
theorem rows8 : True := by
  k_with_none
  k_with "ktr_enter" =>
    (refine enter_cells (by k_asm) (by k_asm) (by k_asm) (by k_asm) (by k_asm) (by exact rfl) (by exact rfl) (by assumption) (by k_is) (by k_is) (by ktr_room) (by exact BindsTo.of_eq rfl) (by exact rfl) (by decide +kernel) ?_ (by exact rfl) (by exact rfl) (by exact rfl); k_whole; intro g' L' h' tk' cells' FG' F' N' Y' B' X' T' l1 kG'; (try k_lt l1); k_cells Y'; (try dsimp only [List.cons_append, List.nil_append] at N'); (try dsimp only); (try k_fold))
  k_with "ktr_enter" =>
    (refine code_defG (by k_asm) (by k_asm) (by k_asm) (by k_asm) (by k_asm) (by exact rfl) (by exact rfl) (by assumption) (by k_is) (by k_is) (by ktr_room) (by exact BindsTo.of_eq rfl) (by exact locs rfl) ?_ (by exact rfl) (by exact rfl) (by exact rfl) (by decide); k_whole; intro g' L' h' FG' F' N' B' X' T' kG'; (try dsimp only); (try k_fold))
  k_with "k_ne" =>
    (refine neN ?_; (try dsimp only); with_reducible first | assumption | exact Ne.symm (by assumption) | exact Nat.ne_of_gt (by assumption) | exact Nat.ne_of_lt (by assumption) | exact Nat.ne_of_gt (Nat.lt_succ_of_lt (by assumption)) | exact Nat.ne_of_lt (Nat.lt_succ_of_lt (by assumption)))
  k_with "k_lt" =>
    (intro l1; replace l1 := allLt_of l1; (try dsimp only [AllLt] at l1); (repeat (with_reducible (have O8 := And.left l1; replace l1 := And.right l1))))
  k_with "my pick" =>
    (first | (refine Pick1.head ?_; k_extra "k_all") | exact Pick1.tail (by k_ne) (by k_extra "my pick"))
  k_with "my sub" =>
    (first | exact List.forall_mem_nil _ | (refine List.forall_mem_cons.mpr ⟨by k_mem, ?_⟩; k_extra "my sub"))
  k_with "k_room" =>
    ((try simp only [depth_under_make, depth_under_kw, depth_in1, depth_deeper, depth_caller]); (try dsimp only [ktrTop]); omega)
  k_with "my and" =>
    (first | assumption | exact And.intro (by k_ne) (by k_extra "my and") | k_ne)
  k_with "my conj" =>
    (intro l1; (repeat (with_reducible (have O8 := And.left l1; replace l1 := And.right l1))))
  k_with "my off" =>
    ((rename OffL _ _ => O9); (try dsimp only [OffL, Off1, keys, nodeLed, List.map] at O9); revert O9; k_extra "my conj2")
  k_with "CompRest" =>
    (with_unfolding_all first | (refine LCg.CompRest.succ ?_; intro v' I' oI' C' oC' D' m' h' tk' E' hv' hC' hx' F' N' off' ne'; (first | lcg_open hv' | (obtain ⟨t9', hv9'⟩ := hv'; subst hv9')); (try dsimp only [LCg.Off3] at off'); revert off'; k_extra "my conj2"; revert ne'; k_extra "my conj") | refine LCg.CompRest.zero ?_)
  k_with "FinE" =>
    ((unfold LCg.FinE); intro D' h' tk' F' N' o1'; (try dsimp only [LCg.Off1] at o1'); (try dsimp only [List.nil_append, List.cons_append] at N'); (try dsimp only); revert o1'; k_extra "my conj")
  k_with "FinA" =>
    ((unfold LCg.FinA); intro D' h' tk' F' N' o1'; (try dsimp only [LCg.Off1] at o1'); (try dsimp only [List.nil_append, List.cons_append] at N'); (try dsimp only); revert o1'; k_extra "my conj")
  k_with "k_all" =>
    (first | exact List.forall_mem_nil _ | exact Off1.all (by with_reducible assumption) | exact AllLt.ne (by with_reducible assumption) | exact List.forall_mem_cons.mpr ⟨by k_ne, by k_extra "k_all"⟩)
  k_with "my conj2" =>
    (intro l2; (repeat (with_reducible (have l1 := And.left l2; replace l2 := And.right l2; revert l1; k_extra "my conj"))))
  k_with "my same" =>
    (intro z9 hz9; first | rfl | (refine same_step hz9 (by k_mem) ?_; k_extra "my same2") | ((simp only [List.mem_cons, List.not_mem_nil, or_false, not_or] at hz9); first | rfl | (simp only [hz9, if_false, if_neg, over, not_false_eq_true]; done) | (simp [hz9, over]; done)))
  k_with "my same2" =>
    (first | rfl | (refine same_step (by assumption) (by k_mem) ?_; k_extra "my same2"))
  k_with "TurnPost" =>
    (dsimp only [TurnPost])
  k_with "my for" =>
    (k_here; (rename Fr _ _ _ _ => lF'); (with_unfolding_all refine For_turns lF' ?_ (hE := by first | passes_own | assumption); k_whole))
  k_with "execs cons" =>
    (refine wpAny_execs_cons ?_; (try k_fold))
  k_with "room" =>
    (first | exact room2 (by assumption) (by exact rfl) | exact room3 (by assumption) (by exact rfl) | exact room1 (by assumption) (by exact rfl) | exact room0 (by assumption) | exact room4 (by assumption) (by exact rfl))
  k_with "k_room" =>
    (k_extra "room")
  k_with "k_inst" =>
    (exact inst_base (by k_asm) (by assumption) (by assumption))
  k_with "k_handed" =>
    (assumption)
  k_with "call ref" =>
    (k_here; (with_reducible show wpAny _ _ (call (Value.ref 288) [Value.ref _, Value.int _ _]) _ _ _); k_dflt (refine use_ct0 (row_ct _ _ _ _ _ _ (by assumption) (by assumption)) (by k_asm) (by k_asm) (by k_asm) (by k_asm) (by k_asm) (by first | exact rfl | assumption) (by exact TreeRd.of (by k_asm) (by assumption) (by assumption) (by assumption)) (by ktr_room) (by ktr_units) ?_; intro h9 tk9 F9 N9; (try dsimp only); (try k_fold)))
  trivial
theorem element_row_m (w : World) (t : Addr) (items : List Value) (i : Nat) (ti tk : Tok) (x cl al : Addr) (name uri loc value : Value) (hx : items[i]? = some (.ref x)) (hz : items.length ≤ 2 ^ 24) :
    Ct w 337 3 24 [.ref t, .int i ti] [] (fun h => TreeRd w.params h t items ∧ NodeRd w.params h x (.str kElem tk) name uri loc value cl al) (fun r fp' => r = .ref x ∧ fp' = []) := by
  intro mean mg mb dp un gd cn cs ca ccd cl' outer A₀ base h₀ L m s Q E B F X N T hk hp hdp hun hret
  obtain ⟨⟨dt, r, k, n1, n2, e1, e2, e3⟩, dx, od, e4, e5, k1, k2, k3, k4, k5, k6, k7, k8, k9, parent, nl, n, rfl⟩ := hp
  refine wpAny_call ?_
  k_dflt ktr_enter
  rename GSub _ _ _ => kG
  have g1 := kG _ _ e1 List.not_mem_nil
  have g2 := kG _ _ e2 List.not_mem_nil
  have g3 := kG _ _ e3 List.not_mem_nil
  have g4 := kG _ _ e4 List.not_mem_nil
  have g5 := kG _ _ e5 List.not_mem_nil
  have hh : handedIn (Value.str kElem tk) = true := rfl
  k_steps
  exact back_close2 hret (by assumption) (by assumption) kG (by assumption) (by assumption) [] (List.forall_mem_nil _) ⟨rfl, rfl⟩
end
/-- an attribute's node as it lies, of another name -/
inductive OtherAt (P : Params) (h : Heap) (items : List Value) (a b : Addr) (lz : Str) (v : Value) : Prop
  | mk (i : Nat) (ti : Tok) (x dx : Addr) (od : Obj) (kind name : Value) (uri : Str) (tu : Tok) (loc : Str) (tl : Tok) (value : Value) (cl al : Addr) (e : v = .int (i : Int) ti) (e2 : items[i]? = some (.ref x)) (e3 : h.get? x = some (instObj 256 dx)) (e4 : h.get? dx = some od) (e5 : IsNode P od kind name (.str uri tu) (.str loc tl) value cl al) (e6 : loc ≠ lz) (e7 : x ≠ a) (e8 : x ≠ b) (e9 : dx ≠ a) (e10 : dx ≠ b)
/-- a frame's names, some of them turned -/
noncomputable def over : List Str → (Str → Option Value) → (Str → Option Value) → Str → Option Value
  | [], _, m => m
  | y :: ys, u, m => fun z => if z = y then u y else over ys u m z
theorem over_self {m m₀ : Str → Option Value} : ∀ {ys : List Str}, (∀ z, z ∉ ys → m z = m₀ z) → over ys m m₀ = m := by
  intro ys
  induction ys generalizing m₀ with
  | nil => intro h; funext z; exact (h z List.not_mem_nil).symm
  | cons y r ih =>
    intro h
    funext z
    show (if z = y then m y else over r m m₀ z) = m z
    by_cases e : z = y
    · rw [if_pos e, e]
    · rw [if_neg e]
      have : over r m (fun q => if q = y then m y else m₀ q) = m := ih fun q hq => by
        by_cases e' : q = y
        · subst e'; exact (if_pos rfl).symm
        · show m q = if q = y then m y else m₀ q
          rw [if_neg e']
          exact h q fun hm => (List.mem_cons.mp hm).elim e' hq
      have k : ∀ {l : List Str} {a b : Str → Option Value} {q : Str}, a q = b q → over l m a q = over l m b q := by
        intro l a b q hab
        induction l with
        | nil => exact hab
        | cons c l il => show (if q = c then m c else over l m a q) = if q = c then m c else over l m b q; rw [il]
      have e2 := congrFun this z
      rw [k (b := m₀) (show (if z = y then m y else m₀ z) = m₀ z from if_neg e)] at e2
      exact e2
section
variable {prog : Program} {w : World} {A : Around} {E : Value → Shared → Prop} {s : Shared} {env : Env} {h₀ : Heap} {target : Expr} {body : List Stmt} {Q : Flow → Shared → Prop}
/-- a loop by an invariant, whatever it goes through -/
theorem turns_core {I : Addr} {fp : List Addr} {n : Nat} {P : Nat → Value → Prop} {St : Nat → Heap → Prop} {m₀ : Str → Option Value} {news : Led} (ys : List Str) (J : Nat → (Str → Option Value) → Led → Prop)
    (W : Walks prog w A I fp [I] n P St) (hgo : ∀ i v (s : Shared) (Q : Unit → Shared → Prop) (E : Value → Shared → Prop), St i s.heap → Q () s → wpAny (model prog w) A (letOwnedTupleGo target (.ref I) v) Q E s)
    (hI : h₀.get? I = none) (hLf : env.locals ∉ fp) (hnI : ∀ p ∈ news, p.1 ≠ I) (hfp : ∀ b ∈ fp, b = I ∨ h₀.get? b ≠ none ∨ ∃ o, ∀ i m nn, J i m nn → (b, o) ∈ nn)
    (hst : St 0 s.heap) (hit : ∀ i h, St i h → ∃ o, h.get? I = some o) (F : Fr h₀ env.locals s.heap m₀) (N : News h₀ env.locals s.heap news) (hj : J 0 m₀ news)
    (turn : ∀ i v ito h tk u news₁, i < n → P i v → J i (over ys u m₀) news₁ → (∀ p ∈ news₁, p.1 ≠ I) → Fr h₀ env.locals h (over ys u m₀) → News h₀ env.locals h ((I, ito) :: news₁) →
      wpAny (model prog w) A (assign target env v) (fun _ s₃ => wpAny (model prog w) A (execs body env) (TurnPost h₀ env.locals I ito (fun m' nn => (∀ z, z ∉ ys → m' z = m₀ z) ∧ J (i + 1) m' nn) { s with heap := h, toks := tk } Q) E s₃) E { s with heap := h, toks := tk })
    (done : ∀ u news₁ h tk, J n (over ys u m₀) news₁ → Fr h₀ env.locals h (over ys u m₀) → News h₀ env.locals h news₁ → Q .next { s with heap := h, toks := tk }) :
    TurnsAt prog w A h₀ env target body Q E (.ref I) s := by
  have off : ∀ {nn : Led}, (∀ p ∈ nn, p.1 ∉ [I]) → ∀ p ∈ nn, p.1 ≠ I := fun h p hp e => h p hp (List.mem_singleton.mpr e)
  refine ⟨I, fp, [I], n, _, _, St, m₀, news, (fun i m nn => (∀ z, z ∉ ys → m z = m₀ z) ∧ J i m nn), rfl, KTurns.ofWalks W (fun i v s Q E st q => hgo i v s Q E st q), hLf, fun b hb => List.mem_singleton.mp hb ▸ hI, fun p hp h => hnI p hp (List.mem_singleton.mp h), hst, F, N, ⟨fun _ _ => rfl, hj⟩, ?_, ?_⟩
  · intro i v m₁ news₁ h₁ tk₁ own hi hP hJ hoff hown hget hall hst F₁ N₁
    obtain ⟨ito, hito⟩ := hit _ _ hst
    have eo := over_self hJ.1
    refine wpAny_mono (turn i v ito h₁ tk₁ m₁ news₁ hi hP (by rw [eo]; exact hJ.2) (off hoff) (by rw [eo]; exact F₁) (fun p hp => ?_)) (fun _ s₃ h₃ => wpAny_mono h₃ (fun f s₂ p => ?_) fun _ _ e => e) fun _ _ e => e
    · rcases List.mem_cons.mp hp with e | hp
      · exact N₁ p (List.mem_append_left _ (e ▸ hall I (W.sub _ (.head _)) hI ito hito))
      · exact N₁ p (List.mem_append_right _ hp)
    · have fin : TurnEnd h₀ env.locals I ito (fun m' nn => (∀ z, z ∉ ys → m' z = m₀ z) ∧ J (i + 1) m' nn) { s with heap := h₁, toks := tk₁ } s₂ → LoopStepU h₀ env.locals [I] own (fun m' nn => (∀ z, z ∉ ys → m' z = m₀ z) ∧ J (i + 1) m' nn) { s with heap := h₁, toks := tk₁ } .next s₂ := fun x => by
        cases x with
        | mk h' tk m' news' e F' N' hI' hj' =>
        refine ⟨rfl, h', tk, m', news', e, F', fun p hp => ?_, fun p hp hq => hI' p hp (List.mem_singleton.mp hq), hj'⟩
        rcases List.mem_append.mp hp with hp | hp
        · have hg := hget p hp
          obtain ⟨b, o⟩ := p
          rcases hfp b (hown _ hp) with rfl | h | ⟨o', h⟩
          · have : o = ito := Option.some.inj ((show h₁.get? b = some o from hg).symm.trans hito)
            exact this ▸ N' _ (.head _)
          · exact absurd (N₁ _ (List.mem_append_left _ hp)).2.2 h
          · have h1 := (N₁ _ (List.mem_append_right _ (h _ _ _ hJ.2))).1
            have : o = o' := Option.some.inj ((show h₁.get? b = some o from hg).symm.trans h1)
            exact this ▸ N' _ (.tail _ (h _ _ _ hj'.2))
        · exact N' p (.tail _ hp)
      cases f with
      | ret v => exact .ret p
      | brk => exact .brk p
      | next => exact .next (fin p)
      | cont => exact .cont (fin p)
  · intro h' tk m' news' F' N' _ hJ
    have eo := over_self hJ.1
    exact done m' news' h' tk (by rw [eo]; exact hJ.2) (by rw [eo]; exact F') N'
/-- a loop over a list, its turns storing into the names ys alone -/
theorem turns_any {l : Addr} {vs : List Value} {m₀ : Str → Option Value} {news : Led} (ys : List Str) (J : Nat → (Str → Option Value) → Led → Prop)
    (hh : A.handled = none) (ht : ∀ (s : Shared) (v : Value) (I : Addr) (Q : Unit → Shared → Prop) (E : Value → Shared → Prop) (k : Nat), s.heap.IsListIter I l k → Q () s → wpAny (model prog w) A (letOwnedTupleGo target (.ref I) v) Q E s)
    (F : Fr h₀ env.locals s.heap m₀) (N : News h₀ env.locals s.heap news) (hls : s.heap.IsList l vs.toArray) (hL : env.locals ≠ l) (hl : h₀.get? l ≠ none ∨ ∃ o, ∀ i m nn, J i m nn → (l, o) ∈ nn) (hj : J 0 m₀ news)
    (turn : ∀ i v I ito h tk u news₁, vs[i]? = some v → J i (over ys u m₀) news₁ → (∀ p ∈ news, p.1 < I) → (∀ p ∈ news₁, p.1 ≠ I) → Fr h₀ env.locals h (over ys u m₀) → News h₀ env.locals h ((I, ito) :: news₁) →
      wpAny (model prog w) A (assign target env v) (fun _ s₃ => wpAny (model prog w) A (execs body env) (TurnPost h₀ env.locals I ito (fun m' nn => (∀ z, z ∉ ys → m' z = m₀ z) ∧ J (i + 1) m' nn) { s with heap := h, toks := tk } Q) E s₃) E { s with heap := h, toks := tk })
    (done : ∀ u news₁ h tk, J vs.length (over ys u m₀) news₁ → Fr h₀ env.locals h (over ys u m₀) → News h₀ env.locals h news₁ → Q .next { s with heap := h, toks := tk }) :
    wpAny (model prog w) A (pyIter (.ref l)) (fun it s₂ => TurnsAt prog w A h₀ env target body Q E it s₂) E s := by
  have hlt : l < s.heap.objs.size := let ⟨o, e, _⟩ := hls; Heap.lt_size e
  have hne : l ≠ s.heap.objs.size := Nat.ne_of_lt hlt
  have hsz : vs.toArray.size = vs.length := List.size_toArray ..
  have lt : ∀ p ∈ news, p.1 < s.heap.objs.size := fun p hp => Heap.lt_size (N p hp).1
  refine wpAny_pyIter_list hls (turns_core (s := { s with heap := s.heap.push _ }) ys J (hsz ▸ Walks.list hh s.heap.objs.size l hne vs.toArray) (fun i v s Q E st q => ht s v _ Q E i st.1 q) (next_is_new F) (fun hm => ?_) (fun p hp => Nat.ne_of_lt (lt p hp)) (fun b hb => ?_)
    ⟨⟨_, Heap.get?_push_size _ rfl, rfl, rfl⟩, hls.at fun o e => Heap.get?_push_of_some _ e⟩ (fun i h st => let ⟨o, e, _⟩ := st.1; ⟨o, e⟩) (F.push _) (fun p hp => ⟨Heap.get?_push_of_some _ (N p hp).1, (N p hp).2⟩) hj
    (fun i v ito h tk u news₁ _ hP hJ => turn i v _ ito h tk u news₁ (by simpa using hP) hJ lt) done)
  · rcases List.mem_cons.mp hm with e | hm
    · exact absurd F.ns.lt (e ▸ Nat.lt_irrefl _)
    · exact hL (List.mem_singleton.mp hm)
  · rcases List.mem_cons.mp hb with e | hb
    · exact .inl e
    · rw [List.mem_singleton.mp hb]; exact .inr hl
/-- a loop over a made list -/
theorem turns_over {l : Addr} {vs : List Value} {n : Nat} {m₀ : Str → Option Value} {news : Led} (ys : List Str) (J : Nat → (Str → Option Value) → Led → Prop)
    (hh : A.handled = none) (ht : ∀ (s : Shared) (v : Value) (I : Addr) (Q : Unit → Shared → Prop) (E : Value → Shared → Prop) (k : Nat), s.heap.IsListIter I l k → Q () s → wpAny (model prog w) A (letOwnedTupleGo target (.ref I) v) Q E s)
    (F : Fr h₀ env.locals s.heap m₀) (N : News h₀ env.locals s.heap news) (hl : (l, listOf vs.toArray n) ∈ news) (hj : J 0 m₀ news)
    (hJl : ∀ i m nn, J i m nn → (l, listOf vs.toArray n) ∈ nn)
    (turn : ∀ i v I ito h tk u news₁, vs[i]? = some v → J i (over ys u m₀) news₁ → (∀ p ∈ news, p.1 < I) → (∀ p ∈ news₁, p.1 ≠ I) → Fr h₀ env.locals h (over ys u m₀) → News h₀ env.locals h ((I, ito) :: news₁) →
      wpAny (model prog w) A (assign target env v) (fun _ s₃ => wpAny (model prog w) A (execs body env) (TurnPost h₀ env.locals I ito (fun m' nn => (∀ z, z ∉ ys → m' z = m₀ z) ∧ J (i + 1) m' nn) { s with heap := h, toks := tk } Q) E s₃) E { s with heap := h, toks := tk })
    (done : ∀ u news₁ h tk, J vs.length (over ys u m₀) news₁ → Fr h₀ env.locals h (over ys u m₀) → News h₀ env.locals h news₁ → Q .next { s with heap := h, toks := tk }) :
    wpAny (model prog w) A (pyIter (.ref l)) (fun it s₂ => TurnsAt prog w A h₀ env target body Q E it s₂) E s :=
  turns_any ys J hh ht F N (isList_of (N.get hl)) (fun e => (N _ hl).2.1 e.symm) (.inr ⟨_, hJl⟩) hj turn done
end
theorem over_off {ys : List Str} {u m : Str → Option Value} {z : Str} (h : z ∉ ys) : over ys u m z = m z := by
  induction ys with
  | nil => rfl
  | cons y r ih =>
    show (if z = y then u y else over r u m z) = m z
    rw [if_neg (fun e : z = y => h (by rw [e]; exact List.mem_cons_self)), ih fun hm => h (List.mem_cons_of_mem _ hm)]
theorem OtherAt.gsub {P : Params} {h g : Heap} {items : List Value} {a b : Addr} {lz : Str} {v : Value} {fp : Led} (x : OtherAt P h items a b lz v) (G : GSub h g (keys fp)) (hk : keys fp = [a, b]) : OtherAt P g items a b lz v := by
  obtain ⟨i, ti, x, dx, od, kind, name, uri, tu, loc, tl, value, cl, al, e1, e2, e3, e4, e5, e6, n1, n2, n3, n4⟩ := x
  exact ⟨i, ti, x, dx, od, kind, name, uri, tu, loc, tl, value, cl, al, e1, e2, G _ _ e3 (by rw [hk]; simp [n1, n2]), G _ _ e4 (by rw [hk]; simp [n3, n4]), e5, e6, n1, n2, n3, n4⟩
noncomputable abbrev kAttr : Str := Str.ofString "attribute"
section
theorem rows9 : True := by
  k_with_none
  k_with "ktr_enter" =>
    (refine enter_cells (by k_asm) (by k_asm) (by k_asm) (by k_asm) (by k_asm) (by exact rfl) (by exact rfl) (by assumption) (by k_is) (by k_is) (by ktr_room) (by exact BindsTo.of_eq rfl) (by exact rfl) (by decide +kernel) ?_ (by exact rfl) (by exact rfl) (by exact rfl); k_whole; intro g' L' h' tk' cells' FG' F' N' Y' B' X' T' l1 kG'; (try k_lt l1); k_cells Y'; (try dsimp only [List.cons_append, List.nil_append] at N'); (try dsimp only); (try k_fold))
  k_with "ktr_enter" =>
    (refine code_defG (by k_asm) (by k_asm) (by k_asm) (by k_asm) (by k_asm) (by exact rfl) (by exact rfl) (by assumption) (by k_is) (by k_is) (by ktr_room) (by exact BindsTo.of_eq rfl) (by exact locs rfl) ?_ (by exact rfl) (by exact rfl) (by exact rfl) (by decide); k_whole; intro g' L' h' FG' F' N' B' X' T' kG'; (try dsimp only); (try k_fold))
  k_with "k_ne" =>
    (refine neN ?_; (try dsimp only); with_reducible first | assumption | exact Ne.symm (by assumption) | exact Nat.ne_of_gt (by assumption) | exact Nat.ne_of_lt (by assumption) | exact Nat.ne_of_gt (Nat.lt_succ_of_lt (by assumption)) | exact Nat.ne_of_lt (Nat.lt_succ_of_lt (by assumption)))
  k_with "k_lt" =>
    (intro l1; replace l1 := allLt_of l1; (try dsimp only [AllLt] at l1); (repeat (with_reducible (have O8 := And.left l1; replace l1 := And.right l1))))
  k_with "my pick" =>
    (first | (refine Pick1.head ?_; k_extra "k_all") | exact Pick1.tail (by k_ne) (by k_extra "my pick"))
  k_with "my sub" =>
    (first | exact List.forall_mem_nil _ | (refine List.forall_mem_cons.mpr ⟨by k_mem, ?_⟩; k_extra "my sub"))
  k_with "k_room" =>
    ((try simp only [depth_under_make, depth_under_kw, depth_in1, depth_deeper, depth_caller]); (try dsimp only [ktrTop]); omega)
  k_with "my and" =>
    (first | assumption | exact And.intro (by k_ne) (by k_extra "my and") | k_ne)
  k_with "my conj" =>
    (intro l1; (repeat (with_reducible (have O8 := And.left l1; replace l1 := And.right l1))))
  k_with "my off" =>
    ((rename OffL _ _ => O9); (try dsimp only [OffL, Off1, keys, nodeLed, List.map] at O9); revert O9; k_extra "my conj2")
  k_with "CompRest" =>
    (with_unfolding_all first | (refine LCg.CompRest.succ ?_; intro v' I' oI' C' oC' D' m' h' tk' E' hv' hC' hx' F' N' off' ne'; (first | lcg_open hv' | (obtain ⟨t9', hv9'⟩ := hv'; subst hv9')); (try dsimp only [LCg.Off3] at off'); revert off'; k_extra "my conj2"; revert ne'; k_extra "my conj") | refine LCg.CompRest.zero ?_)
  k_with "FinE" =>
    ((unfold LCg.FinE); intro D' h' tk' F' N' o1'; (try dsimp only [LCg.Off1] at o1'); (try dsimp only [List.nil_append, List.cons_append] at N'); (try dsimp only); revert o1'; k_extra "my conj")
  k_with "FinA" =>
    ((unfold LCg.FinA); intro D' h' tk' F' N' o1'; (try dsimp only [LCg.Off1] at o1'); (try dsimp only [List.nil_append, List.cons_append] at N'); (try dsimp only); revert o1'; k_extra "my conj")
  k_with "k_all" =>
    (first | exact List.forall_mem_nil _ | exact Off1.all (by with_reducible assumption) | exact AllLt.ne (by with_reducible assumption) | exact List.forall_mem_cons.mpr ⟨by k_ne, by k_extra "k_all"⟩)
  k_with "my conj2" =>
    (intro l2; (repeat (with_reducible (have l1 := And.left l2; replace l2 := And.right l2; revert l1; k_extra "my conj"))))
  k_with "my same" =>
    (intro z9 hz9; first | rfl | (refine same_step hz9 (by k_mem) ?_; k_extra "my same2") | ((simp only [List.mem_cons, List.not_mem_nil, or_false, not_or] at hz9); first | rfl | (simp only [hz9, if_false, if_neg, over, not_false_eq_true]; done) | (simp [hz9, over]; done)))
  k_with "my same2" =>
    (first | rfl | (refine same_step (by assumption) (by k_mem) ?_; k_extra "my same2"))
  k_with "TurnPost" =>
    (dsimp only [TurnPost])
  k_with "my for" =>
    (k_here; (rename Fr _ _ _ _ => lF'); (with_unfolding_all refine For_turns lF' ?_ (hE := by first | passes_own | assumption); k_whole))
  k_with "execs cons" =>
    (refine wpAny_execs_cons ?_; (try k_fold))
  k_with "room" =>
    (first | exact room2 (by assumption) (by exact rfl) | exact room3 (by assumption) (by exact rfl) | exact room1 (by assumption) (by exact rfl) | exact room0 (by assumption) | exact room4 (by assumption) (by exact rfl))
  k_with "k_room" =>
    (k_extra "room")
  k_with "k_inst" =>
    (exact inst_base (by k_asm) (by assumption) (by assumption))
  k_with "k_handed" =>
    (assumption)
  k_with "exec For Name Attribute cons nil" =>
    (k_extra "my for")
  k_with "subscriptTail" =>
    (k_here; (with_reducible show wpAny _ _ (subscriptTail _ _ (Value.ref _) (Value.int _ _)) _ _ _); k_dflt (refine item_now (News.isList (by k_asm) (by k_mem)) (by omega) (by assumption) ?_))
  k_with "call ref" =>
    (k_here; (with_reducible show wpAny _ _ (call (Value.ref 337) [Value.ref _, Value.int _ _]) _ _ _); k_dflt (refine use_ct0 (element_row_m _ _ _ _ _ _ _ _ _ _ _ _ _ (by assumption) (by omega)) (by k_asm) (by k_asm) (by k_asm) (by k_asm) (by k_asm) (by first | exact rfl | assumption) (by exact ⟨⟨_, _, _, _, _, Fr.keep (by k_asm) _ _ (by assumption), Fr.keep (by k_asm) _ _ (by assumption), News.get (by k_asm) (by k_mem)⟩, _, _, Fr.keep (by k_asm) _ _ (by assumption), Fr.keep (by k_asm) _ _ (by assumption), ⟨_, _, _, _, _, _, _, _, _, _, _, _, rfl⟩⟩) (by ktr_room) (by ktr_units) ?_; intro h9 tk9 F9 N9; (try dsimp only); (try k_fold)))
  k_with "call ref" =>
    (k_here; (with_reducible show wpAny _ _ (call (Value.ref 281) [Value.ref _, _, _, _, _, _, _]) _ _ _); k_dflt (refine use_ct1p (by k_asm) (by k_asm) (by k_asm) (by k_asm) (by k_asm) (by first | exact rfl | assumption) (by k_extra "my pick") (by exact ⟨Fr.keep (by k_asm) _ _ (by assumption), Fr.keep (by k_asm) _ _ (by assumption)⟩) (new_row_m _ _ _ _ _ _ _ _ _ _ _ _ _ _ (by assumption) (by assumption) (by assumption) (by k_handed) (by k_handed) (by k_handed) (by k_handed) (by k_handed) (by k_handed)) (by ktr_room) (by ktr_units) ?_; intro r9 fp9 h9 tk9 F9 N9 O9 R9; obtain ⟨x9, dx9, cl9, al9, od9, t9, e9, f9, n9⟩ := R9; subst e9; subst f9; (have hi9 := item_more (y := Value.ref x9) (by assumption)); k_extra "my off"; (try dsimp only [List.cons_append, List.nil_append] at N9); (try dsimp only); (try k_fold)))
  trivial
theorem set_attribute_m (w : World) (t dt r al : Addr) (p : Nat) (items avs : List Value) (x dx cl : Addr) (k : Tok) (n1 n2 n4 : Nat) (tp tk tu tl : Tok) (aname : Value) (auri aloc : Str) (avalue : Value) (name uri loc value : Value) (od : Obj)
    (hx : items[p]? = some (.ref x)) (hz : items.length < 2 ^ 20) (hc : avs.length < 2 ^ 20) (hod : IsNode w.params od (.str kElem tk) name uri loc value cl al)
    (h2 : handedIn aname = true) (h5 : handedIn avalue = true)
    (d1 : t ≠ r) (d2 : t ≠ al) (d3 : dt ≠ r) (d4 : dt ≠ al) (d5 : x ≠ r) (d6 : x ≠ al) (d7 : dx ≠ r) (d8 : dx ≠ al) (d9 : r ≠ al) :
    Ct w 344 4 56 [.ref t, .int p tp, aname, .str auri tu, .str aloc tl, avalue] [(r, listOf items.toArray n2), (al, listOf avs.toArray n4)]
      (fun h => h.get? t = some (instObj 445 dt) ∧ h.get? dt = some (rowsObj w.params k r n1) ∧ h.get? x = some (instObj 256 dx) ∧ h.get? dx = some od ∧ ∀ v ∈ avs, OtherAt w.params h items r al aloc v)
      (fun v fp' => ∃ tka, AddR w.params r al items avs n2 n4 (.str kAttr tka) aname (.str auri tu) (.str aloc tl) avalue v fp') := by
  intro mean mg mb dp un gd cn cs ca ccd cl' outer A₀ base h₀ L m s Q E B F X N T hk hp hdp hun hret
  obtain ⟨e1, e2, e4, e5, e6⟩ := hp
  obtain ⟨k1, k2, k3, k4, k5, k6, k7, k8, k9, parent, nl, n, rfl⟩ := hod
  refine wpAny_call ?_
  k_dflt ktr_enter
  rename GSub _ _ _ => kG
  have g1 := kG _ _ e1 (by simp [d1, d2])
  have g2 := kG _ _ e2 (by simp [d3, d4])
  have g4 := kG _ _ e4 (by simp [d5, d6])
  have g5 := kG _ _ e5 (by simp [d7, d8])
  have d9' := neN d9
  have hh : handedIn (Value.str kElem tk) = true := rfl
  have hh1 : handedIn (Value.str auri tu) = true := rfl
  have hh2 : handedIn (Value.str aloc tl) = true := rfl
  have g6 : ∀ v ∈ avs, OtherAt w.params _ items r al aloc v := fun v hv => (e6 v hv).gsub kG rfl
  k_steps
  refine turns_over (l := al) (vs := avs) (n := n4) [Str.ofString "node", Str.ofString "known"] (fun _ _ nn => nn = [(r, listOf items.toArray n2), (al, listOf avs.toArray n4)]) rfl go_name (by assumption) (by assumption) (by k_mem) rfl (fun _ _ _ h => by rw [h]; k_mem) ?_ ?_
  · intro i v I ito h9 tk9 u9 nn9 hv9 hJ9 hlt9 hne9 F9 N9
    k_fold
    subst hJ9
    obtain ⟨i', ti', xa, dxa, oda, kinda, namea, uria, tua, loca, tla, valuea, cla, ala, rfl, ha2, ha3, ha4, ⟨ka1, ka2, ka3, ka4, ka5, ka6, ka7, ka8, ka9, parenta, nla, na, rfl⟩, hneq, _⟩ := g6 v (List.mem_of_getElem? hv9)
    dsimp only [over] at F9
    have hha1 : handedIn (Value.str uria tua) = true := rfl
    have hha2 : handedIn (Value.str loca tla) = true := rfl
    k_steps
    all_goals first
      | exact absurd (beq_iff_eq.mp (by assumption)) hneq
      | exact TurnEnd.intro (by assumption) (by assumption) (by k_mem) (by k_extra "my sub") hne9 ⟨by k_extra "my same", rfl⟩
  · intro u9 nn9 h9 tk9 hJ9 F9 N9
    subst hJ9
    dsimp only [over] at F9
    k_steps
    exact add_child_close (fun r fp' h' tk' a b c d e => hret r fp' h' tk' a b c d ⟨_, e⟩) (by assumption) (by assumption) kG (by assumption) (by assumption) (by assumption) (by k_extra "my and") (by k_extra "my sub")
end
/-- an attribute's node in a tree -/
inductive Tr.OtherAttr (T : Tr) (lz : Str) (v : Value) : Prop
  | mk (i : Nat) (ti : Tok) (e : Nd) (uri : Str) (tu : Tok) (loc : Str) (tl : Tok) (p1 : v = .int (i : Int) ti) (p2 : T.ns[i]? = some e) (p3 : e.uri = .str uri tu) (p4 : e.loc = .str loc tl) (p5 : loc ≠ lz) : Tr.OtherAttr T lz v
theorem nd_apart {P : Params} {T : Tr} {d e : Nd} (h : T.Ok P) (hd : d ∈ T.ns) (he : e ∈ T.ns) : e.x ≠ d.al ∧ e.dx ≠ d.al := by
  constructor
  · intro c
    have := led_fun h.nodup (Tr.mem_ns he Nd.at_x) (c ▸ Tr.mem_ns hd Nd.at_al)
    cases this
  · intro c
    obtain ⟨k1, k2, k3, k4, k5, k6, k7, k8, k9, parent, nl, n, e1⟩ := h.node e he
    have := led_fun h.nodup (Tr.mem_ns he Nd.at_dx) (c ▸ Tr.mem_ns hd Nd.at_al)
    rw [e1] at this
    have q : Value.type "dict" = Value.type "list" := congrArg Obj.cls this
    injection q with q
    exact absurd q (by decide)
theorem set_attribute_t (w : World) (T : Tr) (p : Nat) (tp tk tu tl : Tok) (d : Nd) (aname : Value) (auri aloc : Str) (avalue : Value) (hok : T.Ok w.params) (hd : T.ns[p]? = some d) (hk : d.kind = .str kElem tk) (hz : T.ns.length < 2 ^ 20)
    (h2 : handedIn aname = true) (h5 : handedIn avalue = true) (ho : ∀ v ∈ d.avs, T.OtherAttr aloc v) :
    Ct w 344 4 56 [.ref T.t, .int p tp, aname, .str auri tu, .str aloc tl, avalue] (T.led w.params) (fun _ => True) (fun v fp' => ∃ kind, (∃ tka, kind = .str kAttr tka) ∧ GrownR w.params T p Nd.att kind aname (.str auri tu) (.str aloc tl) avalue v fp') := by
  have hm := List.mem_of_getElem? hd
  obtain ⟨a1, a2, a3, a4, a5⟩ := hok.apart hm
  have b1 := a4 d.x (by simp [Nd.led, keys])
  have b2 := a4 d.dx (by simp [Nd.led, keys])
  have b3 := a4 d.al (by simp [Nd.led, keys])
  have b5 : [d.x, d.dx, d.cl, d.al].Nodup := a5
  simp only [List.nodup_cons, List.mem_cons, List.not_mem_nil, or_false, not_or] at b5
  have kk := (hok.kids d hm).2
  refine grow_t Nd.att (set_attribute_m w T.t T.dt T.r d.al p T.items d.avs d.x d.dx d.cl T.k T.n1 T.n2 d.n4 tp tk tu tl aname auri aloc avalue d.name d.uri d.loc d.value d.od
    (by simp [Tr.items, hd]) (by rw [Tr.len_items]; omega) (by omega) (hk ▸ hok.node d hm) h2 h5 a2 b3.1 a3 b3.2.1 (Ne.symm b1.2.2) b5.1.2.2 (Ne.symm b2.2.2) b5.2.1.2 b3.2.2) hok hd
    (fun N _ => ⟨N.get Tr.at_t, N.get Tr.at_dt, N.get (Tr.mem_ns hm Nd.at_x), N.get (Tr.mem_ns hm Nd.at_dx), fun v hv => ?_⟩) (fun v fp' ⟨tka, h⟩ => ⟨_, ⟨tka, rfl⟩, h⟩) Nd.at_al (fun _ _ => Nd.at_al) (fun _ _ => Nd.att_part) (fun _ _ => Nd.att_same) fun _ _ d => by simp [Nd.att]
  obtain ⟨i, ti, e, uri, tu', loc, tl', rfl, he, hu, hlo, hne⟩ := ho v hv
  have hme := List.mem_of_getElem? he
  have q := (hok.apart hme).2.2.2.1
  have ap := nd_apart hok hm hme
  exact ⟨i, ti, e.x, e.dx, e.od, e.kind, e.name, uri, tu', loc, tl', e.value, e.cl, e.al, rfl, by simp [Tr.items, he], N.get (Tr.mem_ns hme Nd.at_x), N.get (Tr.mem_ns hme Nd.at_dx), by rw [← hu, ← hlo]; exact hok.node e hme, hne,
    Ne.symm (q e.x (by simp [Nd.led, keys])).2.2, ap.1, Ne.symm (q e.dx (by simp [Nd.led, keys])).2.2, ap.2⟩

/-- the front of a ledger lies apart from its tail -/
noncomputable def OffFr (front Z : Led) : Prop := ∀ q ∈ front, ∀ p ∈ Z, @Ne Nat p.1 q.1
theorem OffFr.all {front Z : Led} {a : Addr} {o : Obj} (h : OffFr front Z) (hm : (a, o) ∈ front) : ∀ p ∈ Z, p.1 ≠ a := fun p hp => h _ hm p hp
noncomputable def Apart (X Y : Led) : Prop := ∀ p ∈ X, ∀ q ∈ Y, @Ne Nat p.1 q.1
theorem apart_nil {X : Led} : Apart X [] := fun _ _ _ h => nomatch h
inductive Front (Z : Led) : Led → Led → Prop
  | nil : Front Z Z []
  | cons {a o n f} : (∀ p ∈ Z, p.1 ≠ a) → Front Z n f → Front Z ((a, o) :: n) ((a, o) :: f)
theorem Front.eq {Z n f : Led} (h : Front Z n f) : n = f ++ Z := by
  induction h with
  | nil => rfl
  | cons _ _ ih => rw [ih]; rfl
theorem Front.off {Z n f : Led} (h : Front Z n f) : OffFr f Z := by
  induction h with
  | nil => exact fun _ h => nomatch h
  | cons h0 _ ih =>
    intro q hq p hp
    rcases List.mem_cons.mp hq with rfl | hq
    · exact h0 p hp
    · exact ih q hq p hp
theorem use_ctT {w : World} {f : Addr} {d u : Nat} {args : List Value} {X Y front news : Led} {Pre : Heap → Prop} {R : Value → Led → Prop} (C : Ct w f d u args X Pre R)
    {mean : ExcName → Option Value} {mg mb : Str → Option Value} {dp un : Nat} {gd : Option (List Code)} {cn : Str} {cs : Scope} {a : Addr} {ccd : Value} {cl : List (Str × Addr)} {outer : List Env} {A₀ : Around} {base h₀ : Heap} {L : Addr} {m : Str → Option Value} {s : Shared} {Q E : Value → Shared → Prop}
    (B : Below A₀ base outer h₀) (F : Fr h₀ L s.heap m) (XK : (hd.heap_1 w.params).In h₀) (N : News h₀ L s.heap news) (T : Top Vw (looseW Vw []) mean mg mb h₀) (hk : cs.kind = .function)
    (P : Front (X ++ Y) news front) (hY : Apart X Y) (hpre : Pre s.heap) (hd : dp + d < recursionLimit) (hu : un + u < cLine)
    (k : ∀ r X' h' tk', Fr h₀ L h' m → News h₀ L h' (front ++ (X' ++ Y)) → OffFr front (X' ++ Y) → Apart X' Y → R r X' → Q r { s with heap := h', toks := tk' }) :
    wpAny (model PR w) (ktrTop dp un gd cn cs L a ccd cl outer) (call (.ref f) args) Q E s := by
  have O := P.off
  have e := P.eq
  subst e
  refine use_ct C B F XK N T hk (rest := front ++ Y) (fun p hp => List.mem_append_right _ (List.mem_append_left _ hp)) (fun p hp => ?_) hpre hd hu fun r fp' h' tk' F' N' O' G fr hR => ?_
  · rcases List.mem_append.mp hp with hp | hp
    · refine ⟨List.mem_append_left _ hp, fun hx => ?_⟩
      obtain ⟨q, hq, e⟩ := List.mem_map.mp hx
      exact O p hp q (List.mem_append_left _ hq) e
    · refine ⟨List.mem_append_right _ (List.mem_append_right _ hp), fun hx => ?_⟩
      obtain ⟨q, hq, e⟩ := List.mem_map.mp hx
      exact hY q hq p hp e
  · have hap : ∀ q ∈ front ++ Y, ∀ p ∈ fp', @Ne Nat p.1 q.1 := fun q hq p hp e => by
      rcases fr p hp with h | h
      · obtain ⟨z, hz, ez⟩ := List.mem_map.mp h
        rcases List.mem_append.mp hq with hq | hq
        · exact O q hq z (List.mem_append_left _ hz) (ez.trans e)
        · exact hY z hz q hq (ez.trans e)
      · have hq' : q ∈ front ++ (X ++ Y) := (List.mem_append.mp hq).elim (fun h => List.mem_append_left _ h) fun h => List.mem_append_right _ (List.mem_append_right _ h)
        have h1 := (N q hq').1
        have h2 : s.heap.get? q.1 = none := by rw [← show p.1 = q.1 from e]; exact h
        rw [h2] at h1; cases h1
    refine k r fp' h' tk' F' (fun p hp => ?_) (fun q hq p hp => ?_) (fun p hp q hq => hap q (List.mem_append_right _ hq) p hp) hR
    · rcases List.mem_append.mp hp with hp | hp
      · exact N' p (List.mem_append_right _ (List.mem_append_left _ hp))
      · rcases List.mem_append.mp hp with hp | hp
        · exact N' p (List.mem_append_left _ hp)
        · exact N' p (List.mem_append_right _ (List.mem_append_right _ hp))
    · rcases List.mem_append.mp hp with hp | hp
      · exact hap q (List.mem_append_left _ hq) p hp
      · exact O q hq p (List.mem_append_right _ hp)
theorem inst_tr {w : World} {T : Tr} {h₀ h : Heap} {L : Addr} {news : Led} (N : News h₀ L h news) (hs : ∀ p ∈ T.led w.params, p ∈ news) : W.InstAt h T.t (instObj 445 T.dt) 445 (some (rowsObj w.params T.k T.r T.n1)) :=
  ⟨(N _ (hs _ Tr.at_t)).1, rfl, rfl, (N _ (hs _ Tr.at_dt)).1⟩
section
theorem rows10 : True := by
  k_with_none
  k_with "ktr_enter" =>
    (refine enter_cells (by k_asm) (by k_asm) (by k_asm) (by k_asm) (by k_asm) (by exact rfl) (by exact rfl) (by assumption) (by k_is) (by k_is) (by ktr_room) (by exact BindsTo.of_eq rfl) (by exact rfl) (by decide +kernel) ?_ (by exact rfl) (by exact rfl) (by exact rfl); k_whole; intro g' L' h' tk' cells' FG' F' N' Y' B' X' T' l1 kG'; (try k_lt l1); k_cells Y'; (try dsimp only [List.cons_append, List.nil_append] at N'); (try dsimp only); (try k_fold))
  k_with "ktr_enter" =>
    (refine code_defG (by k_asm) (by k_asm) (by k_asm) (by k_asm) (by k_asm) (by exact rfl) (by exact rfl) (by assumption) (by k_is) (by k_is) (by ktr_room) (by exact BindsTo.of_eq rfl) (by exact locs rfl) ?_ (by exact rfl) (by exact rfl) (by exact rfl) (by decide); k_whole; intro g' L' h' FG' F' N' B' X' T' kG'; (try dsimp only); (try k_fold))
  k_with "k_ne" =>
    (refine neN ?_; (try dsimp only); with_reducible first | assumption | exact Ne.symm (by assumption) | exact Nat.ne_of_gt (by assumption) | exact Nat.ne_of_lt (by assumption) | exact Nat.ne_of_gt (Nat.lt_succ_of_lt (by assumption)) | exact Nat.ne_of_lt (Nat.lt_succ_of_lt (by assumption)))
  k_with "k_lt" =>
    (intro l1; replace l1 := allLt_of l1; (try dsimp only [AllLt] at l1); (repeat (with_reducible (have O8 := And.left l1; replace l1 := And.right l1))))
  k_with "my pick" =>
    (first | (refine Pick1.head ?_; k_extra "k_all") | exact Pick1.tail (by k_ne) (by k_extra "my pick"))
  k_with "my sub" =>
    (first | exact List.forall_mem_nil _ | (refine List.forall_mem_cons.mpr ⟨by k_mem, ?_⟩; k_extra "my sub"))
  k_with "k_room" =>
    ((try simp only [depth_under_make, depth_under_kw, depth_in1, depth_deeper, depth_caller]); (try dsimp only [ktrTop]); omega)
  k_with "my and" =>
    (first | assumption | exact And.intro (by k_ne) (by k_extra "my and") | k_ne)
  k_with "my conj" =>
    (intro l1; (repeat (with_reducible (have O8 := And.left l1; replace l1 := And.right l1))))
  k_with "my off" =>
    ((rename OffL _ _ => O9); (try dsimp only [OffL, Off1, keys, nodeLed, List.map] at O9); revert O9; k_extra "my conj2")
  k_with "CompRest" =>
    (with_unfolding_all first | (refine LCg.CompRest.succ ?_; intro v' I' oI' C' oC' D' m' h' tk' E' hv' hC' hx' F' N' off' ne'; (first | lcg_open hv' | (obtain ⟨t9', hv9'⟩ := hv'; subst hv9')); (try dsimp only [LCg.Off3] at off'); revert off'; k_extra "my conj2"; revert ne'; k_extra "my conj") | refine LCg.CompRest.zero ?_)
  k_with "FinE" =>
    ((unfold LCg.FinE); intro D' h' tk' F' N' o1'; (try dsimp only [LCg.Off1] at o1'); (try dsimp only [List.nil_append, List.cons_append] at N'); (try dsimp only); revert o1'; k_extra "my conj")
  k_with "FinA" =>
    ((unfold LCg.FinA); intro D' h' tk' F' N' o1'; (try dsimp only [LCg.Off1] at o1'); (try dsimp only [List.nil_append, List.cons_append] at N'); (try dsimp only); revert o1'; k_extra "my conj")
  k_with "k_all" =>
    (first | exact List.forall_mem_nil _ | exact Off1.all (by with_reducible assumption) | exact AllLt.ne (by with_reducible assumption) | exact List.forall_mem_cons.mpr ⟨by k_ne, by k_extra "k_all"⟩)
  k_with "my conj2" =>
    (intro l2; (repeat (with_reducible (have l1 := And.left l2; replace l2 := And.right l2; revert l1; k_extra "my conj"))))
  k_with "my same" =>
    (intro z9 hz9; first | rfl | (refine same_step hz9 (by k_mem) ?_; k_extra "my same2") | ((simp only [List.mem_cons, List.not_mem_nil, or_false, not_or] at hz9); first | rfl | (simp only [hz9, if_false, if_neg, over, not_false_eq_true]; done) | (simp [hz9, over]; done)))
  k_with "my same2" =>
    (first | rfl | (refine same_step (by assumption) (by k_mem) ?_; k_extra "my same2"))
  k_with "TurnPost" =>
    (dsimp only [TurnPost])
  k_with "my for" =>
    (k_here; (rename Fr _ _ _ _ => lF'); (with_unfolding_all refine For_turns lF' ?_ (hE := by first | passes_own | assumption); k_whole))
  k_with "execs cons" =>
    (refine wpAny_execs_cons ?_; (try k_fold))
  k_with "room" =>
    (first | exact room2 (by assumption) (by exact rfl) | exact room3 (by assumption) (by exact rfl) | exact room1 (by assumption) (by exact rfl) | exact room0 (by assumption) | exact room4 (by assumption) (by exact rfl))
  k_with "k_room" =>
    (k_extra "room")
  k_with "my tail" =>
    (first | exact fun _ hp => hp | (intro p9 hp9; first | exact hp9 | exact List.mem_append_left _ hp9 | (refine List.mem_cons_of_mem _ ?_; revert p9; k_extra "my tail")))
  k_with "k_inst" =>
    (exact inst_tr (by k_asm) (by k_extra "my tail"))
  k_with "k_handed" =>
    (assumption)
  k_with "call ref" =>
    (k_here; (with_reducible show wpAny _ _ (call (Value.ref 302) _) _ _ _); k_dflt (refine use_ct (rest := []) (add_child_t _ _ _ _ _ _ _ _ _ _ (by assumption) (by assumption) (by assumption) (by assumption) (by k_handed) (by k_handed) (by k_handed) (by k_handed) (by k_handed)) (by k_asm) (by k_asm) (by k_asm) (by k_asm) (by k_asm) (by first | exact rfl | assumption) (by exact fun _ h => h) (by exact fun _ h => nomatch h) trivial (by ktr_room) (by ktr_units) ?_; intro r9 fp9 h9 tk9 F9 N9 O9 G9 fr9 R9; obtain ⟨x9, dx9, cl9, al9, od9, t9, t8, e9, f9, ok9⟩ := R9; subst e9; subst f9; (try dsimp only); (try k_fold)))
  trivial
theorem add_element_t (w : World) (T : Tr) (p : Nat) (tp : Tok) (d : Nd) (name uri loc : Value) (hok : T.Ok w.params) (hd : T.ns[p]? = some d) (hp : IsParent d.kind) (hz : T.ns.length < 2 ^ 20)
    (h2 : handedIn name = true) (h3 : handedIn uri = true) (h4 : handedIn loc = true) :
    Ct w 309 5 64 [.ref T.t, .int p tp, name, uri, loc] (T.led w.params) (fun _ => True) (fun v fp' => ∃ ta te, GrownR w.params T p Nd.kid (.str kElem ta) name uri loc (.str (Str.ofString "") te) v fp') := by
  intro mean mg mb dp un gd cn cs ca ccd cl' outer A₀ base h₀ L m s Q E B F X N T' hk _ hdp hun hret
  refine wpAny_call ?_
  k_dflt ktr_enter
  rename GSub _ _ _ => kG
  k_steps
  exact back_close2 hret (by assumption) (by assumption) kG (by assumption) (by assumption) _ (fun p hp => List.mem_append_left _ hp) ⟨_, _, _, _, _, _, _, _, _, rfl, rfl, by assumption⟩
noncomputable abbrev kText : Str := Str.ofString "text"
theorem add_text_t (w : World) (T : Tr) (p : Nat) (tp : Tok) (d : Nd) (value : Value) (hok : T.Ok w.params) (hd : T.ns[p]? = some d) (hp : IsParent d.kind) (hz : T.ns.length < 2 ^ 20) (h2 : handedIn value = true) :
    Ct w 316 5 64 [.ref T.t, .int p tp, value] (T.led w.params) (fun _ => True) (fun v fp' => ∃ ta te tu tl, GrownR w.params T p Nd.kid (.str kText ta) (.str (Str.ofString "") te) (.str (Str.ofString "") tu) (.str (Str.ofString "") tl) value v fp') := by
  intro mean mg mb dp un gd cn cs ca ccd cl' outer A₀ base h₀ L m s Q E B F X N T' hk _ hdp hun hret
  refine wpAny_call ?_
  k_dflt ktr_enter
  rename GSub _ _ _ => kG
  k_steps
  exact back_close2 hret (by assumption) (by assumption) kG (by assumption) (by assumption) _ (fun p hp => List.mem_append_left _ hp) ⟨_, _, _, _, _, _, _, _, _, _, _, rfl, rfl, by assumption⟩
end
/-- the tree with its root alone -/
inductive RootR (P : Params) (t dt r : Addr) (v : Value) (fp' : Led) : Prop
  | mk (T : Tr) (d : Nd) (tk tk2 : Tok) (p1 : v = .int 0 tk) (p2 : fp' = T.led P) (p3 : T.Ok P) (p4 : T.t = t) (p5 : T.ns = [d]) (p6 : d.kind = .str kRoot tk2) (p7 : d.cvs = []) (p8 : d.avs = []) (p9 : ∃ t1 t2 t3 t4, d.name = .str (Str.ofString "") t1 ∧ d.uri = .str (Str.ofString "") t2 ∧ d.loc = .str (Str.ofString "") t3 ∧ d.value = .str (Str.ofString "") t4) : RootR P t dt r v fp'
section
theorem rows11 : True := by
  k_with_none
  k_with "ktr_enter" =>
    (refine enter_cells (by k_asm) (by k_asm) (by k_asm) (by k_asm) (by k_asm) (by exact rfl) (by exact rfl) (by assumption) (by k_is) (by k_is) (by ktr_room) (by exact BindsTo.of_eq rfl) (by exact rfl) (by decide +kernel) ?_ (by exact rfl) (by exact rfl) (by exact rfl); k_whole; intro g' L' h' tk' cells' FG' F' N' Y' B' X' T' l1 kG'; (try k_lt l1); k_cells Y'; (try dsimp only [List.cons_append, List.nil_append] at N'); (try dsimp only); (try k_fold))
  k_with "ktr_enter" =>
    (refine code_defG (by k_asm) (by k_asm) (by k_asm) (by k_asm) (by k_asm) (by exact rfl) (by exact rfl) (by assumption) (by k_is) (by k_is) (by ktr_room) (by exact BindsTo.of_eq rfl) (by exact locs rfl) ?_ (by exact rfl) (by exact rfl) (by exact rfl) (by decide); k_whole; intro g' L' h' FG' F' N' B' X' T' kG'; (try dsimp only); (try k_fold))
  k_with "k_ne" =>
    (refine neN ?_; (try dsimp only); with_reducible first | assumption | exact Ne.symm (by assumption) | exact Nat.ne_of_gt (by assumption) | exact Nat.ne_of_lt (by assumption) | exact Nat.ne_of_gt (Nat.lt_succ_of_lt (by assumption)) | exact Nat.ne_of_lt (Nat.lt_succ_of_lt (by assumption)))
  k_with "k_lt" =>
    (intro l1; replace l1 := allLt_of l1; (try dsimp only [AllLt] at l1); (repeat (with_reducible (have O8 := And.left l1; replace l1 := And.right l1))))
  k_with "my pick" =>
    (first | (refine Pick1.head ?_; k_extra "k_all") | exact Pick1.tail (by k_ne) (by k_extra "my pick"))
  k_with "my sub" =>
    (first | exact List.forall_mem_nil _ | (refine List.forall_mem_cons.mpr ⟨by k_mem, ?_⟩; k_extra "my sub"))
  k_with "k_room" =>
    ((try simp only [depth_under_make, depth_under_kw, depth_in1, depth_deeper, depth_caller]); (try dsimp only [ktrTop]); omega)
  k_with "my and" =>
    (first | assumption | exact And.intro (by k_ne) (by k_extra "my and") | k_ne)
  k_with "my conj" =>
    (intro l1; (repeat (with_reducible (have O8 := And.left l1; replace l1 := And.right l1))))
  k_with "my off" =>
    ((rename OffL _ _ => O9); (try dsimp only [OffL, Off1, keys, nodeLed, List.map] at O9); revert O9; k_extra "my conj2")
  k_with "CompRest" =>
    (with_unfolding_all first | (refine LCg.CompRest.succ ?_; intro v' I' oI' C' oC' D' m' h' tk' E' hv' hC' hx' F' N' off' ne'; (first | lcg_open hv' | (obtain ⟨t9', hv9'⟩ := hv'; subst hv9')); (try dsimp only [LCg.Off3] at off'); revert off'; k_extra "my conj2"; revert ne'; k_extra "my conj") | refine LCg.CompRest.zero ?_)
  k_with "FinE" =>
    ((unfold LCg.FinE); intro D' h' tk' F' N' o1'; (try dsimp only [LCg.Off1] at o1'); (try dsimp only [List.nil_append, List.cons_append] at N'); (try dsimp only); revert o1'; k_extra "my conj")
  k_with "FinA" =>
    ((unfold LCg.FinA); intro D' h' tk' F' N' o1'; (try dsimp only [LCg.Off1] at o1'); (try dsimp only [List.nil_append, List.cons_append] at N'); (try dsimp only); revert o1'; k_extra "my conj")
  k_with "k_all" =>
    (first | exact List.forall_mem_nil _ | exact Off1.all (by with_reducible assumption) | exact AllLt.ne (by with_reducible assumption) | exact List.forall_mem_cons.mpr ⟨by k_ne, by k_extra "k_all"⟩)
  k_with "my conj2" =>
    (intro l2; (repeat (with_reducible (have l1 := And.left l2; replace l2 := And.right l2; revert l1; k_extra "my conj"))))
  k_with "my same" =>
    (intro z9 hz9; first | rfl | (refine same_step hz9 (by k_mem) ?_; k_extra "my same2") | ((simp only [List.mem_cons, List.not_mem_nil, or_false, not_or] at hz9); first | rfl | (simp only [hz9, if_false, if_neg, over, not_false_eq_true]; done) | (simp [hz9, over]; done)))
  k_with "my same2" =>
    (first | rfl | (refine same_step (by assumption) (by k_mem) ?_; k_extra "my same2"))
  k_with "TurnPost" =>
    (dsimp only [TurnPost])
  k_with "my for" =>
    (k_here; (rename Fr _ _ _ _ => lF'); (with_unfolding_all refine For_turns lF' ?_ (hE := by first | passes_own | assumption); k_whole))
  k_with "execs cons" =>
    (refine wpAny_execs_cons ?_; (try k_fold))
  k_with "room" =>
    (first | exact room2 (by assumption) (by exact rfl) | exact room3 (by assumption) (by exact rfl) | exact room1 (by assumption) (by exact rfl) | exact room0 (by assumption) | exact room4 (by assumption) (by exact rfl))
  k_with "k_room" =>
    (k_extra "room")
  k_with "my tail" =>
    (first | exact fun _ hp => hp | (intro p9 hp9; first | exact hp9 | exact List.mem_append_left _ hp9 | (refine List.mem_cons_of_mem _ ?_; revert p9; k_extra "my tail")))
  k_with "k_inst" =>
    (exact inst_base (by k_asm) (by assumption) (by assumption))
  k_with "k_inst" =>
    (refine ⟨(News.get (by k_asm) (by k_mem)), rfl, rfl, (News.get (by k_asm) (by k_mem))⟩)
  k_with "k_handed" =>
    (exact rfl)
  k_with "call ref" =>
    (k_here; (with_reducible show wpAny _ _ (call (Value.ref 281) [Value.ref _, _, _, _, _, _, _]) _ _ _); k_dflt (refine use_ct1p (by k_asm) (by k_asm) (by k_asm) (by k_asm) (by k_asm) (by exact rfl) (by k_extra "my pick") (by exact ⟨Fr.keep (by k_asm) _ _ (by assumption), Fr.keep (by k_asm) _ _ (by assumption)⟩) (new_row_m _ _ _ _ [] _ _ _ _ _ _ _ _ _ (by decide) (by assumption) (by assumption) rfl rfl rfl rfl rfl rfl) (by ktr_room) (by ktr_units) ?_); intro r9 fp9 h9 tk9 F9 N9 O9 R9; obtain ⟨x9, dx9, cl9, al9, od9, t9, e9, f9, n9⟩ := R9; subst e9; subst f9; clear O9; (try dsimp only [List.cons_append, List.nil_append] at N9); (try dsimp only); (try k_fold))
  trivial
theorem new_root_m (w : World) (t dt r : Addr) (k : Tok) (n1 n2 : Nat) (d1 : t ≠ r) (d3 : dt ≠ r) :
    Ct w 295 4 48 [.ref t] [(r, listOf #[] n2)] (fun h => h.get? t = some (instObj 445 dt) ∧ h.get? dt = some (rowsObj w.params k r n1)) (fun v fp' => ∃ tk t1 t2 t3 t4, NewRowR w.params r [] n2 (.str kRoot tk) (.str (Str.ofString "") t1) (.str (Str.ofString "") t2) (.str (Str.ofString "") t3) (.str (Str.ofString "") t4) v fp') := by
  intro mean mg mb dp un gd cn cs ca ccd cl' outer A₀ base h₀ L m s Q E B F X N T' hk hp hdp hun hret
  obtain ⟨e1, e2⟩ := hp
  refine wpAny_call ?_
  k_dflt ktr_enter
  rename GSub _ _ _ => kG
  have g1 := kG _ _ e1 (by simpa [keys] using d1)
  have g2 := kG _ _ e2 (by simpa [keys] using d3)
  k_steps
  exact back_close2 hret (by assumption) (by assumption) kG (by assumption) (by assumption) _ (fun _ hp => hp) ⟨_, _, _, _, _, .mk _ _ _ _ _ _ rfl rfl (by assumption)⟩
end
theorem new_root_t (w : World) (t dt r : Addr) (k : Tok) (n1 n2 : Nat) (d1 : t ≠ dt) (d2 : t ≠ r) (d3 : dt ≠ r) :
    Ct w 295 4 48 [.ref t] [(t, instObj 445 dt), (dt, rowsObj w.params k r n1), (r, listOf #[] n2)] (fun _ => True) (RootR w.params t dt r) := by
  refine ct_frame (rest := [(t, instObj 445 dt), (dt, rowsObj w.params k r n1)]) (new_root_m w t dt r k n1 n2 d2 d3) (fun p hp => .tail _ (.tail _ hp)) (fun p hp => ?_) (fun N _ => ⟨N.get (.head _), N.get (.tail _ (.head _))⟩) (fun v fp' hr ap fr => ?_)
  · rcases List.mem_cons.mp hp with rfl | hp
    · exact ⟨.head _, fun h => d2 (List.mem_singleton.mp h)⟩
    · rw [List.mem_singleton.mp hp]
      exact ⟨.tail _ (.head _), fun h => d3 (List.mem_singleton.mp h)⟩
  · obtain ⟨tk, t1, t2, t3, t4, x, dx, cl, al, od, t0, rfl, rfl, nw⟩ := hr
    have a1 := ap _ (.head _)
    have a2 := ap _ (.tail _ (.head _))
    obtain ⟨o1, o2, o3, o4⟩ := nw.off r (.head _)
    have nd := nw.nodup
    refine ⟨(t, instObj 445 dt) :: (dt, rowsObj w.params k r n1) :: (r, listOf #[Value.ref x] (n2 + 1)) :: nodeLed x dx cl al od [] [] 0 0, fun p hp => ?_,
      ⟨⟨t, dt, r, k, n1, n2 + 1, [.new x dx cl al od (.str kRoot tk) (.str (Str.ofString "") t1) (.str (Str.ofString "") t2) (.str (Str.ofString "") t3) (.str (Str.ofString "") t4)]⟩, _, t0, tk, rfl, rfl, ⟨?_, fun d hd => ?_, fun d hd => ?_⟩, rfl, rfl, rfl, rfl, rfl, ⟨t1, t2, t3, t4, rfl, rfl, rfl, rfl⟩⟩⟩
    · rcases List.mem_cons.mp hp with rfl | hp
      · exact .inr (.head _)
      rcases List.mem_cons.mp hp with rfl | hp
      · exact .inr (.tail _ (.head _))
      · exact .inl hp
    · show ([t, dt, r, x, dx, cl, al] : List Nat).Nodup
      have b1 : ∀ q ∈ [r, x, dx, cl, al], t ≠ q := fun q hq => by
        rcases List.mem_cons.mp hq with rfl | hq
        · exact d2
        · obtain ⟨p, hp, rfl⟩ := List.mem_map.mp (show q ∈ (nodeLed x dx cl al od [] [] 0 0).map (·.1) from hq)
          exact a1 p (.tail _ hp)
      have b2 : ∀ q ∈ [r, x, dx, cl, al], dt ≠ q := fun q hq => by
        rcases List.mem_cons.mp hq with rfl | hq
        · exact d3
        · obtain ⟨p, hp, rfl⟩ := List.mem_map.mp (show q ∈ (nodeLed x dx cl al od [] [] 0 0).map (·.1) from hq)
          exact a2 p (.tail _ hp)
      have b3 : r ∉ [x, dx, cl, al] := fun h => by
        rcases List.mem_cons.mp h with e | h
        · exact o1 e
        rcases List.mem_cons.mp h with e | h
        · exact o2 e
        rcases List.mem_cons.mp h with e | h
        · exact o3 e
        · exact o4 (List.mem_singleton.mp h)
      refine List.nodup_cons.mpr ⟨fun h => ?_, List.nodup_cons.mpr ⟨fun h => b2 _ h rfl, List.nodup_cons.mpr ⟨b3, nd⟩⟩⟩
      rcases List.mem_cons.mp h with e | h
      · exact d1 e
      · exact b1 _ h rfl
    · rw [List.mem_singleton.mp hd]; exact nw.node
    · rw [List.mem_singleton.mp hd]; exact ⟨Nat.zero_le _, Nat.zero_le _⟩

/-- ints as they lie -/
noncomputable def nv (l : List (Nat × Tok)) : List Value := l.map fun p => .int (p.1 : Int) p.2
/-- what a node says -/
structure PN where
  kind : Str
  name : Str
  loc : Str
  value : Str
  kids : List Nat
  atts : List Nat
structure Nd.Is (d : Nd) (q : PN) : Prop where
  kind : ∃ t, d.kind = .str q.kind t
  name : ∃ t, d.name = .str q.name t
  uri : ∃ x t, d.uri = .str x t
  loc : ∃ t, d.loc = .str q.loc t
  value : ∃ t, d.value = .str q.value t
  kids : ∃ l, d.cvs = nv l ∧ l.map (·.1) = q.kids
  atts : ∃ l, d.avs = nv l ∧ l.map (·.1) = q.atts
noncomputable def Tr.Is (T : Tr) (pt : List PN) : Prop := T.ns.length = pt.length ∧ ∀ (i : Nat) (d : Nd), T.ns[i]? = some d → ∃ q, pt[i]? = some q ∧ d.Is q
noncomputable def PN.kid (z : Nat) (q : PN) : PN := { q with kids := q.kids ++ [z] }
noncomputable def PN.att (z : Nat) (q : PN) : PN := { q with atts := q.atts ++ [z] }
theorem Tr.Is.at {T : Tr} {pt : List PN} (h : T.Is pt) {i : Nat} {q : PN} (e : pt[i]? = some q) : ∃ d, T.ns[i]? = some d ∧ d.Is q := by
  have hlt : i < T.ns.length := by rw [h.1]; exact (List.getElem?_eq_some_iff.mp e).1
  obtain ⟨q', e', hq⟩ := h.2 i _ (List.getElem?_eq_getElem hlt)
  rw [e] at e'; cases e'
  exact ⟨_, List.getElem?_eq_getElem hlt, hq⟩
theorem get_grow {α : Type} {l : List α} {p : Nat} {f : α → α} {c x : α} {i : Nat} (h : (l.modify p f ++ [c])[i]? = some x) : (i < l.length ∧ ∃ y, l[i]? = some y ∧ x = if p = i then f y else y) ∨ (i = l.length ∧ x = c) := by
  have hz : (l.modify p f).length = l.length := List.length_modify ..
  by_cases hi : i < l.length
  · left
    rw [List.getElem?_append_left (by omega), List.getElem?_modify] at h
    rw [List.getElem?_eq_getElem hi] at h ⊢
    simp only [Option.map_eq_map, Option.map_some, Option.some.injEq] at h
    refine ⟨hi, _, rfl, ?_⟩
    rw [← h]
  · right
    rw [List.getElem?_append_right (by omega), hz] at h
    by_cases e : i = l.length
    · subst e; simp at h; exact ⟨rfl, h.symm⟩
    · rw [List.getElem?_eq_none (by simp; omega)] at h; cases h
theorem grow_get {α : Type} {l : List α} {p : Nat} {f : α → α} {c y : α} {i : Nat} (h : l[i]? = some y) : (l.modify p f ++ [c])[i]? = some (if p = i then f y else y) := by
  have hi := (List.getElem?_eq_some_iff.mp h).1
  rw [List.getElem?_append_left (by rw [List.length_modify]; exact hi), List.getElem?_modify, h]
  rfl
theorem grow_last {α : Type} {l : List α} {p : Nat} {f : α → α} {c : α} : (l.modify p f ++ [c])[l.length]? = some c := by
  rw [List.getElem?_append_right (by rw [List.length_modify]; exact Nat.le_refl _), List.length_modify, Nat.sub_self]; rfl
theorem Tr.Is.grow {T : Tr} {pt : List PN} (h : T.Is pt) {p : Nat} {f : Nd → Nd} {g : PN → PN} {c : Nd} {e : PN} (hf : ∀ (d : Nd) (q : PN), d.Is q → (f d).Is (g q)) (hc : c.Is e) : (T.grow p f c).Is (pt.modify p g ++ [e]) := by
  refine ⟨by simp [Tr.grow, h.1], fun i d hd => ?_⟩
  rcases get_grow (show (T.ns.modify p f ++ [c])[i]? = some d from hd) with ⟨hi, y, hy, rfl⟩ | ⟨rfl, rfl⟩
  · obtain ⟨q, hq, hyq⟩ := h.2 i y hy
    refine ⟨_, grow_get hq, ?_⟩
    by_cases e : p = i
    · rw [if_pos e, if_pos e]; exact hf _ _ hyq
    · rw [if_neg e, if_neg e]; exact hyq
  · exact ⟨e, by rw [h.1]; exact grow_last, hc⟩
theorem nv_push {l : List (Nat × Tok)} {z : Nat} {tk : Tok} : nv l ++ [.int (z : Int) tk] = nv (l ++ [(z, tk)]) := by simp [nv]
theorem Nd.Is.kid {d : Nd} {q : PN} (h : d.Is q) {z : Nat} {tk : Tok} : (d.kid z tk).Is (q.kid z) where
  kind := h.kind
  name := h.name
  uri := h.uri
  loc := h.loc
  value := h.value
  kids := by
    obtain ⟨l, e, e2⟩ := h.kids
    exact ⟨l ++ [(z, tk)], by rw [← nv_push, ← e]; rfl, by simp [PN.kid, e2]⟩
  atts := h.atts
theorem Nd.Is.att {d : Nd} {q : PN} (h : d.Is q) {z : Nat} {tk : Tok} : (d.att z tk).Is (q.att z) where
  kind := h.kind
  name := h.name
  uri := h.uri
  loc := h.loc
  value := h.value
  kids := h.kids
  atts := by
    obtain ⟨l, e, e2⟩ := h.atts
    exact ⟨l ++ [(z, tk)], by rw [← nv_push, ← e]; rfl, by simp [PN.att, e2]⟩
theorem Nd.Is.new {x dx cl al : Addr} {od : Obj} {k n l v u : Str} {tk tn tu tl tv : Tok} : (Nd.new x dx cl al od (.str k tk) (.str n tn) (.str u tu) (.str l tl) (.str v tv)).Is ⟨k, n, l, v, [], []⟩ where
  kind := ⟨_, rfl⟩
  name := ⟨_, rfl⟩
  uri := ⟨_, _, rfl⟩
  loc := ⟨_, rfl⟩
  value := ⟨_, rfl⟩
  kids := ⟨[], rfl, rfl⟩
  atts := ⟨[], rfl, rfl⟩
/-- where a tree lies -/
structure TH where
  t : Addr
  dt : Addr
  r : Addr
  k : Tok
  n1 : Nat
noncomputable def Tr.head (T : Tr) : TH := ⟨T.t, T.dt, T.r, T.k, T.n1⟩
/-- a ledger that is a tree's -/
inductive TrP (P : Params) (H : TH) (pt : List PN) (X : Led) : Prop
  | mk (T : Tr) (p1 : X = T.led P) (p2 : T.Ok P) (p3 : T.Is pt) (p4 : T.head = H) : TrP P H pt X
noncomputable abbrev elemN (n l : Str) : PN := ⟨kElem, n, l, Str.ofString "", [], []⟩
noncomputable abbrev attrN (n l v : Str) : PN := ⟨kAttr, n, l, v, [], []⟩
noncomputable abbrev textN (v : Str) : PN := ⟨kText, Str.ofString "", Str.ofString "", v, [], []⟩
theorem TrP.inst {w : World} {H : TH} {pt : List PN} {X : Led} (h : TrP w.params H pt X) {h₀ g : Heap} {L : Addr} {news : Led} (N : News h₀ L g news) (hs : ∀ p ∈ X, p ∈ news) : W.InstAt g H.t (instObj 445 H.dt) 445 (some (rowsObj w.params H.k H.r H.n1)) := by
  obtain ⟨T, rfl, _, _, rfl⟩ := h
  exact inst_tr N hs
theorem add_element_p (w : World) {H : TH} {pt : List PN} {X : Led} (h : TrP w.params H pt X) (p : Nat) (tp : Tok) (q : PN) (name uri loc : Str) (tn tu tl : Tok) (hd : pt[p]? = some q) (hp : q.kind ∈ [kRoot, kElem]) (hz : pt.length < 2 ^ 20) :
    Ct w 309 5 64 [.ref H.t, .int p tp, .str name tn, .str uri tu, .str loc tl] X (fun _ => True) (fun v X' => ∃ tk, v = .int (pt.length : Int) tk ∧ TrP w.params H (pt.modify p (PN.kid pt.length) ++ [elemN name loc]) X') := by
  obtain ⟨T, rfl, ok, is, rfl⟩ := h
  obtain ⟨d, hd', hq⟩ := is.at hd
  obtain ⟨tk, hk⟩ := hq.kind
  refine ct_mono (add_element_t w T p tp d (.str name tn) (.str uri tu) (.str loc tl) ok hd' ⟨_, _, hk, hp⟩ (by rw [is.1]; exact hz) rfl rfl rfl) ?_
  rintro v fp' ⟨ta, te, x, dx, cl, al, od, tk, tk2, rfl, rfl, ok'⟩
  exact ⟨tk, by rw [is.1], _, rfl, ok', by rw [is.1]; exact is.grow (fun _ _ h => h.kid) .new, rfl⟩
theorem add_text_p (w : World) {H : TH} {pt : List PN} {X : Led} (h : TrP w.params H pt X) (p : Nat) (tp : Tok) (q : PN) (value : Str) (tv : Tok) (hd : pt[p]? = some q) (hp : q.kind ∈ [kRoot, kElem]) (hz : pt.length < 2 ^ 20) :
    Ct w 316 5 64 [.ref H.t, .int p tp, .str value tv] X (fun _ => True) (fun v X' => ∃ tk, v = .int (pt.length : Int) tk ∧ TrP w.params H (pt.modify p (PN.kid pt.length) ++ [textN value]) X') := by
  obtain ⟨T, rfl, ok, is, rfl⟩ := h
  obtain ⟨d, hd', hq⟩ := is.at hd
  obtain ⟨tk, hk⟩ := hq.kind
  refine ct_mono (add_text_t w T p tp d (.str value tv) ok hd' ⟨_, _, hk, hp⟩ (by rw [is.1]; exact hz) rfl) ?_
  rintro v fp' ⟨ta, te, tu, tl, x, dx, cl, al, od, tk, tk2, rfl, rfl, ok'⟩
  exact ⟨tk, by rw [is.1], _, rfl, ok', by rw [is.1]; exact is.grow (fun _ _ h => h.kid) .new, rfl⟩
theorem set_attribute_p (w : World) {H : TH} {pt : List PN} {X : Led} (h : TrP w.params H pt X) (p : Nat) (tp : Tok) (q : PN) (name uri loc value : Str) (tn tu tl tv : Tok) (hd : pt[p]? = some q) (hp : q.kind = kElem) (hz : pt.length < 2 ^ 20) (ho : ∀ a ∈ q.atts, ∃ e, pt[a]? = some e ∧ e.loc ≠ loc) :
    Ct w 344 4 56 [.ref H.t, .int p tp, .str name tn, .str uri tu, .str loc tl, .str value tv] X (fun _ => True) (fun v X' => ∃ tk, v = .int (pt.length : Int) tk ∧ TrP w.params H (pt.modify p (PN.att pt.length) ++ [attrN name loc value]) X') := by
  obtain ⟨T, rfl, ok, is, rfl⟩ := h
  obtain ⟨d, hd', hq⟩ := is.at hd
  obtain ⟨tk, hk⟩ := hq.kind
  rw [hp] at hk
  refine ct_mono (set_attribute_t w T p tp tk tu tl d (.str name tn) uri loc (.str value tv) ok hd' hk (by rw [is.1]; exact hz) rfl rfl fun v hv => ?_) ?_
  · obtain ⟨l, e, e2⟩ := hq.atts
    rw [e] at hv
    obtain ⟨y, hy, rfl⟩ := List.mem_map.mp hv
    obtain ⟨n, hn, hne⟩ := ho y.1 (by rw [← e2]; exact List.mem_map_of_mem hy)
    obtain ⟨d2, hd2, hn2⟩ := is.at hn
    obtain ⟨u, t1, e1⟩ := hn2.uri
    obtain ⟨t2, e3⟩ := hn2.loc
    exact ⟨y.1, y.2, d2, u, t1, n.loc, t2, rfl, hd2, e1, e3, hne⟩
  · rintro v fp' ⟨kind, ⟨tka, rfl⟩, x, dx, cl, al, od, tk, tk2, rfl, rfl, ok'⟩
    exact ⟨tk, by rw [is.1], _, rfl, ok', by rw [is.1]; exact is.grow (fun _ _ h => h.att) .new, rfl⟩

/-- the elements of a forest, in the order of the document -/
inductive WL (pt : List PN) : List Nat → List Nat → Prop
  | nil : WL pt [] []
  | elem {i q rest o1 o2} : pt[i]? = some q → q.kind = kElem → WL pt q.kids o1 → WL pt rest o2 → WL pt (i :: rest) (i :: (o1 ++ o2))
  | other {i q rest o2} : pt[i]? = some q → q.kind ≠ kElem → WL pt rest o2 → WL pt (i :: rest) o2
section
variable {pt pt' : List PN} {l l' o o' : List Nat}
theorem WL.append (h : WL pt l o) (h' : WL pt l' o') : WL pt (l ++ l') (o ++ o') := by
  induction h with
  | nil => exact h'
  | elem a b c _ _ ih => rw [List.cons_append, List.cons_append, List.append_assoc]; exact .elem a b c ih
  | other a b _ ih => exact .other a b ih
theorem WL.split : ∀ {l : List Nat} {o : List Nat}, WL pt (l ++ l') o → ∃ o1 o2, o = o1 ++ o2 ∧ WL pt l o1 ∧ WL pt l' o2
  | [], o, h => ⟨[], o, rfl, .nil, h⟩
  | i :: l, o, h => by
    cases h with
    | elem a b c d =>
      obtain ⟨o1, o2, rfl, h1, h2⟩ := WL.split d
      exact ⟨_, o2, by rw [List.cons_append, List.append_assoc], .elem a b c h1, h2⟩
    | other a b d =>
      obtain ⟨o1, o2, rfl, h1, h2⟩ := WL.split d
      exact ⟨o1, o2, rfl, .other a b h1, h2⟩
theorem WL.keep (h : WL pt l o) (k : ∀ i q, pt[i]? = some q → ∃ q', pt'[i]? = some q' ∧ q'.kind = q.kind ∧ (i ∈ o → q'.kids = q.kids)) : WL pt' l o := by
  induction h with
  | nil => exact .nil
  | @elem i q rest o1 o2 a b c d ih1 ih2 =>
    obtain ⟨q', e1, e2, e3⟩ := k _ _ a
    refine .elem e1 (e2.trans b) ?_ (ih2 fun i q hi => ?_)
    · rw [e3 (.head _)]
      exact ih1 fun i q hi => let ⟨q', f1, f2, f3⟩ := k i q hi; ⟨q', f1, f2, fun hm => f3 (.tail _ (List.mem_append_left _ hm))⟩
    · exact let ⟨q', f1, f2, f3⟩ := k i q hi; ⟨q', f1, f2, fun hm => f3 (.tail _ (List.mem_append_right _ hm))⟩
  | other a b d ih =>
    obtain ⟨q', e1, e2, _⟩ := k _ _ a
    exact .other e1 (fun h => b (e2.symm.trans h)) (ih k)
/-- a chain of last children -/
inductive Chain (pt : List PN) : List Nat → Prop
  | one {a q} : pt[a]? = some q → q.kind ∈ [kRoot, kElem] → Chain pt [a]
  | cons {a q l b qb r} : pt[a]? = some q → q.kind ∈ [kRoot, kElem] → q.kids = l ++ [b] → pt[b]? = some qb → qb.kind = kElem → Chain pt (b :: r) → Chain pt (a :: b :: r)
theorem Chain.mem : ∀ {c : List Nat} {a : Nat} {q : PN} {o : List Nat}, Chain pt (a :: c) → pt[a]? = some q → WL pt q.kids o → ∀ x ∈ c, x ∈ o
  | [], _, _, _, _, _, _, x, hx => nomatch hx
  | b :: r, a, q, o, hc, hq, hw, x, hx => by
    cases hc with
    | @cons _ q' l _ qb _ h1 h2 h3 h4 h5 h6 =>
      rw [hq] at h1; cases h1
      rw [h3] at hw
      obtain ⟨o1, o2, rfl, w1, w2⟩ := WL.split hw
      cases w2 with
      | elem a' b' c' d' =>
        rw [h4] at a'; cases a'
        cases d'
        rcases List.mem_cons.mp hx with rfl | hx
        · exact List.mem_append_right _ (.head _)
        · exact List.mem_append_right _ (.tail _ (List.mem_append_left _ (Chain.mem h6 h4 c' x hx)))
      | other a' b' d' => rw [h4] at a'; cases a'; exact absurd h5 b'
theorem Chain.take : ∀ {c : List Nat} {a : Nat} {n : Nat}, Chain pt (a :: c) → Chain pt (a :: c.take n)
  | [], _, n, h => by rw [List.take_nil]; exact h
  | b :: r, a, 0, h => by
    cases h with
    | cons h1 h2 _ _ _ _ => exact .one h1 h2
  | b :: r, a, n + 1, h => by
    cases h with
    | cons h1 h2 h3 h4 h5 h6 => exact .cons h1 h2 h3 h4 h5 (Chain.take h6)
theorem Chain.last : ∀ {c : List Nat} {a : Nat}, Chain pt (a :: c) → ∃ q, pt[(a :: c).getLast (List.cons_ne_nil _ _)]? = some q ∧ q.kind ∈ [kRoot, kElem]
  | [], a, h => by
    cases h with
    | one h1 h2 => exact ⟨_, h1, h2⟩
  | b :: r, a, h => by
    cases h with
    | cons h1 h2 h3 h4 h5 h6 => rw [List.getLast_cons_cons]; exact Chain.last h6
theorem Chain.keep : ∀ {c : List Nat} {z : Nat}, Chain pt (c ++ [z]) → z ∉ c → (∀ x q, pt[x]? = some q → ∃ q', pt'[x]? = some q' ∧ q'.kind = q.kind ∧ (x ≠ z → q'.kids = q.kids)) → Chain pt' (c ++ [z])
  | [], z, h, _, k => by
    cases h with
    | one h1 h2 =>
      obtain ⟨q', e1, e2, _⟩ := k _ _ h1
      exact .one e1 (e2 ▸ h2)
  | [a], z, h, hz, k => by
    cases h with
    | cons h1 h2 h3 h4 h5 h6 =>
      obtain ⟨q', e1, e2, e3⟩ := k _ _ h1
      obtain ⟨q2, f1, f2, _⟩ := k _ _ h4
      refine .cons e1 (e2 ▸ h2) ((e3 fun e => hz (e ▸ .head _)).trans h3) f1 (f2.trans h5) (Chain.keep (c := []) h6 List.not_mem_nil k)
  | a :: b :: r, z, h, hz, k => by
    cases h with
    | cons h1 h2 h3 h4 h5 h6 =>
      obtain ⟨q', e1, e2, e3⟩ := k _ _ h1
      obtain ⟨q2, f1, f2, _⟩ := k _ _ h4
      refine .cons e1 (e2 ▸ h2) ((e3 fun e => hz (e ▸ .head _)).trans h3) f1 (f2.trans h5) (Chain.keep (c := b :: r) h6 (fun h => hz (.tail _ h)) k)
theorem kid_get {p z i : Nat} {c q : PN} (h : pt[i]? = some q) : ∃ q', (pt.modify p (PN.kid z) ++ [c])[i]? = some q' ∧ q'.kind = q.kind ∧ (i ≠ p → q'.kids = q.kids) := by
  refine ⟨_, grow_get h, ?_⟩
  by_cases e : p = i
  · rw [if_pos e]; exact ⟨rfl, fun h => absurd e.symm h⟩
  · rw [if_neg e]; exact ⟨rfl, fun _ => rfl⟩
/-- a new element beneath the last of a chain -/
theorem wl_chain {c : PN} (hc : c.kind = kElem) (hk : c.kids = []) (p : Nat) : ∀ {r : List Nat} {a : Nat} {q : PN} {o : List Nat}, Chain pt (a :: r) → pt[a]? = some q → WL pt q.kids o → (a :: o).Nodup → (a :: r).getLast (List.cons_ne_nil _ _) = p →
    ∃ q', (pt.modify p (PN.kid pt.length) ++ [c])[a]? = some q' ∧ q'.kind = q.kind ∧ (a ≠ p → q'.kids = q.kids) ∧ WL (pt.modify p (PN.kid pt.length) ++ [c]) q'.kids (o ++ [pt.length]) ∧ Chain (pt.modify p (PN.kid pt.length) ++ [c]) (a :: r ++ [pt.length])
  | [], a, q, o, h, hq, hw, hn, hp => by
    have hp : a = p := hp
    subst hp
    have e := grow_get (f := PN.kid pt.length) (c := c) (p := a) hq
    rw [if_pos rfl] at e
    have hz : WL (pt.modify a (PN.kid pt.length) ++ [c]) [pt.length] [pt.length] := WL.elem (o1 := []) (o2 := []) grow_last hc (by rw [hk]; exact .nil) .nil
    refine ⟨_, e, rfl, fun h => absurd rfl h, ?_, ?_⟩
    · refine WL.append (hw.keep fun i q' hi => ?_) hz
      obtain ⟨q2, f1, f2, f3⟩ := kid_get (p := a) (z := pt.length) (c := c) hi
      exact ⟨q2, f1, f2, fun hm => f3 fun e => (List.nodup_cons.mp hn).1 (e ▸ hm)⟩
    · cases h with
      | one h1 h2 =>
        rw [hq] at h1; cases h1
        exact .cons e h2 rfl grow_last hc (.one grow_last (by rw [hc]; simp))
  | b :: r, a, q, o, h, hq, hw, hn, hp => by
    have hmem := h.mem hq hw
    cases h with
    | @cons _ q' l _ qb _ h1 h2 h3 h4 h5 h6 =>
      rw [hq] at h1; cases h1
      rw [List.getLast_cons_cons] at hp
      rw [h3] at hw
      obtain ⟨o1, o2, rfl, w1, w2⟩ := WL.split hw
      cases w2 with
      | other a' b' d' => rw [h4] at a'; cases a'; exact absurd h5 b'
      | @elem _ _ _ o3 _ a' b' c' d' =>
        rw [h4] at a'; cases a'
        cases d'
        rw [List.append_nil] at hn hmem ⊢
        obtain ⟨n1, n2⟩ := List.nodup_cons.mp hn
        obtain ⟨n3, n4, n5⟩ := List.nodup_append.mp n2
        obtain ⟨q2, f1, f2, f3, f4, f5⟩ := wl_chain hc hk p h6 h4 c' n4 hp
        have hpm : p ∈ b :: o3 := by
          have hb : p ∈ b :: r := hp ▸ List.getLast_mem _
          rcases List.mem_cons.mp hb with hb | hb
          · rw [hb]; exact .head _
          · exact .tail _ (h6.mem h4 c' p hb)
        have hpa : a ≠ p := fun e => n1 (by rw [e]; exact List.mem_append_right _ hpm)
        obtain ⟨q3, g1, g2, g3⟩ := kid_get (p := p) (z := pt.length) (c := c) hq
        refine ⟨q3, g1, g2, fun _ => g3 hpa, ?_, .cons g1 (g2 ▸ h2) ((g3 hpa).trans h3) f1 (f2.trans h5) f5⟩
        rw [g3 hpa, h3, List.append_assoc]
        refine WL.append (w1.keep fun i q' hi => ?_) ?_
        · obtain ⟨q4, k1, k2, k3⟩ := kid_get (p := p) (z := pt.length) (c := c) hi
          exact ⟨q4, k1, k2, fun hm => k3 fun e => n5 i hm i (e ▸ hpm) rfl⟩
        · have := WL.elem f1 (f2.trans h5) f4 .nil
          rw [List.append_nil] at this
          exact this
theorem wl_text {c : PN} (hc : c.kind ≠ kElem) {p : Nat} (h : WL pt l o) : WL (pt.modify p (PN.kid pt.length) ++ [c]) l o := by
  induction h with
  | nil => exact .nil
  | @elem i q rest o1 o2 a b _ _ ih1 ih2 =>
    have e := grow_get (f := PN.kid pt.length) (c := c) (p := p) a
    refine .elem e (by split <;> exact b) ?_ ih2
    by_cases h : p = i
    · rw [if_pos h]
      have := WL.append ih1 (WL.other (grow_last (f := PN.kid pt.length) (p := p)) hc .nil)
      rw [List.append_nil] at this
      exact this
    · rw [if_neg h]; exact ih1
  | other a b _ ih =>
    refine .other (grow_get a) ?_ ih
    split <;> exact b
end

/-- an attribute of a row, a row -/
structure At where
  idx : Nat
  name : Str
  words : List Str
structure Rw where
  node : Nat
  name : Str
  atts : List At
inductive AttIs (pt : List PN) (a : At) : Prop
  | mk (q : _) (p1 : pt[a.idx]? = some q) (p2 : q.name = a.name) (p3 : q.loc = a.name) (p4 : splitS q.value = a.words) (p5 : q.value.length ≤ 12) : AttIs pt a
inductive RowIs (pt : List PN) (r : Rw) : Prop
  | mk (q : _) (p1 : pt[r.node]? = some q) (p2 : q.kind = kElem) (p3 : q.name = r.name) (p4 : q.atts = r.atts.map (·.idx)) (p5 : ∀ a ∈ r.atts, AttIs pt a) : RowIs pt r
noncomputable abbrev nodes (rows : List Rw) : List Nat := rows.map (·.node)
structure Grown (pt : List PN) (rows : List Rw) : Prop where
  root : ∃ q, pt[0]? = some q ∧ q.kind = kRoot ∧ q.kids = (nodes rows).take 1 ∧ WL pt q.kids (nodes rows)
  nodup : (0 :: nodes rows).Nodup
  row : ∀ r ∈ rows, RowIs pt r
section
variable {pt pt' : List PN} {rows : List Rw} {c : List Nat} {p z : Nat}
theorem AttIs.keep {a : At} (h : AttIs pt a) (k : ∀ (i : Nat) (q : PN), pt[i]? = some q → ∃ q' : PN, pt'[i]? = some q' ∧ q'.name = q.name ∧ q'.loc = q.loc ∧ q'.value = q.value) : AttIs pt' a := by
  obtain ⟨q, e, h1, h2, h3, h4⟩ := h
  obtain ⟨q', e', k1, k2, k3⟩ := k _ _ e
  exact ⟨q', e', k1.trans h1, k2.trans h2, by rw [k3]; exact h3, by rw [k3]; exact h4⟩
theorem RowIs.keep {r : Rw} (h : RowIs pt r) (k : ∀ (i : Nat) (q : PN), pt[i]? = some q → ∃ q' : PN, pt'[i]? = some q' ∧ q'.kind = q.kind ∧ (q'.name = q.name ∧ q'.loc = q.loc ∧ q'.value = q.value) ∧ (i = r.node → q'.atts = q.atts)) : RowIs pt' r := by
  obtain ⟨q, e, h1, h2, h3, h4⟩ := h
  obtain ⟨q', e', k1, k2, k3⟩ := k _ _ e
  exact ⟨q', e', k1.trans h1, k2.1.trans h2, (k3 rfl).trans h3, fun a ha => (h4 a ha).keep fun i q hi => let ⟨q', f1, _, f3, _⟩ := k i q hi; ⟨q', f1, f3⟩⟩
theorem kid_row {i : Nat} {e q : PN} (h : pt[i]? = some q) : ∃ q', (pt.modify p (PN.kid z) ++ [e])[i]? = some q' ∧ q'.kind = q.kind ∧ (q'.name = q.name ∧ q'.loc = q.loc ∧ q'.value = q.value) ∧ q'.atts = q.atts := by
  refine ⟨_, grow_get h, ?_⟩
  split <;> exact ⟨rfl, ⟨rfl, rfl, rfl⟩, rfl⟩
theorem att_row {i : Nat} {e q : PN} (h : pt[i]? = some q) : ∃ q', (pt.modify p (PN.att z) ++ [e])[i]? = some q' ∧ q'.kind = q.kind ∧ (q'.name = q.name ∧ q'.loc = q.loc ∧ q'.value = q.value) ∧ q'.kids = q.kids ∧ (i ≠ p → q'.atts = q.atts) := by
  refine ⟨_, grow_get h, ?_⟩
  by_cases e : p = i
  · rw [if_pos e]; exact ⟨rfl, ⟨rfl, rfl, rfl⟩, rfl, fun h => absurd e.symm h⟩
  · rw [if_neg e]; exact ⟨rfl, ⟨rfl, rfl, rfl⟩, rfl, fun _ => rfl⟩
theorem Grown.lt (h : Grown pt rows) : ∀ x ∈ 0 :: nodes rows, x < pt.length := by
  intro x hx
  rcases List.mem_cons.mp hx with rfl | hx
  · obtain ⟨q, e, _⟩ := h.root; exact (List.getElem?_eq_some_iff.mp e).1
  · obtain ⟨r, hr, rfl⟩ := List.mem_map.mp hx
    obtain ⟨q, e, _⟩ := h.row r hr; exact (List.getElem?_eq_some_iff.mp e).1
theorem Grown.chain_mem (h : Grown pt rows) (hc : Chain pt (0 :: c)) : ∀ x ∈ c, x ∈ nodes rows := by
  obtain ⟨q, e, _, _, w⟩ := h.root
  exact hc.mem e w
theorem Grown.elem (h : Grown pt rows) (hc : Chain pt (0 :: c)) (h0 : c = [] → rows = []) (hp : (0 :: c).getLast (List.cons_ne_nil _ _) = p) (name : Str) :
    Grown (pt.modify p (PN.kid pt.length) ++ [elemN name name]) (rows ++ [⟨pt.length, name, []⟩]) ∧ Chain (pt.modify p (PN.kid pt.length) ++ [elemN name name]) (0 :: c ++ [pt.length]) ∧ pt.length ∉ 0 :: c := by
  have hlt := h.lt
  have hcm := h.chain_mem hc
  have hcl : pt.length ∉ 0 :: c := fun hm => by
    rcases List.mem_cons.mp hm with e | hm
    · exact absurd (hlt 0 (.head _)) (by omega)
    · exact absurd (hlt _ (.tail _ (hcm _ hm))) (Nat.lt_irrefl _)
  obtain ⟨q, e, hk, hq, hw⟩ := h.root
  obtain ⟨q', e', k1, k2, k3, k4⟩ := wl_chain (c := elemN name name) rfl rfl p hc e hw h.nodup hp
  refine ⟨⟨⟨q', e', k1.trans hk, ?_, ?_⟩, ?_, ?_⟩, k4, hcl⟩
  · cases c with
    | nil =>
      have hr := h0 rfl
      subst hr
      have hp' : p = 0 := hp.symm
      subst hp'
      have e2 := grow_get (f := PN.kid pt.length) (c := elemN name name) (p := 0) e
      rw [if_pos rfl, e'] at e2
      have e3 : q' = q.kid pt.length := Option.some.inj e2
      rw [e3]
      show q.kids ++ [pt.length] = _
      rw [hq]; rfl
    | cons b r =>
      have hpm : p ∈ b :: r := by rw [← hp, List.getLast_cons_cons]; exact List.getLast_mem _
      have hp0 : 0 ≠ p := fun e => (List.nodup_cons.mp h.nodup).1 (e ▸ hcm p hpm)
      rw [k2 hp0, hq]
      cases rows with
      | nil => exact absurd (hcm b (.head _)) List.not_mem_nil
      | cons r0 rs => rfl
  · simpa [nodes] using k3
  · have : ((0 :: nodes rows) ++ [pt.length]).Nodup := nodup_app h.nodup (by simp) (fun a ha hm => absurd (hlt a hm) (by rw [List.mem_singleton.mp ha]; exact Nat.lt_irrefl _))
    simpa [nodes] using this
  · intro r hr
    rcases List.mem_append.mp hr with hr | hr
    · refine (h.row r hr).keep fun i q hi => ?_
      obtain ⟨q', f1, f2, f3, f4⟩ := kid_row (p := p) (z := pt.length) (e := elemN name name) hi
      exact ⟨q', f1, f2, f3, fun _ => f4⟩
    · rw [List.mem_singleton.mp hr]
      exact ⟨_, grow_last, rfl, rfl, rfl, fun _ h => nomatch h⟩
theorem Grown.att {nm : Str} {atts : List At} (h : Grown pt (rows ++ [⟨z, nm, atts⟩])) (an v : Str) (hv : v.length ≤ 12) :
    Grown (pt.modify z (PN.att pt.length) ++ [attrN an an v]) (rows ++ [⟨z, nm, atts ++ [⟨pt.length, an, splitS v⟩]⟩]) := by
  have en : nodes (rows ++ [⟨z, nm, atts ++ [⟨pt.length, an, splitS v⟩]⟩]) = nodes (rows ++ [⟨z, nm, atts⟩]) := by simp [nodes]
  obtain ⟨q, e, hk, hq, hw⟩ := h.root
  obtain ⟨q', f1, f2, f3, f4, f5⟩ := att_row (p := z) (z := pt.length) (e := attrN an an v) e
  refine ⟨⟨q', f1, f2.trans hk, f4.trans (hq.trans (by rw [en])), ?_⟩, by rw [en]; exact h.nodup, ?_⟩
  · rw [f4, en]
    refine hw.keep fun i q hi => ?_
    obtain ⟨q', f1, f2, f3, f4, f5⟩ := att_row (p := z) (z := pt.length) (e := attrN an an v) hi
    exact ⟨q', f1, f2, fun _ => f4⟩
  · intro r hr
    rcases List.mem_append.mp hr with hr' | hr'
    · have hne : r.node ≠ z := fun e => by
        have hn := (List.nodup_cons.mp h.nodup).2
        rw [nodes, List.map_append] at hn
        exact (List.nodup_append.mp hn).2.2 r.node (List.mem_map_of_mem hr') z (by simp) e
      refine (h.row r (List.mem_append_left _ hr')).keep fun i q hi => ?_
      obtain ⟨q', f1, f2, f3, f4, f5⟩ := att_row (p := z) (z := pt.length) (e := attrN an an v) hi
      exact ⟨q', f1, f2, f3, fun hi => f5 (hi ▸ hne)⟩
    · rw [List.mem_singleton.mp hr']
      obtain ⟨q, e, g1, g2, g3, g4⟩ := h.row ⟨z, nm, atts⟩ (List.mem_append_right _ (List.mem_singleton.mpr rfl))
      have e2 := grow_get (f := PN.att pt.length) (c := attrN an an v) (p := z) e
      rw [if_pos rfl] at e2
      refine ⟨_, e2, g1, g2, ?_, fun a ha => ?_⟩
      · show q.atts ++ [pt.length] = _
        rw [g3]; simp
      · rcases List.mem_append.mp ha with ha | ha
        · refine (g4 a ha).keep fun i q hi => ?_
          obtain ⟨q', f1, f2, f3, f4, f5⟩ := att_row (p := z) (z := pt.length) (e := attrN an an v) hi
          exact ⟨q', f1, f3⟩
        · rw [List.mem_singleton.mp ha]
          exact ⟨_, grow_last, rfl, rfl, rfl, hv⟩
theorem Grown.att_chain {e : PN} (hc : Chain pt (c ++ [z])) (hz : z ∉ c) {k : Nat} : Chain (pt.modify p (PN.att k) ++ [e]) (c ++ [z]) :=
  hc.keep hz fun i q hi => by
    obtain ⟨q', f1, f2, f3, f4, f5⟩ := att_row (p := p) (z := k) (e := e) hi
    exact ⟨q', f1, f2, fun _ => f4⟩
theorem Grown.text (h : Grown pt rows) (hz : z ∈ nodes rows) (v : Str) : Grown (pt.modify z (PN.kid pt.length) ++ [textN v]) rows := by
  obtain ⟨q, e, hk, hq, hw⟩ := h.root
  have h0 : 0 ≠ z := fun e => (List.nodup_cons.mp h.nodup).1 (e ▸ hz)
  obtain ⟨q', f1, f2, f3⟩ := kid_get (p := z) (z := pt.length) (c := textN v) e
  refine ⟨⟨q', f1, f2.trans hk, (f3 h0).trans hq, ?_⟩, h.nodup, fun r hr => (h.row r hr).keep fun i q hi => ?_⟩
  · rw [f3 h0]; exact wl_text (by show kText ≠ kElem; decide) hw
  · obtain ⟨q', f1, f2, f3, f4⟩ := kid_row (p := z) (z := pt.length) (e := textN v) hi
    exact ⟨q', f1, f2, f3, fun _ => f4⟩
theorem Grown.text_chain {e : PN} (hc : Chain pt (c ++ [z])) (hz : z ∉ c) {k : Nat} : Chain (pt.modify z (PN.kid k) ++ [e]) (c ++ [z]) :=
  hc.keep hz fun i q hi => by
    obtain ⟨q', f1, f2, f3⟩ := kid_get (p := z) (z := k) (c := e) hi
    exact ⟨q', f1, f2, f3⟩
theorem Grown.first {r0 : Rw} {rs : List Rw} (h : Grown pt (r0 :: rs)) : Chain pt [0, r0.node] := by
  obtain ⟨q, e, hk, hq, hw⟩ := h.root
  obtain ⟨q0, e0, k0, _⟩ := h.row r0 (.head _)
  exact .cons (l := []) e (by rw [hk]; simp) hq e0 k0 (.one e0 (by rw [k0]; simp))
end
/-- two lists, one by one -/
inductive All2 {α β : Type} (R : α → β → Prop) : List α → List β → Prop
  | nil : All2 R [] []
  | cons {a b l m} : R a b → All2 R l m → All2 R (a :: l) (b :: m)
section
variable {α β : Type} {R S : α → β → Prop} {l : List α} {m : List β}
theorem All2.length (h : All2 R l m) : l.length = m.length := by
  induction h with
  | nil => rfl
  | cons _ _ ih => simp [ih]
theorem All2.push (h : All2 R l m) {a : α} {b : β} (r : R a b) : All2 R (l ++ [a]) (m ++ [b]) := by
  induction h with
  | nil => exact .cons r .nil
  | cons x _ ih => exact .cons x ih
theorem All2.mono (h : All2 R l m) (k : ∀ a b, R a b → S a b) : All2 S l m := by
  induction h with
  | nil => exact .nil
  | cons x _ ih => exact .cons (k _ _ x) ih
theorem All2.at (h : All2 R l m) : ∀ {i : Nat} {a : α}, l[i]? = some a → ∃ b, m[i]? = some b ∧ R a b := by
  induction h with
  | nil => intro i a e; simp at e
  | cons x _ ih =>
    intro i a e
    cases i with
    | zero => simp at e; subst e; exact ⟨_, rfl, x⟩
    | succ i => simp at e; obtain ⟨b, e2, r⟩ := ih e; exact ⟨b, by simpa using e2, r⟩
end
noncomputable def IsL (o : Obj) (vs : List Value) : Prop := o.cls = .type "list" ∧ ∃ n, o.data = .seq vs.toArray n
noncomputable def IsT (o : Obj) (vs : List Value) : Prop := o.cls = .type "tuple" ∧ ∃ n, o.data = .seq vs.toArray n
inductive HeldAt (G : Addr → Obj → Prop) (v : Value) (a : At) : Prop
  | mk (t ot ti tn wl ow vs : _) (p1 : v = .ref t) (p2 : G t ot) (p3 : IsT ot [.int (a.idx : Int) ti, .str a.name tn, .ref wl]) (p4 : G wl ow) (p5 : IsL ow vs) (p6 : allStr vs = true) (p7 : strsV vs = a.words) : HeldAt G v a
inductive RowAt (G : Addr → Obj → Prop) (v : Value) (r : Rw) : Prop
  | mk (t ot ti tn hl oh hvs : _) (p1 : v = .ref t) (p2 : G t ot) (p3 : IsT ot [.int (r.node : Int) ti, .str r.name tn, .ref hl]) (p4 : G hl oh) (p5 : IsL oh hvs) (p6 : All2 (HeldAt G) hvs r.atts) : RowAt G v r
theorem HeldAt.mono {G G' : Addr → Obj → Prop} {v : Value} {a : At} (h : HeldAt G v a) (k : ∀ x o, G x o → G' x o) : HeldAt G' v a := by
  obtain ⟨t, ot, ti, tn, wl, ow, vs, e, h1, h2, h3, h4, h5, h6⟩ := h
  exact ⟨t, ot, ti, tn, wl, ow, vs, e, k _ _ h1, h2, k _ _ h3, h4, h5, h6⟩
theorem RowAt.mono {G G' : Addr → Obj → Prop} {v : Value} {r : Rw} (h : RowAt G v r) (k : ∀ x o, G x o → G' x o) : RowAt G' v r := by
  obtain ⟨t, ot, ti, tn, hl, oh, hvs, e, h1, h2, h3, h4, h5⟩ := h
  exact ⟨t, ot, ti, tn, hl, oh, hvs, e, k _ _ h1, h2, k _ _ h3, h4, h5.mono fun _ _ x => x.mono k⟩
noncomputable abbrev InL (Y : Led) : Addr → Obj → Prop := fun a o => (a, o) ∈ Y
theorem OffFr.ins {front X Y : Led} {a : Addr} {o : Obj} (h : OffFr front (X ++ Y)) (h2 : ∀ q ∈ front, q.1 ≠ a) : OffFr front (X ++ (a, o) :: Y) := by
  intro q hq p hp
  rcases List.mem_append.mp hp with hp | hp
  · exact h q hq p (List.mem_append_left _ hp)
  · rcases List.mem_cons.mp hp with rfl | hp
    · exact fun e => h2 q hq e.symm
    · exact h q hq p (List.mem_append_right _ hp)
theorem Apart.ins {X Y : Led} {a : Addr} {o : Obj} (h : Apart X Y) (h2 : ∀ p ∈ X ++ Y, p.1 ≠ a) : Apart X ((a, o) :: Y) := by
  intro p hp q hq
  rcases List.mem_cons.mp hq with rfl | hq
  · exact h2 p (List.mem_append_left _ hp)
  · exact h p hp q hq

section
variable {prog : Program} {w : World} {A : Around} {E : Value → Shared → Prop} {s : Shared} {env : Env} {h₀ : Heap} {target : Expr} {body : List Stmt} {Q : Flow → Shared → Prop}
/-- a range, gone through turn by turn -/
theorem turns_range {r : Addr} {t₀ u₀ v₀ : Tok} {b₀ : Int} {n : Nat} {m₀ : Str → Option Value} {news : Led} (ys : List Str) (J : Nat → (Str → Option Value) → Led → Prop)
    (hh : A.handled = none) (ht : ∀ (s : Shared) (v : Value) (I : Addr) (Q : Unit → Shared → Prop) (E : Value → Shared → Prop), Q () s → wpAny (model prog w) A (letOwnedTupleGo target (.ref I) v) Q E s)
    (hr : IsRange s.heap r 0 b₀ 1 t₀ u₀ v₀) (hb : b₀ = (n : Int)) (hn : n ≤ 2 ^ 24) (F : Fr h₀ env.locals s.heap m₀) (N : News h₀ env.locals s.heap news) (hj : J 0 m₀ news)
    (turn : ∀ i t I ito h tk u news₁, i < n → J i (over ys u m₀) news₁ → (∀ p ∈ news, p.1 < I) → (∀ p ∈ news₁, p.1 ≠ I) → Fr h₀ env.locals h (over ys u m₀) → News h₀ env.locals h ((I, ito) :: news₁) →
      wpAny (model prog w) A (assign target env (.int (i : Int) t)) (fun _ s₃ => wpAny (model prog w) A (execs body env) (TurnPost h₀ env.locals I ito (fun m' nn => (∀ z, z ∉ ys → m' z = m₀ z) ∧ J (i + 1) m' nn) { s with heap := h, toks := tk } Q) E s₃) E { s with heap := h, toks := tk })
    (done : ∀ u news₁ h tk, J n (over ys u m₀) news₁ → Fr h₀ env.locals h (over ys u m₀) → News h₀ env.locals h news₁ → Q .next { s with heap := h, toks := tk }) :
    wpAny (model prog w) A (pyIter (.ref r)) (fun it s₂ => TurnsAt prog w A h₀ env target body Q E it s₂) E s := by
  subst hb
  have hsz : Builtin.Range.rangeSize 0 (n : Int) 1 = (n : Int) := by
    unfold Builtin.Range.rangeSize
    simp only [show (1 : Int) > 0 by decide, if_true]
    split <;> omega
  have hsm : Builtin.Range.small 0 (n : Int) 1 = true := by
    have fit : ∀ a : Int, -(2 ^ 24) ≤ a → a ≤ 2 ^ 24 + 1 → Builtin.Range.rangeFitsLong a = true := fun a h1 h2 => by
      unfold Builtin.Range.rangeFitsLong
      rw [decide_eq_true (Int.le_trans (show -(2 ^ 63 : Int) ≤ -(2 ^ 24) by decide) h1), decide_eq_true (Int.lt_of_le_of_lt h2 (show (2 ^ 24 + 1 : Int) < 2 ^ 63 by decide))]; rfl
    unfold Builtin.Range.small
    rw [hsz, fit 0 (by omega) (by omega), fit n (by omega) (by omega), fit 1 (by omega) (by omega), if_pos (by decide), fit _ (by omega) (by omega)]
    simp
  have W : Walks prog w A s.heap.objs.size [s.heap.objs.size] [s.heap.objs.size] n (fun i v => i < n ∧ ∃ t, v = .int (0 + i * 1) t)
      (fun i h => IsRangeIter h s.heap.objs.size (0 + (i : Nat) * 1) ((n : Int) - (i : Nat)) 1) := (Walks.range hh _ 0 1 n).bound
  have lt : ∀ p ∈ news, p.1 < s.heap.objs.size := fun p hp => Heap.lt_size (N p hp).1
  refine wpAny_pyIter_range hr hsm (turns_core (s := { s with heap := s.heap.push _ }) ys J W (fun i v s Q E _ q => ht s v _ Q E q) (next_is_new F) (fun hm => absurd F.ns.lt ((List.mem_singleton.mp hm) ▸ Nat.lt_irrefl _)) (fun p hp => Nat.ne_of_lt (lt p hp)) (fun b hb => .inl (List.mem_singleton.mp hb))
    (by show IsRangeIter _ _ _ _ _; rw [hsz]; simpa using Heap.get?_push_size _ rfl) (fun i h st => ⟨_, st⟩) (F.push _) (fun p hp => ⟨Heap.get?_push_of_some _ (N p hp).1, (N p hp).2⟩) hj ?_ done)
  rintro i v ito h tk u news₁ hi ⟨_, t, rfl⟩ hJ hne F₁ N₁
  have := turn i t s.heap.objs.size ito h tk u news₁ hi hJ lt hne F₁ N₁
  rwa [show (0 : Int) + (i : Int) * 1 = i by omega]
end
theorem go_name0 {prog : Program} {w : World} {A : Around} {x : Str} {px : Pos} : ∀ (s : Shared) (v : Value) (I : Addr) (Q : Unit → Shared → Prop) (E : Value → Shared → Prop), Q () s → wpAny (model prog w) A (letOwnedTupleGo (.Name x px) (.ref I) v) Q E s :=
  fun _ _ _ _ _ h => wpAny_pure h
section
variable {prog : Program} {w : World} {A : Around} {E : Value → Shared → Prop} {s : Shared} {h₀ : Heap} {L l : Addr} {m : Str → Option Value} {news : Led} {value slice : PySem.Expr} {vs : List Value} {vl vu : Value} {y : Int} {Q : Value → Shared → Prop}
theorem slicePick_take (h : 0 ≤ y) : slicePick vs.toArray none (some y) none = (vs.take y.toNat).toArray := by
  have e : sliceBounds none (some y) none vs.toArray.size = (((0 : Nat) : Int), ((min y.toNat vs.toArray.size : Nat) : Int), 1) := by
    simp only [sliceBounds, Option.getD_none, show (1 : Int) > 0 by decide, if_true, if_neg (show ¬ (y < 0) by omega)]
    congr 1
    congr 1
    omega
  rw [kmk_pick_nat _ e]
  show ((vs.drop 0).take (min y.toNat vs.toArray.size - 0)).toArray = _
  rw [List.drop_zero, Nat.sub_zero, List.size_toArray, kmk_take_min]
theorem slice_take {t : Tok} (F : Fr h₀ L s.heap m) (N : News h₀ L s.heap news) (hl : s.heap.IsList l vs.toArray) (hy : 0 ≤ y)
    (h : ∀ D h', Fr h₀ L h' m → News h₀ L h' ((D, listOf (vs.take y.toNat).toArray 0) :: news) → (∀ p ∈ news, p.1 < D) → Q (.ref D) { s with heap := h' })
    (hs : subscripted slice false (.ref l) (.ref s.heap.objs.size) = operate [.ref s.heap.objs.size, .ref l] (getItem (.ref l) (.ref s.heap.objs.size))) (ht : ∀ r, letTemporaryGo value (.ref l) r = pure ()) (hz : vs.toArray.size ≤ sizeLine) :
    wpAny (model prog w) A (subscriptTail value slice (.ref l) (.ref s.heap.objs.size)) Q E { s with heap := s.heap.push { cls := .type "slice", data := .fields #[.none, .int y t, .none] } } := by
  refine kmk_slice F N hl .none (.int y t) (fun D h' F' N' l1 => h D h' F' ?_ l1) hs ht hz
  rw [slicePick_take hy] at N'
  exact N'
theorem item_last {u : Tok} {v : Value} (hl : s.heap.IsList l vs.toArray) (hz : vs.length ≤ 2 ^ 24) (hne : vs ≠ []) (hx : vs.getLast hne = v) (h : Q v s)
    (hs : subscripted slice false (.ref l) (.int (-1) u) = operate [.ref l, .int (-1) u] (getItem (.ref l) (.int (-1) u)) := by with_unfolding_all rfl) :
    wpAny (model prog w) A (subscriptTail value slice (.ref l) (.int (-1) u)) Q E s := by
  have hlen : 0 < vs.length := List.length_pos_iff.mpr hne
  have hsz : vs.toArray.size = vs.length := List.size_toArray ..
  refine tail_any hl.typeIs slot_list_getitem.lookup (wpAny_getItem_list_neg hl (by decide) (by rw [hsz]; omega) (by decide) (x := v) ?_ h) hs
  rw [hsz, show ((-1 : Int) + (vs.length : Int)).toNat = vs.length - 1 by omega]
  rw [← hx, List.getLast_eq_getElem]
  simp
end
section
variable {prog : Program} {w : World} {A : Around} {E : Value → Shared → Prop} {s : Shared} {a b : Addr} {vs : List Value} {Q : Value → Shared → Prop}
theorem ne_nil_rule (ha : s.heap.IsList a vs.toArray) (hb : s.heap.IsList b #[]) (hu : A.units < cLine) (h : Q (.bool (!vs.isEmpty)) s) : wpAny (model prog w) A (compareOp .NotEq (.ref a) (.ref b)) Q E s := by
  cases vs with
  | nil => exact RcNeAt.lists (e := fun _ => true) ha hb rfl hu (fun j h1 _ => absurd h1 (Nat.not_lt_zero _)) prog w E Q h
  | cons v r => exact RcNeAt.lists_lengths ha hb (by simp) hu prog w E Q h
end
theorem isTup_of {g : Heap} {t : Addr} {o : Obj} {vs : List Value} (e : g.get? t = some o) (h : IsT o vs) : IsTup g t vs.toArray := ⟨o, e, h.1, h.2⟩
/-- an attribute's words, a row, as they are drawn -/
noncomputable abbrev AtOk (b : At) : Prop := b.words.length ≤ 2 ∧ ∀ y ∈ b.words, y ∈ wordsX
noncomputable abbrev RowOk (r : Rw) : Prop := r.name ∈ [Str.ofString "a", Str.ofString "b", Str.ofString "a"] ∧ r.atts.length ≤ 3 ∧ ∀ b ∈ r.atts, AtOk b
/-- what _law_grown hands back -/
structure GrownC (P : Params) (a : Addr) (H : TH) (r : Value) (fp' : Led) : Prop where
  intro ::
  out : ∃ (o' : Obj) (R : Addr) (rvs : List Value) (n : Nat) (X Y : Led) (pt : List PN) (rows : List Rw), r = .ref R ∧ fp' = (a, o') :: (R, listOf rvs.toArray n) :: (X ++ Y) ∧ IsSrc o' ∧ TrP P H pt X ∧ Apart X Y ∧ OffFr [(a, o'), (R, listOf rvs.toArray n)] (X ++ Y) ∧ @Ne Nat a R ∧
    All2 (RowAt (InL Y)) rvs rows ∧ Grown pt rows ∧ 2 ≤ rows.length ∧ rows.length ≤ 5 ∧ pt.length ≤ 26 ∧ ∀ r ∈ rows, RowOk r
structure GJ (P : Params) (H : TH) (a : Addr) (o' : Obj) (R O : Addr) (rvs : List Value) (n1 : Nat) (lc : List (Nat × Tok)) (n2 : Nat) (X Y : Led) (pt : List PN) (rows : List Rw) (c : List Nat) : Prop where
  src : IsSrc o'
  tree : TrP P H pt X
  apart : Apart X Y
  off : OffFr [(a, o'), (R, listOf rvs.toArray n1), (O, listOf (nv lc).toArray n2)] (X ++ Y)
  ne : @Ne Nat a R ∧ @Ne Nat a O ∧ @Ne Nat R O
  rws : All2 (RowAt (InL Y)) rvs rows
  grown : Grown pt rows
  chain : Chain pt (0 :: c)
  lc : lc.map (·.1) = 0 :: c
  oks : ∀ r ∈ rows, RowOk r
theorem news_sub {h₀ h : Heap} {L : Addr} {l l' : Led} (N : News h₀ L h l) (k : ∀ p ∈ l', p ∈ l) : News h₀ L h l' := fun p hp => N p (k p hp)
theorem OffFr.nil {Z : Led} : OffFr [] Z := fun _ h => nomatch h
theorem OffFr.cons {front Z : Led} {a : Addr} {o : Obj} (h : ∀ p ∈ Z, p.1 ≠ a) (h2 : OffFr front Z) : OffFr ((a, o) :: front) Z := by
  intro q hq p hp
  rcases List.mem_cons.mp hq with rfl | hq
  · exact h p hp
  · exact h2 q hq p hp
theorem nv_take {l : List (Nat × Tok)} {n : Nat} : (nv l).take n = nv (l.take n) := by simp [nv, List.map_take]
theorem nv_len {l : List (Nat × Tok)} : (nv l).length = l.length := by simp [nv]
/-- what a piece of the code leaves, told once for all its branches -/
noncomputable def CutEnd (h₀ : Heap) (L : Addr) (m : Str → Option Value) (JJ : (Str → Option Value) → Led → Prop) (s : Shared) (fl : Flow) (s' : Shared) : Prop :=
  fl = .next ∧ ∃ h' tk' nn, s' = { s with heap := h', toks := tk' } ∧ Fr h₀ L h' m ∧ News h₀ L h' nn ∧ JJ m nn
theorem CutEnd.intro {h₀ h' : Heap} {L : Addr} {m : Str → Option Value} {JJ : (Str → Option Value) → Led → Prop} {s : Shared} {tk' : Nat} {nn : Led} (F : Fr h₀ L h' m) (N : News h₀ L h' nn) (j : JJ m nn) :
    CutEnd h₀ L m JJ s .next { s with heap := h', toks := tk' } := ⟨rfl, h', tk', nn, rfl, F, N, j⟩
theorem cut_rule {M : Model} {A : Around} {E : Value → Shared → Prop} {s : Shared} {h₀ : Heap} {L : Addr} {m : Str → Option Value} {c : Sem Flow} {Q : Flow → Shared → Prop} (JJ : (Str → Option Value) → Led → Prop) (_F : Fr h₀ L s.heap m)
    (h1 : wpAny M A c (CutEnd h₀ L m JJ s) E s)
    (h2 : ∀ h' tk' nn, Fr h₀ L h' m → News h₀ L h' nn → JJ m nn → Q .next { s with heap := h', toks := tk' }) : wpAny M A c Q E s :=
  wpAny_mono h1 (fun fl s' ⟨e, h', tk', nn, e2, F, N, j⟩ => by subst e; subst e2; exact h2 h' tk' nn F N j) fun _ _ e => e
noncomputable abbrev yRows : Str := Str.ofString "rows"
noncomputable abbrev yOpen : Str := Str.ofString "open_now"
noncomputable abbrev ysG : List Str := [Str.ofString "turn", yOpen, Str.ofString "name", Str.ofString "held", Str.ofString "node", Str.ofString "attribute", Str.ofString "words", Str.ofString "text"]
inductive JG (P : Params) (H : TH) (a : Addr) (i : Nat) (m : Str → Option Value) : Led → Prop
  | mk (R O : Addr) (o' : Obj) (rvs : List Value) (n1 : Nat) (lc : List (Nat × Tok)) (n2 : Nat) (X Y : Led) (pt : List PN) (rows : List Rw) (c : List Nat) (hR : m yRows = some (.ref R)) (hO : m yOpen = some (.ref O))
    (st : GJ P H a o' R O rvs n1 lc n2 X Y pt rows c) (q1 : rows.length = i) (q2 : pt.length ≤ 1 + 5 * i) (q3 : c.length ≤ 2 * i) : JG P H a i m ((a, o') :: (R, listOf rvs.toArray n1) :: (O, listOf (nv lc).toArray n2) :: (X ++ Y))
theorem take_chain {pt : List PN} {lc : List (Nat × Tok)} {c : List Nat} {k : Int} (hl : lc.map (·.1) = 0 :: c) (hc : Chain pt (0 :: c)) (h0 : 0 ≤ k) :
    ∃ lc2 c2, (nv lc).take (1 + k).toNat = nv lc2 ∧ lc2.map (·.1) = 0 :: c2 ∧ Chain pt (0 :: c2) ∧ c2.length ≤ c.length := by
  refine ⟨lc.take (1 + k).toNat, c.take k.toNat, nv_take, ?_, hc.take, List.length_take_le' ..⟩
  rw [List.map_take, hl, show (1 + k).toNat = k.toNat + 1 by omega]; rfl
/-- between the choice of the place and the new node -/
inductive JG2 (P : Params) (H : TH) (a I : Addr) (ito : Obj) (rvs : List Value) (n1 : Nat) (X Y : Led) (pt : List PN) (rows : List Rw) (z : Nat) (m : Str → Option Value) : Led → Prop
  | mk (R D : Addr) (o' : Obj) (lc : List (Nat × Tok)) (n2 : Nat) (c : List Nat) (hR : m yRows = some (.ref R)) (hD : m yOpen = some (.ref D)) (st : GJ P H a o' R D rvs n1 lc n2 X Y pt rows c) (h0 : c = [] → rows = []) (hc : c.length ≤ z + 1)
    (i1 : @Ne Nat a I) (i2 : @Ne Nat R I) (i3 : @Ne Nat D I) : JG2 P H a I ito rvs n1 X Y pt rows z m ((a, o') :: (I, ito) :: (R, listOf rvs.toArray n1) :: (D, listOf (nv lc).toArray n2) :: (X ++ Y))
theorem first_row {G : Addr → Obj → Prop} {rvs : List Value} {rows : List Rw} (h : All2 (RowAt G) rvs rows) (hne : rvs.isEmpty = false) : ∃ v rv r0 rs, rvs = v :: rv ∧ rows = r0 :: rs ∧ RowAt G v r0 := by
  cases h with
  | nil => cases hne
  | cons x _ => exact ⟨_, _, _, _, rfl, rfl, x⟩
theorem jg2_close {P : Params} {H : TH} {a I R O D : Addr} {o1 o' ito : Obj} {rvs : List Value} {n1 n2 n3 z : Nat} {X Y full : Led} {pt : List PN} {rows : List Rw} {lc0 lc : List (Nat × Tok)} {c0 c : List Nat} {m : Str → Option Value} {h₀ h' : Heap} {L : Addr} {s : Shared} {tk' : Nat} {vs : Array Value}
    (st : GJ P H a o1 R O rvs n1 lc0 n2 X Y pt rows c0) (F : Fr h₀ L h' m) (N : News h₀ L h' full) (hR : m yRows = some (.ref R)) (hD : m yOpen = some (.ref D)) (src : IsSrc o')
    (m1 : (a, o') ∈ full) (m2 : (I, ito) ∈ full) (m3 : (R, listOf rvs.toArray n1) ∈ full) (m4 : (D, listOf vs n3) ∈ full) (m5 : ∀ p ∈ X ++ Y, p ∈ full) (hvs : vs = (nv lc).toArray) (hl : lc.map (·.1) = 0 :: c) (ch : Chain pt (0 :: c)) (h0 : c = [] → rows = []) (hc : c.length ≤ z + 1)
    (hoff : ∀ p ∈ X ++ Y, p.1 ≠ D) (d1 : @Ne Nat a D) (d2 : @Ne Nat R D) (i1 : @Ne Nat a I) (i2 : @Ne Nat R I) (i3 : @Ne Nat D I) : CutEnd h₀ L m (JG2 P H a I ito rvs n1 X Y pt rows z) s .next { s with heap := h', toks := tk' } := by
  subst hvs
  refine CutEnd.intro (nn := (a, o') :: (I, ito) :: (R, listOf rvs.toArray n1) :: (D, listOf (nv lc).toArray n3) :: (X ++ Y)) F (news_sub N ?_) ⟨R, D, o', lc, n3, c, hR, hD, ⟨src, st.tree, st.apart, ?_, ⟨st.ne.1, d1, d2⟩, st.rws, st.grown, ch, hl, st.oks⟩, h0, hc, i1, i2, i3⟩
  · intro p hp
    rcases List.mem_cons.mp hp with rfl | hp
    · exact m1
    rcases List.mem_cons.mp hp with rfl | hp
    · exact m2
    rcases List.mem_cons.mp hp with rfl | hp
    · exact m3
    rcases List.mem_cons.mp hp with rfl | hp
    · exact m4
    · exact m5 p hp
  · refine OffFr.cons (fun p hp => st.off (a, o1) (.head _) p hp) (OffFr.cons (fun p hp => st.off (R, listOf rvs.toArray n1) (.tail _ (.head _)) p hp) (OffFr.cons hoff OffFr.nil))
theorem nv_push2 {l : List (Nat × Tok)} {z : Nat} {tk : Tok} : (nv l).toArray.push (.int (z : Int) tk) = (nv (l ++ [(z, tk)])).toArray := by rw [List.push_toArray, nv_push]
theorem len_one {l : List (Nat × Tok)} {c : List Nat} (h : ((nv l).length : Int) = 1) (hl : l.map (·.1) = 0 :: c) : c = [] := by
  have := congrArg List.length hl
  rw [List.length_map, List.length_cons] at this
  rw [nv_len] at h
  exact List.length_eq_zero_iff.mp (by omega)
theorem last_of {l : List (Nat × Tok)} {c : List Nat} (h : l.map (·.1) = 0 :: c) : ∃ tz, (nv l).getLast? = some (.int (((0 :: c).getLast (List.cons_ne_nil _ _) : Nat) : Int) tz) := by
  have hl : l ≠ [] := fun e => by rw [e] at h; cases h
  refine ⟨(l.getLast hl).2, ?_⟩
  rw [nv, List.getLast?_map, List.getLast?_eq_some_getLast hl]
  have : (l.getLast hl).1 = (0 :: c).getLast (List.cons_ne_nil _ _) := by
    have e := List.getLast_map (f := fun p : Nat × Tok => p.1) (l := l) (by simpa using hl)
    rw [← e]
    simp only [h]
  simp [this]
theorem len_nil {n : Nat} {c : List Nat} (h : n = c.length + 1) (e : c = []) : (n : Int) = 1 := by subst e; rw [h]; rfl
theorem rows_nil {G : Addr → Obj → Prop} {rvs : List Value} {rows : List Rw} (h : All2 (RowAt G) rvs rows) (he : rvs.isEmpty = true) : rows = [] := by
  cases h with
  | nil => rfl
  | cons _ _ => cases he
theorem isL_get {h₀ h : Heap} {L a : Addr} {o : Obj} {vs : List Value} {news : Led} (N : News h₀ L h news) (hm : (a, o) ∈ news) (t : IsT o vs) : IsTup h a vs.toArray := isTup_of (N.get hm) t
theorem rows_more {Y Y' : Led} {rvs : List Value} {rows : List Rw} (h : All2 (RowAt (InL Y)) rvs rows) (k : ∀ p ∈ Y, p ∈ Y') : All2 (RowAt (InL Y')) rvs rows := h.mono fun _ _ x => x.mono fun _ _ m => k _ m
theorem held_more {Y Y' : Led} {hvs : List Value} {atts : List At} (h : All2 (HeldAt (InL Y)) hvs atts) (k : ∀ p ∈ Y, p ∈ Y') : All2 (HeldAt (InL Y')) hvs atts := h.mono fun _ _ x => x.mono fun _ _ m => k _ m
noncomputable abbrev irs : List Str := [Str.ofString "i", Str.ofString "r", Str.ofString "s"]
noncomputable abbrev irsV (t1 t2 t3 : Tok) : List Value := [.str (Str.ofString "i") t1, .str (Str.ofString "r") t2, .str (Str.ofString "s") t3]
theorem irs_at {t1 t2 t3 : Tok} {i : Nat} {v : Value} (h : (irsV t1 t2 t3)[i]? = some v) : i < 3 ∧ ∃ x t, v = .str x t ∧ x ∉ irs.take i ∧ irs.take (i + 1) = irs.take i ++ [x] := by
  match i, h with
  | 0, h => cases h; exact ⟨by decide, _, _, rfl, by decide, rfl⟩
  | 1, h => cases h; exact ⟨by decide, _, _, rfl, by decide, rfl⟩
  | 2, h => cases h; exact ⟨by decide, _, _, rfl, by decide, rfl⟩
  | n + 3, h => simp at h
/-- within the loop over the attributes -/
inductive JA (P : Params) (H : TH) (a I R D Hl LL : Addr) (ito oR oD oL : Obj) (rvs : List Value) (pn : Nat) (rows : List Rw) (c : List Nat) (z : Nat) (nm : Str) (j : Nat) (m : Str → Option Value) : Led → Prop
  | mk (o' : Obj) (hvs : List Value) (n : Nat) (X Y : Led) (pt : List PN) (atts : List At) (src : IsSrc o') (tr : TrP P H pt X) (ap : Apart X Y)
    (off : OffFr [(a, o'), (I, ito), (R, oR), (D, oD), (Hl, listOf hvs.toArray n), (LL, oL)] (X ++ Y)) (rws : All2 (RowAt (InL Y)) rvs rows) (hld : All2 (HeldAt (InL Y)) hvs atts) (gr : Grown pt (rows ++ [⟨z, nm, atts⟩])) (ch : Chain pt (0 :: c ++ [z])) (nms : ∀ b ∈ atts, b.name ∈ irs.take j ∧ AtOk b) (hp : pt.length ≤ pn + j) (hv : hvs.length ≤ j) :
    JA P H a I R D Hl LL ito oR oD oL rvs pn rows c z nm j m ((a, o') :: (I, ito) :: (R, oR) :: (D, oD) :: (Hl, listOf hvs.toArray n) :: (LL, oL) :: (X ++ Y))
theorem other_atts {pt : List PN} {rows : List Rw} {z j : Nat} {nm an : Str} {atts : List At} (gr : Grown pt (rows ++ [⟨z, nm, atts⟩])) (nms : ∀ b ∈ atts, b.name ∈ irs.take j ∧ AtOk b) (hno : an ∉ irs.take j) :
    ∃ q, pt[z]? = some q ∧ q.kind = kElem ∧ ∀ a ∈ q.atts, ∃ e, pt[a]? = some e ∧ e.loc ≠ an := by
  obtain ⟨q, e, h1, h2, h3, h4⟩ := gr.row ⟨z, nm, atts⟩ (List.mem_append_right _ (List.mem_singleton.mpr rfl))
  refine ⟨q, e, h1, fun a ha => ?_⟩
  rw [h3] at ha
  obtain ⟨b, hb, rfl⟩ := List.mem_map.mp ha
  obtain ⟨e', f1, f2, f3, _⟩ := h4 b hb
  exact ⟨e', f1, fun he => hno (by rw [← he, f3]; exact (nms b hb).1)⟩
theorem off_ins {x a b : Addr} {oa ob : Obj} {X Y : Led} (h : ∀ p ∈ X ++ Y, p.1 ≠ x) (h1 : @Ne Nat a x) (h2 : @Ne Nat b x) : ∀ p ∈ X ++ (a, oa) :: (b, ob) :: Y, p.1 ≠ x := by
  intro p hp
  rcases List.mem_append.mp hp with hp | hp
  · exact h p (List.mem_append_left _ hp)
  · rcases List.mem_cons.mp hp with rfl | hp
    · exact h1
    · rcases List.mem_cons.mp hp with rfl | hp
      · exact h2
      · exact h p (List.mem_append_right _ hp)
/-- a number is none of those -/
noncomputable def NeL (x : Addr) : List Addr → Prop
  | [] => True
  | a :: r => @Ne Nat x a ∧ NeL x r
theorem ne_keys {l : Led} {x : Addr} (h : ∀ p ∈ l, p.1 ≠ x) : ∀ b ∈ keys l, b ≠ x := fun b hb => by
  obtain ⟨p, hp, rfl⟩ := List.mem_map.mp hb
  exact h p hp
theorem size_ok {a b i j : Nat} {k : Int} (h1 : a ≤ b + 1 + j) (h2 : j < 3) (h3 : b ≤ 1 + 5 * i) (h4 : i < (2 + k).toNat) (h5 : k < 4) : a < 2 ^ 20 := by omega
theorem node_at {pt : List PN} {rows : List Rw} {z : Nat} {nm : Str} {atts : List At} (gr : Grown pt (rows ++ [⟨z, nm, atts⟩])) : ∃ q, pt[z]? = some q ∧ q.kind ∈ [kRoot, kElem] := by
  obtain ⟨q, e, h1, _⟩ := gr.row ⟨z, nm, atts⟩ (List.mem_append_right _ (List.mem_singleton.mpr rfl))
  exact ⟨q, e, by rw [h1]; simp⟩
theorem jg_turn {P : Params} {H : TH} {a I R D Hl tu : Addr} {ito o1 o' otu : Obj} {rvs hvs : List Value} {n n1 n2 n3 n5 z i : Nat} {lc : List (Nat × Tok)} {X0 X Y0 Y full : Led} {pt0 pt5 : List PN} {rows : List Rw} {c0 c : List Nat} {nm v : Str} {atts : List At} {m' m₀ : Str → Option Value} {h₀ h' : Heap} {L : Addr} {s₁ : Shared} {tk' : Nat} {ti tn tz : Tok}
    (st : GJ P H a o1 R D rvs n1 lc n2 X0 Y0 pt0 rows c) (F : Fr h₀ L h' m') (N : News h₀ L h' full) (hm : ∀ y, y ∉ ysG → m' y = m₀ y) (hR : m' yRows = some (.ref R)) (hD : m' yOpen = some (.ref D))
    (mI : (I, ito) ∈ full) (m1 : (a, o') ∈ full) (m3 : (R, listOf (rvs.toArray.push (.ref tu)) n3) ∈ full) (m4 : (D, listOf ((nv lc).toArray.push (.int (z : Int) tz)) n5) ∈ full) (m5 : (Hl, listOf hvs.toArray n) ∈ full) (m6 : (tu, otu) ∈ full) (m7 : ∀ p ∈ X ++ Y, p ∈ full)
    (ho : IsSrc o') (tr : TrP P H (pt5.modify z (PN.kid pt5.length) ++ [textN v]) X) (ap : Apart X Y) (off : ∀ y ∈ [a, R, D, I, Hl, tu], ∀ p ∈ X ++ Y, p.1 ≠ y) (f1 : NeL tu [a, R, D, I, Hl]) (f2 : NeL Hl [a, R, D, I]) (f3 : NeL I [a, R, D])
    (hr : All2 (RowAt (InL Y)) rvs rows) (hh : All2 (HeldAt (InL Y)) hvs atts) (gr : Grown pt5 (rows ++ [⟨z, nm, atts⟩])) (ch : Chain pt5 (0 :: c ++ [z])) (hz : z ∉ 0 :: c) (ht : IsT otu [.int (z : Int) ti, .str nm tn, .ref Hl])
    (q1 : rows.length = i) (q2 : pt0.length ≤ 1 + 5 * i) (q3 : c0.length ≤ 2 * i) (q4 : c.length ≤ c0.length + 1) (q5 : pt5.length ≤ pt0.length + 1 + 3) (hok : RowOk ⟨z, nm, atts⟩) :
    TurnEnd h₀ L I ito (fun m nn => (∀ y, y ∉ ysG → m y = m₀ y) ∧ JG P H a (i + 1) m nn) s₁ { s₁ with heap := h', toks := tk' } := by
  have hY : ∀ p ∈ Y, p ∈ (tu, otu) :: (Hl, listOf hvs.toArray n) :: Y := fun p hp => .tail _ (.tail _ hp)
  obtain ⟨g1, g2, g3, g4, g5, -⟩ := f1
  obtain ⟨k1, k2, k3, k4, -⟩ := f2
  obtain ⟨i1, i2, i3, -⟩ := f3
  have oo : ∀ (y : Addr), y ∈ [a, R, D, I, Hl, tu] → @Ne Nat tu y → @Ne Nat Hl y → ∀ p ∈ X ++ (tu, otu) :: (Hl, listOf hvs.toArray n) :: Y, p.1 ≠ y := fun y hy h1 h2 => off_ins (off y hy) h1 h2
  refine TurnEnd.intro (news' := (a, o') :: (R, listOf (rvs ++ [Value.ref tu]).toArray n3) :: (D, listOf (nv (lc ++ [(z, tz)])).toArray n5) :: (X ++ (tu, otu) :: (Hl, listOf hvs.toArray n) :: Y)) F N mI ?_ ?_
    ⟨hm, R, D, o', rvs ++ [Value.ref tu], n3, lc ++ [(z, tz)], n5, X, (tu, otu) :: (Hl, listOf hvs.toArray n) :: Y, _, rows ++ [⟨z, nm, atts⟩], c ++ [z], hR, hD, ⟨ho, tr, ?_, ?_, st.ne, ?_, gr.text ?_ v, Grown.text_chain (c := 0 :: c) ch hz, ?_, fun r hr => (List.mem_append.mp hr).elim (st.oks r) fun h => by rw [List.mem_singleton.mp h]; exact hok⟩, ?_, ?_, ?_⟩
  · rw [← List.push_toArray, ← nv_push2]
    intro p hp
    rcases List.mem_cons.mp hp with rfl | hp
    · exact m1
    rcases List.mem_cons.mp hp with rfl | hp
    · exact m3
    rcases List.mem_cons.mp hp with rfl | hp
    · exact m4
    rcases List.mem_append.mp hp with hp | hp
    · exact m7 p (List.mem_append_left _ hp)
    rcases List.mem_cons.mp hp with rfl | hp
    · exact m6
    rcases List.mem_cons.mp hp with rfl | hp
    · exact m5
    · exact m7 p (List.mem_append_right _ hp)
  · intro p hp
    rcases List.mem_cons.mp hp with rfl | hp
    · exact Ne.symm i1
    rcases List.mem_cons.mp hp with rfl | hp
    · exact Ne.symm i2
    rcases List.mem_cons.mp hp with rfl | hp
    · exact Ne.symm i3
    · exact oo I (by simp) g4 k4 p hp
  · exact (ap.ins (off Hl (by simp))).ins (fun p hp => by
      rcases List.mem_append.mp hp with hp | hp
      · exact off tu (by simp) p (List.mem_append_left _ hp)
      · rcases List.mem_cons.mp hp with rfl | hp
        · exact Ne.symm g5
        · exact off tu (by simp) p (List.mem_append_right _ hp))
  · exact .cons (oo a (by simp) g1 k1) (.cons (oo R (by simp) g2 k2) (.cons (oo D (by simp) g3 k3) .nil))
  · exact (rows_more hr hY).push ⟨tu, otu, ti, tn, Hl, _, hvs, rfl, .head _, ht, .tail _ (.head _), ⟨rfl, _, rfl⟩, held_more hh hY⟩
  · simp [nodes]
  · rw [List.map_append, st.lc]; rfl
  · simp [q1]
  · simp; omega
  · simp; omega
theorem size_ok3 {a b i : Nat} {k : Int} (h1 : a ≤ b + 1 + 3) (h3 : b ≤ 1 + 5 * i) (h4 : i < (2 + k).toNat) (h5 : k < 4) : a < 2 ^ 20 := by omega
theorem len_ok {a b i : Nat} {k : Int} (h1 : a = b) (h2 : b = i) (h4 : i < (2 + k).toNat) (h5 : k < 4) : a ≤ 5 := by omega
theorem size_lc {a b i : Nat} {k : Int} (h1 : a = b + 1) (h3 : b ≤ 2 * i) (h4 : i < (2 + k).toNat) (h5 : k < 4) : a ≤ 20 := by omega
theorem size_end {a : Nat} {k : Int} (h1 : a = (2 + k).toNat) (h2 : 0 ≤ k) (h3 : k < 4) : 2 ≤ a ∧ a ≤ 5 := by omega
theorem size_end2 {a : Nat} {k : Int} (h1 : a ≤ 1 + 5 * (2 + k).toNat) (h3 : k < 4) : a ≤ 26 := by omega
theorem size_pt {a i : Nat} {k : Int} (h1 : a ≤ 1 + 5 * i) (h4 : i < (2 + k).toNat) (h5 : k < 4) : a ≤ 26 := by omega
theorem one_le_len {n b : Nat} (h : n = b + 1) : (1 : Int) ≤ n := by omega
theorem le64 {n : Nat} (h : n ≤ 20) : (n : Int) ≤ 64 := by omega
theorem pos1 {k : Int} (h : 0 ≤ k) : 0 ≤ 1 + k := by omega
theorem arr_size {vs : List Value} (h : vs.length ≤ 20) : vs.toArray.size ≤ sizeLine := by rw [List.size_toArray, sizeLine_eq]; omega
theorem size2 {a b c d : Nat} (h : a = b + 1) (h2 : b ≤ c) (h3 : d = c + 1) (h4 : d ≤ 20) : a ≤ 20 := by omega
theorem len_ok2 {a b c i : Nat} {k : Int} (h1 : a = b + 1) (h2 : b ≤ c + 1) (h3 : c ≤ 2 * i) (h4 : i < (2 + k).toNat) (h5 : k < 4) : a ≤ 20 := by omega
theorem grown_sub {p1 p2 p3 : Addr × Obj} {Z : Led} : ∀ p ∈ p1 :: p2 :: Z, p ∈ p1 :: p2 :: p3 :: Z := fun p hp => by
  rcases List.mem_cons.mp hp with rfl | hp
  · exact .head _
  rcases List.mem_cons.mp hp with rfl | hp
  · exact .tail _ (.head _)
  · exact .tail _ (.tail _ (.tail _ hp))
theorem grown_sub2 {p1 p2 p3 : Addr × Obj} : ∀ p ∈ [p1, p2], p ∈ [p1, p2, p3] := fun p hp => by
  rcases List.mem_cons.mp hp with rfl | hp
  · exact .head _
  · rw [List.mem_singleton.mp hp]; exact .tail _ (.head _)
theorem at_ok {x an : Str} {i : Nat} {vs : List Value} (h : splitS x = strsV vs) (h2 : vs.length ≤ 2) (h3 : ∀ y ∈ strsV vs, y ∈ wordsX) : AtOk ⟨i, an, splitS x⟩ := ⟨by show (splitS x).length ≤ 2; rw [h]; exact strsV_len h2, by show ∀ y ∈ splitS x, _; rw [h]; exact h3⟩
theorem ja_set {P : Params} {H : TH} {a I R D Hl LL I2 tu wl : Addr} {ito oR oD oL o' ito2 ow otu : Obj} {rvs : List Value} {pn z j n : Nat} {rows : List Rw} {c : List Nat} {nm : Str} {m' m₀ : Str → Option Value} {ys : List Str} {h₀ h' : Heap} {L : Addr} {full : Led} {s₁ : Shared} {tk' : Nat}
    {hvs : List Value} {X Y : Led} {pt : List PN} {atts : List At} {an x : Str} {ti tn : Tok} {vs : List Value}
    (F : Fr h₀ L h' m') (N : News h₀ L h' full) (hm : ∀ y, y ∉ ys → m' y = m₀ y) (mI2 : (I2, ito2) ∈ full) (m1 : (a, o') ∈ full) (m2 : (I, ito) ∈ full) (m3 : (R, oR) ∈ full) (m4 : (D, oD) ∈ full) (m5 : (Hl, listOf (hvs.toArray.push (.ref tu)) (n + 1)) ∈ full) (m6 : (LL, oL) ∈ full) (m7 : ∀ p ∈ X ++ Y, p ∈ full)
    (m8 : (tu, otu) ∈ full) (m9 : (wl, ow) ∈ full) (ho : IsSrc o') (tr : TrP P H (pt.modify z (PN.att pt.length) ++ [attrN an an x]) X) (ap : Apart X Y) (off : ∀ y ∈ [a, I, R, D, Hl, LL, I2, wl, tu], ∀ p ∈ X ++ Y, p.1 ≠ y)
    (f1 : NeL tu [a, I, R, D, Hl, LL, I2, wl]) (f2 : NeL wl [a, I, R, D, Hl, LL, I2]) (f3 : NeL I2 [a, I, R, D, Hl, LL]) (hr : All2 (RowAt (InL Y)) rvs rows) (hh : All2 (HeldAt (InL Y)) hvs atts) (gr : Grown pt (rows ++ [⟨z, nm, atts⟩])) (ch : Chain pt (0 :: c ++ [z])) (hz : z ∉ 0 :: c)
    (nms : ∀ b ∈ atts, b.name ∈ irs.take j ∧ AtOk b) (hk : irs.take (j + 1) = irs.take j ++ [an]) (hp : pt.length ≤ pn + j) (hl : hvs.length ≤ j) (ht : IsT otu [.int (pt.length : Int) ti, .str an tn, .ref wl]) (hw : IsL ow vs) (hv : allStr vs = true) (hx : splitS x = strsV vs) (hx12 : x.length ≤ 12) (hok : AtOk ⟨pt.length, an, splitS x⟩) :
    TurnEnd h₀ L I2 ito2 (fun m nn => (∀ y, y ∉ ys → m y = m₀ y) ∧ JA P H a I R D Hl LL ito oR oD oL rvs pn rows c z nm (j + 1) m nn) s₁ { s₁ with heap := h', toks := tk' } := by
  have hY : ∀ p ∈ Y, p ∈ (tu, otu) :: (wl, ow) :: Y := fun p hp => .tail _ (.tail _ hp)
  obtain ⟨g1, g2, g3, g4, g5, g6, g7, g8, -⟩ := f1
  obtain ⟨k1, k2, k3, k4, k5, k6, k7, -⟩ := f2
  obtain ⟨i1, i2, i3, i4, i5, i6, -⟩ := f3
  have oo : ∀ (y : Addr), y ∈ [a, I, R, D, Hl, LL, I2, wl, tu] → @Ne Nat tu y → @Ne Nat wl y → ∀ p ∈ X ++ (tu, otu) :: (wl, ow) :: Y, p.1 ≠ y := fun y hy h1 h2 => off_ins (off y hy) h1 h2
  refine TurnEnd.intro (news' := (a, o') :: (I, ito) :: (R, oR) :: (D, oD) :: (Hl, listOf (hvs ++ [Value.ref tu]).toArray (n + 1)) :: (LL, oL) :: (X ++ (tu, otu) :: (wl, ow) :: Y)) F N mI2 ?_ ?_
    ⟨hm, o', hvs ++ [.ref tu], n + 1, X, (tu, otu) :: (wl, ow) :: Y, _, atts ++ [⟨pt.length, an, splitS x⟩], ho, tr, ?_, ?_, rows_more hr hY, (held_more hh hY).push ⟨tu, otu, ti, tn, wl, ow, vs, rfl, .head _, ht, .tail _ (.head _), hw, hv, hx.symm⟩, gr.att an x hx12, Grown.att_chain (c := 0 :: c) ch hz, ?_, by simp; omega, by simp; omega⟩
  · rw [← List.push_toArray]
    intro p hp
    rcases List.mem_cons.mp hp with rfl | hp
    · exact m1
    rcases List.mem_cons.mp hp with rfl | hp
    · exact m2
    rcases List.mem_cons.mp hp with rfl | hp
    · exact m3
    rcases List.mem_cons.mp hp with rfl | hp
    · exact m4
    rcases List.mem_cons.mp hp with rfl | hp
    · exact m5
    rcases List.mem_cons.mp hp with rfl | hp
    · exact m6
    rcases List.mem_append.mp hp with hp | hp
    · exact m7 p (List.mem_append_left _ hp)
    rcases List.mem_cons.mp hp with rfl | hp
    · exact m8
    rcases List.mem_cons.mp hp with rfl | hp
    · exact m9
    · exact m7 p (List.mem_append_right _ hp)
  · intro p hp
    rcases List.mem_cons.mp hp with rfl | hp
    · exact Ne.symm i1
    rcases List.mem_cons.mp hp with rfl | hp
    · exact Ne.symm i2
    rcases List.mem_cons.mp hp with rfl | hp
    · exact Ne.symm i3
    rcases List.mem_cons.mp hp with rfl | hp
    · exact Ne.symm i4
    rcases List.mem_cons.mp hp with rfl | hp
    · exact Ne.symm i5
    rcases List.mem_cons.mp hp with rfl | hp
    · exact Ne.symm i6
    · exact oo I2 (by simp) g7 k7 p hp
  · exact (ap.ins (off wl (by simp))).ins (fun p hp => by
      rcases List.mem_append.mp hp with hp | hp
      · exact off tu (by simp) p (List.mem_append_left _ hp)
      · rcases List.mem_cons.mp hp with rfl | hp
        · exact Ne.symm g8
        · exact off tu (by simp) p (List.mem_append_right _ hp))
  · exact .cons (oo a (by simp) g1 k1) (.cons (oo I (by simp) g2 k2) (.cons (oo R (by simp) g3 k3) (.cons (oo D (by simp) g4 k4) (.cons (oo Hl (by simp) g5 k5) (.cons (oo LL (by simp) g6 k6) .nil)))))
  · intro b hb
    rw [hk]
    rcases List.mem_append.mp hb with hb | hb
    · exact ⟨List.mem_append_left _ (nms b hb).1, (nms b hb).2⟩
    · rw [List.mem_singleton.mp hb]; exact ⟨List.mem_append_right _ (List.mem_singleton.mpr rfl), hok⟩
theorem ja_skip {P : Params} {H : TH} {a I R D Hl LL I2 : Addr} {ito oR oD oL o' ito2 : Obj} {rvs : List Value} {pn z j n : Nat} {rows : List Rw} {c : List Nat} {nm : Str} {m' m₀ : Str → Option Value} {ys : List Str} {h₀ h' : Heap} {L : Addr} {full : Led} {s₁ : Shared} {tk' : Nat}
    {hvs : List Value} {X Y : Led} {pt : List PN} {atts : List At} (F : Fr h₀ L h' m') (N : News h₀ L h' full) (hm : ∀ y, y ∉ ys → m' y = m₀ y) (mI2 : (I2, ito2) ∈ full) (m7 : ∀ p ∈ (a, o') :: (I, ito) :: (R, oR) :: (D, oD) :: (Hl, listOf hvs.toArray n) :: (LL, oL) :: (X ++ Y), p ∈ full)
    (hne : ∀ p ∈ (a, o') :: (I, ito) :: (R, oR) :: (D, oD) :: (Hl, listOf hvs.toArray n) :: (LL, oL) :: (X ++ Y), p.1 ≠ I2) (ho : IsSrc o') (tr : TrP P H pt X) (ap : Apart X Y) (off : OffFr [(a, o'), (I, ito), (R, oR), (D, oD), (Hl, listOf hvs.toArray n), (LL, oL)] (X ++ Y))
    (hr : All2 (RowAt (InL Y)) rvs rows) (hh : All2 (HeldAt (InL Y)) hvs atts) (gr : Grown pt (rows ++ [⟨z, nm, atts⟩])) (ch : Chain pt (0 :: c ++ [z]))
    (nms : ∀ b ∈ atts, b.name ∈ irs.take j ∧ AtOk b) (hp : pt.length ≤ pn + j) (hl : hvs.length ≤ j) :
    TurnEnd h₀ L I2 ito2 (fun m nn => (∀ y, y ∉ ys → m y = m₀ y) ∧ JA P H a I R D Hl LL ito oR oD oL rvs pn rows c z nm (j + 1) m nn) s₁ { s₁ with heap := h', toks := tk' } :=
  TurnEnd.intro F N mI2 m7 hne ⟨hm, o', hvs, n, X, Y, pt, atts, ho, tr, ap, off, hr, hh, gr, ch, fun b hb => ⟨(List.take_subset_take_left _ (Nat.le_succ j)) (nms b hb).1, (nms b hb).2⟩, by omega, by omega⟩
theorem OffFr.rep {front front' Z : Led} (h : OffFr front Z) (e : keys front' = keys front) : OffFr front' Z := fun q hq p hp => by
  have : q.1 ∈ keys front := e ▸ List.mem_map_of_mem hq
  obtain ⟨q', hq', e'⟩ := List.mem_map.mp this
  rw [← e']; exact h q' hq' p hp
section
theorem item_last' {prog : Program} {w : World} {A : Around} {E : Value → Shared → Prop} {s : Shared} {l : Addr} {value slice : PySem.Expr} {vs : List Value} {Q : Value → Shared → Prop} {u : Tok} {v : Value} (hl : s.heap.IsList l vs.toArray) (hz : vs.length ≤ 2 ^ 24) (hx : vs.getLast? = some v) (h : Q v s)
    (hs : subscripted slice false (.ref l) (.int (-1) u) = operate [.ref l, .int (-1) u] (getItem (.ref l) (.int (-1) u)) := by with_unfolding_all rfl) :
    wpAny (model prog w) A (subscriptTail value slice (.ref l) (.int (-1) u)) Q E s := by
  have hne : vs ≠ [] := fun e => by subst e; cases hx
  rw [List.getLast?_eq_some_getLast hne] at hx
  exact item_last hl hz hne (Option.some.inj hx) h hs
theorem rows12 : True := by
  k_with_none
  k_with "ktr_enter" =>
    (refine enter_cells (by k_asm) (by k_asm) (by k_asm) (by k_asm) (by k_asm) (by exact rfl) (by exact rfl) (by assumption) (by k_is) (by k_is) (by ktr_room) (by exact BindsTo.of_eq rfl) (by exact rfl) (by decide +kernel) ?_ (by exact rfl) (by exact rfl) (by exact rfl); k_whole; intro g' L' h' tk' cells' FG' F' N' Y' B' X' T' l1 kG'; (try k_lt l1); k_cells Y'; (try dsimp only [List.cons_append, List.nil_append] at N'); (try dsimp only); (try k_fold))
  k_with "ktr_enter" =>
    (refine code_defG (by k_asm) (by k_asm) (by k_asm) (by k_asm) (by k_asm) (by exact rfl) (by exact rfl) (by assumption) (by k_is) (by k_is) (by ktr_room) (by exact BindsTo.of_eq rfl) (by exact locs rfl) ?_ (by exact rfl) (by exact rfl) (by exact rfl) (by decide); k_whole; intro g' L' h' FG' F' N' B' X' T' kG'; (try dsimp only); (try k_fold))
  k_with "k_ne" =>
    (refine neN ?_; (try dsimp only); with_reducible first | assumption | exact Ne.symm (by assumption) | exact Nat.ne_of_gt (by assumption) | exact Nat.ne_of_lt (by assumption) | exact Nat.ne_of_gt (Nat.lt_succ_of_lt (by assumption)) | exact Nat.ne_of_lt (Nat.lt_succ_of_lt (by assumption)))
  k_with "k_lt" =>
    (intro l1; replace l1 := allLt_of l1; (try dsimp only [AllLt] at l1); (repeat (with_reducible (have O8 := And.left l1; replace l1 := And.right l1))))
  k_with "my pick" =>
    (first | (refine Pick1.head ?_; k_extra "k_all") | exact Pick1.tail (by k_ne) (by k_extra "my pick"))
  k_with "my sub" =>
    (first | exact List.forall_mem_nil _ | (refine List.forall_mem_cons.mpr ⟨by k_mem, ?_⟩; k_extra "my sub"))
  k_with "k_room" =>
    ((try simp only [depth_under_make, depth_under_kw, depth_in1, depth_deeper, depth_caller]); (try dsimp only [ktrTop]); omega)
  k_with "my and" =>
    (first | assumption | exact And.intro (by k_ne) (by k_extra "my and") | k_ne)
  k_with "my conj" =>
    (intro l1; (repeat (with_reducible (have O8 := And.left l1; replace l1 := And.right l1))))
  k_with "my off" =>
    ((rename OffL _ _ => O9); (try dsimp only [OffL, Off1, keys, nodeLed, List.map] at O9); revert O9; k_extra "my conj2")
  k_with "CompRest" =>
    (with_unfolding_all first | (refine LCg.CompRest.succ ?_; intro v' I' oI' C' oC' D' m' h' tk' E' hv' hC' hx' F' N' off' ne'; (first | lcg_open hv' | (obtain ⟨t9', hv9'⟩ := hv'; subst hv9')); (try dsimp only [LCg.Off3] at off'); revert off'; k_extra "my conj2"; revert ne'; k_extra "my conj") | refine LCg.CompRest.zero ?_)
  k_with "FinE" =>
    ((unfold LCg.FinE); intro D' h' tk' F' N' o1'; (try dsimp only [LCg.Off1] at o1'); (try dsimp only [List.nil_append, List.cons_append] at N'); (try dsimp only); revert o1'; k_extra "my conj")
  k_with "FinA" =>
    ((unfold LCg.FinA); intro D' h' tk' F' N' o1'; (try dsimp only [LCg.Off1] at o1'); (try dsimp only [List.nil_append, List.cons_append] at N'); (try dsimp only); revert o1'; k_extra "my conj")
  k_with "k_all" =>
    (first | exact List.forall_mem_nil _ | exact Off1.all (by with_reducible assumption) | exact AllLt.ne (by with_reducible assumption) | exact List.forall_mem_cons.mpr ⟨by k_ne, by k_extra "k_all"⟩)
  k_with "my conj2" =>
    (intro l2; (repeat (with_reducible (have l1 := And.left l2; replace l2 := And.right l2; revert l1; k_extra "my conj"))))
  k_with "my same" =>
    (intro z9 hz9; first | rfl | (refine same_step hz9 (by k_mem) ?_; k_extra "my same2") | ((simp only [List.mem_cons, List.not_mem_nil, or_false, not_or] at hz9); first | rfl | (simp only [hz9, if_false, if_neg, over, not_false_eq_true]; done) | (simp [hz9, over]; done)))
  k_with "my same2" =>
    (first | rfl | (refine same_step (by assumption) (by k_mem) ?_; k_extra "my same2"))
  k_with "TurnPost" =>
    (dsimp only [TurnPost])
  k_with "my for" =>
    (k_here; (rename Fr _ _ _ _ => lF'); (with_unfolding_all refine For_turns lF' ?_ (hE := by first | passes_own | assumption); k_whole))
  k_with "execs cons" =>
    (refine wpAny_execs_cons ?_; (try k_fold))
  k_with "room" =>
    (first | exact room2 (by assumption) (by exact rfl) | exact room3 (by assumption) (by exact rfl) | exact room1 (by assumption) (by exact rfl) | exact room0 (by assumption) | exact room4 (by assumption) (by exact rfl))
  k_with "k_room" =>
    (k_extra "room")
  k_with "my in" =>
    (with_reducible first | assumption | (refine List.mem_append_left _ ?_; assumption) | (refine List.mem_append_right _ ?_; assumption) | (refine List.mem_cons_of_mem _ ?_; k_extra "my in"))
  k_with "my size" =>
    (first | exact Nat.le_trans (m := 20) (by assumption) (Nat.le_of_ble_eq_true rfl) | exact Nat.le_trans (m := 5) (by assumption) (Nat.le_of_ble_eq_true rfl) | exact Nat.le_trans (m := 3) (by assumption) (Nat.le_of_ble_eq_true rfl) | omega)
  k_with "my tail" =>
    (intro p9 hp9; k_extra "my in")
  k_with "my subs" =>
    (first | exact List.forall_mem_nil _ | k_extra "my tail" | (refine List.forall_mem_cons.mpr ⟨by k_mem, ?_⟩; k_extra "my subs") | with_reducible (refine List.forall_mem_append.mpr ⟨?_, ?_⟩ <;> k_extra "my subs"))
  k_with "k_inst" =>
    (exact TrP.inst (by assumption) (by k_asm) (by k_extra "my tail"))
  k_with "my front" =>
    (first | (exact Front.nil) | (refine Front.cons (by k_all) (by k_extra "my front")))
  k_with "k_all" =>
    (first | (refine OffFr.all (by with_reducible assumption) (by k_mem)) | (fail "my off"))
  k_with "exec For Name Call cons nil" =>
    (k_extra "my for")
  k_with "exec For Name List cons nil" =>
    (k_extra "my for")
  k_with "call ref" =>
    (k_here; (with_reducible show wpAny _ _ (call (Value.ref 463) [Value.ref _, Value.int _ _]) _ _ _); k_dflt (refine use_ct1p (by k_asm) (by k_asm) (by k_asm) (by k_asm) (by k_asm) (by first | exact rfl | assumption) (by k_extra "my pick") trivial (take_ct _ _ _ _ _ (by assumption) (by first | decide | exact one_le_len (by assumption)) (by first | decide | exact le64 (by assumption))) (by ktr_room) (by ktr_units) ?_; intro r9 fp9 h9 tk9 F9 N9 O9 R9; obtain ⟨k9, t9, o9, e9, hk9, hk9', ho9, f9⟩ := R9; subst e9; subst f9; k_extra "my off"; (try dsimp only [List.cons_append, List.nil_append] at N9); (try dsimp only); (try k_fold)))
  k_with "call ref" =>
    (k_here; (with_reducible show wpAny _ _ (call (Value.ref 470) [Value.ref _, Value.ref _]) _ _ _); k_dflt (refine use_ct1p (by k_asm) (by k_asm) (by k_asm) (by k_asm) (by k_asm) (by first | exact rfl | assumption) (by k_extra "my pick") (by exact News.isList (by k_asm) (by k_mem)) (one_str _ _ _ _ _ (by assumption) (by k_ne) (by exact rfl) (by exact Nat.le_of_ble_eq_true rfl) (by exact Nat.le_of_ble_eq_true rfl)) (by ktr_room) (by ktr_units) ?_; intro r9 fp9 h9 tk9 F9 N9 O9 R9; obtain ⟨x9, t9, o9, e9, hx9, ho9, f9⟩ := R9; subst e9; subst f9; (try dsimp only [intsV, strsV] at hx9); k_extra "my off"; (try dsimp only [List.cons_append, List.nil_append] at N9); (try dsimp only); (try k_fold)))
  k_with "my offr" =>
    (first | exact OffFr.nil | (refine OffFr.cons (by k_all) ?_; k_extra "my offr"))
  k_with "subscriptTail Name Slice ref ref" =>
    (k_here; (with_reducible show wpAny _ _ (subscriptTail _ (PySem.Expr.Slice none (some _) none _) (Value.ref _) (Value.ref _)) _ _ _); k_dflt (refine slice_take (by k_asm) (by k_asm) (by exact News.isList (by k_asm) (by k_mem)) (by exact pos1 (by assumption)) ?_ (by with_unfolding_all rfl) (by kmk_pure) (by exact arr_size (by assumption))); intro D' h' F' N' l1; (try k_lt l1); (try k_sweep))
  k_with "call builtin:len" =>
    (k_here; refine len_now (News.isList (by k_asm) (by k_mem)) (by k_extra "my size") ?_)
  k_with "compareOp NotEq ref ref" =>
    (k_here; (with_reducible show wpAny _ _ (compareOp CmpOp.NotEq (Value.ref _) (Value.ref _)) _ _ _); k_dflt (refine ne_nil_rule (News.isList (by k_asm) (by k_mem)) (News.isList (by k_asm) (by k_mem)) (by ke_room) ?_))
  k_with "my each" =>
    (first | exact List.forall_mem_nil _ | (refine List.forall_mem_cons.mpr ⟨by k_all, ?_⟩; k_extra "my each"))
  k_with "my nes" =>
    (first | exact trivial | (refine ⟨by k_ne, ?_⟩; k_extra "my nes"))
  k_with "exec If" =>
    (k_here; (fail_if_success (have := (‹Going› : Going))); refine halt ?_)
  k_with "call builtin:len cons" =>
    (k_here; refine len_now (News.isList (by k_asm) (by k_mem)) (by k_extra "my size") ?_)
  k_with "subscriptTail Name Constant ref int" =>
    (k_here; k_dflt ((obtain ⟨v9, rv9, r9, rs9, e9, f9, q9⟩ := first_row (by assumption) (by assumption)); subst e9; subst f9; (have g9 := q9); (obtain ⟨t9, ot9, ti9, tn9, hl9, oh9, hvs9, d9, m1, m2, m3, m4, m5⟩ := g9); subst d9; (refine item_now (i := 0) (News.isList (by k_asm) (by k_mem)) (Nat.le_trans (m := 5) (by assumption) (by decide)) rfl ?_)))
  k_with "subscriptTail Name Constant ref int" =>
    (k_here; k_dflt (refine item_tupleT (j := 0) (isL_get (by k_asm) (by k_extra "my in") (by assumption)) (by decide) (by decide) rfl rfl ?_))
  k_with "subscriptTail Subscript Name Constant Constant ref int" =>
    (k_here; k_dflt (refine item_tupleT (j := 0) (isL_get (by k_asm) (by k_extra "my in") (by assumption)) (by decide) (by decide) rfl rfl ?_))
  k_with "subscriptTail Name UnaryOp ref int" =>
    (k_here; k_dflt (refine item_last' (News.isList (by k_asm) (by k_mem)) (by k_extra "my size") (by assumption) ?_))
  k_with "call ref" =>
    (k_here; (with_reducible show wpAny _ _ (call (Value.ref 309) _) _ _ _); k_dflt (refine use_ctT (add_element_p _ (by assumption) _ _ _ _ _ _ _ _ _ (by assumption) (by assumption) (by exact Nat.lt_of_le_of_lt (m := 26) (by assumption) (Nat.le_of_ble_eq_true rfl))) (by k_asm) (by k_asm) (by k_asm) (by k_asm) (by k_asm) (by first | exact rfl | assumption) (by k_extra "my front") (by assumption) trivial (by ktr_room) (by ktr_units) ?_; intro r9 fp9 h9 tk9 F9 N9 O9 A9 R9; obtain ⟨t9, e9, tr9⟩ := R9; subst e9; (try dsimp only [List.cons_append, List.nil_append] at N9); (try dsimp only); (try k_fold)))
  k_with "call ref" =>
    (k_here; (with_reducible show wpAny _ _ (call (Value.ref 316) _) _ _ _); k_dflt (refine use_ctT (add_text_p _ (by assumption) _ _ _ _ _ (by assumption) (by assumption) (by assumption)) (by k_asm) (by k_asm) (by k_asm) (by k_asm) (by k_asm) (by first | exact rfl | assumption) (by k_extra "my front") (by assumption) trivial (by ktr_room) (by ktr_units) ?_; intro r9 fp9 h9 tk9 F9 N9 O9 A9 R9; obtain ⟨t9, e9, tr9⟩ := R9; subst e9; (try dsimp only [List.cons_append, List.nil_append] at N9); (try dsimp only); (try k_fold)))
  k_with "call ref" =>
    (k_here; (with_reducible show wpAny _ _ (call (Value.ref 344) _) _ _ _); k_dflt (refine use_ctT (set_attribute_p _ (by assumption) _ _ _ _ _ _ _ _ _ _ _ (by assumption) (by assumption) (by assumption) (by assumption)) (by k_asm) (by k_asm) (by k_asm) (by k_asm) (by k_asm) (by first | exact rfl | assumption) (by k_extra "my front") (by assumption) trivial (by ktr_room) (by ktr_units) ?_; intro r9 fp9 h9 tk9 F9 N9 O9 A9 R9; obtain ⟨t9, e9, tr9⟩ := R9; subst e9; (try dsimp only [List.cons_append, List.nil_append] at N9); (try dsimp only); (try k_fold)))
  k_with "call ref" =>
    (k_here; (with_reducible show wpAny _ _ (call (Value.ref 482) _) _ _ _); k_dflt (refine use_ct1p (by k_asm) (by k_asm) (by k_asm) (by k_asm) (by k_asm) (by first | exact rfl | assumption) (by k_extra "my pick") trivial (value_ct _ _ _ (by assumption)) (by ktr_room) (by ktr_units) ?_; intro r9 fp9 h9 tk9 F9 N9 O9 R9; obtain ⟨o9, t9, l9, vs9, x9, tk8, e9, ho9, f9, hv9, hn9, hs9, hw9, hz9, d1, d2, d3⟩ := R9; subst e9; subst f9; k_extra "my off"; (try dsimp only [List.cons_append, List.nil_append] at N9); (try dsimp only); (try k_fold)))
  trivial
theorem grown_ct (w : World) (a : Addr) (o : Obj) (H : TH) (pt : List PN) (X : Led) (t0 : Tok) (ho : IsSrc o) (hX : TrP w.params H pt X) (hg : Grown pt []) (hpt : pt.length = 1) (hoff : OffFr [(a, o)] X) :
    Ct w 489 7 96 [.ref a, .ref H.t, .int ((0 : Nat) : Int) t0] ((a, o) :: X) (fun _ => True) (GrownC w.params a H) := by
  intro mean mg mb dp un gd cn cs ca ccd cl' outer A₀ base h₀ L m s Q E B F XK N T' hk _ hdp hun hret
  refine wpAny_call ?_
  k_dflt ktr_enter
  rename GSub _ _ _ => kG
  have hch : Chain pt [0] := let ⟨q, e, hk, _⟩ := hg.root; .one e (by rw [hk]; simp)
  k_steps
  rename IsRange _ _ _ _ _ _ _ _ => hrg
  rename IsSrc _ => hsrc
  refine turns_range (n := ((2 : Int) + _).toNat) ysG (JG w.params H a) rfl go_name0 hrg (Int.toNat_of_nonneg (by omega)).symm (by omega) (by assumption) (news := (a, _) :: (_, listOf #[] 0) :: (_, listOf (nv [(0, t0)]).toArray 0) :: (X ++ [])) (by rw [List.append_nil]; exact news_sub (by assumption) (by k_extra "my subs")) ?_ ?_ ?_
  · exact ⟨_, _, _, [], 0, [(0, t0)], 0, X, [], pt, [], [], rfl, rfl, ⟨hsrc, hX, apart_nil, by rw [List.append_nil]; k_extra "my offr", ⟨by k_ne, by k_ne, by k_ne⟩, .nil, hg, hch, rfl, fun _ h => nomatch h⟩, rfl, by omega, by simp⟩
  · intro i t I ito h9 tk9 u9 nn9 hi9 hJ9 hlt9 hne9 F9 N9
    k_fold
    obtain ⟨R, O, o', rvs, n1, lc, n2, X9, Y9, pt9, rows9, c9, hR9, hO9, st9, q1, q2, q3⟩ := hJ9
    have hR9' : some (Value.ref R) = some (Value.ref _) := hR9.symm
    injection hR9' with hR9'
    injection hR9' with hR9'
    subst hR9'
    have hO9' : u9 yOpen = some (.ref O) := hO9
    (dsimp only [over] at F9; rw [hO9'] at F9)
    have hlen9 : (nv lc).length = c9.length + 1 := by rw [nv_len, ← List.length_map (f := (·.1)), st9.lc]; rfl
    rename _ < (4 : Int) => hk4
    have hz9 := size_lc hlen9 q3 hi9 hk4
    have hzp := size_pt q2 hi9 hk4
    have ne9 := st9.ne
    have tr9 := st9.tree
    have ap9 := st9.apart
    have off9 := st9.off
    have src9 := st9.src
    have hoff9 := off1_of hne9
    dsimp only [Off1] at hoff9
    have i1 := hoff9.1
    have i2 := hoff9.2.1
    have i3 := hoff9.2.2.1
    have i4 := hoff9.2.2.2
    k_steps
    rename _ < ((nv lc).length : Int) => hkl
    rename 0 ≤ (_ : Int) => hk0
    rename News _ _ _ _ => N8
    rename IsSrc _ => src8
    rename AllLt _ (X9 ++ Y9) => lD9
    have lD := AllLt.ne lD9
    obtain ⟨lc2, c2, e1, e2, e3, e4⟩ := take_chain st9.lc st9.chain hk0
    rw [e1] at N8
    have hlen2 : (nv lc2).length = c2.length + 1 := by rw [nv_len, ← List.length_map (f := (·.1)), e2]; rfl
    have hz2 := size2 hlen2 e4 hlen9 hz9
    refine unhalt (cut_rule (JG2 w.params H a I ito rvs n1 X9 Y9 pt9 rows9 c9.length) (by assumption) ?_ ?_)
    · have going : Going := ⟨⟩
      have hrows9 := st9.rws
      have hlen9' : rvs.length ≤ 5 := len_ok hrows9.length q1 hi9 (by assumption)
      k_steps
      · refine jg2_close (lc := lc2) (c := c2) st9 (by assumption) (by assumption) rfl rfl (by assumption) (by k_mem) (by k_mem) (by k_mem) (by k_mem) (by k_extra "my tail") rfl e2 e3 (fun _ => rows_nil st9.rws (by assumption)) (by omega) ?_ (by k_ne) (by k_ne) (by k_ne) (by k_ne) (by k_ne)
        exact lD
      · rename All2 (RowAt _) (_ :: _) (_ :: _) => hrows9
        refine jg2_close (lc := lc2 ++ [(_, _)]) (c := [_]) st9 (by assumption) (by assumption) rfl rfl (by assumption) (by k_mem) (by k_mem) (by k_mem) (by k_mem) (by k_extra "my tail") nv_push2 (by rw [List.map_append, e2, len_one (by assumption) e2]; rfl) st9.grown.first (fun h => nomatch h) (by simp) lD (by k_ne) (by k_ne) (by k_ne) (by k_ne) (by k_ne)
      · refine jg2_close (lc := lc2) (c := c2) st9 (by assumption) (by assumption) rfl rfl (by assumption) (by k_mem) (by k_mem) (by k_mem) (by k_mem) (by k_extra "my tail") rfl e2 e3 (fun h => absurd (len_nil hlen2 h) (by assumption)) (by omega) ?_ (by k_ne) (by k_ne) (by k_ne) (by k_ne) (by k_ne)
        exact lD
    · intro h8 tk8 nn8 F8 N8 J8
      obtain ⟨R8, D, o8, lc8, n8, c8, hR8, hD8, st8, g1, g2, z1, z2, z3⟩ := J8
      cases hR8
      have hD8' : some (Value.ref D) = some (Value.ref _) := hD8.symm
      injection hD8' with hD8'
      injection hD8' with hD8'
      subst hD8'
      have hlen8 : (nv lc8).length = c8.length + 1 := by rw [nv_len, ← List.length_map (f := (·.1)), st8.lc]; rfl
      have hz8 := len_ok2 hlen8 g2 q3 hi9 hk4
      dsimp only
      have ne8 := st8.ne
      have tr8 := st8.tree
      have ap8 := st8.apart
      have off8 := st8.off
      have src8' := st8.src
      obtain ⟨tz8, lst8⟩ := last_of st8.lc
      obtain ⟨qp8, hqp8, hqk8⟩ := st8.chain.last
      k_steps
      rename TrP _ _ (_ ++ [elemN _ _]) _ => tr7
      rename OffFr _ (_ ++ _) => off7
      rename Apart _ _ => ap7
      rename IsSrc _ => src7
      rename Str => nm7
      rename List (Addr × Obj) => X7
      rename News _ _ _ _ => N7
      rename Fr _ _ _ _ => F7
      obtain ⟨gr7, ch7, nz7⟩ := st8.grown.elem st8.chain g1 rfl nm7
      refine' turns_over (l := ?l) (vs := irsV ?t1 ?t2 ?t3) (n := 0) [Str.ofString "attribute", Str.ofString "words", Str.ofString "text"] (JA w.params H a I R D ?Hl ?l ito (listOf rvs.toArray n1) (listOf (nv lc8).toArray n8) (listOf (irsV ?t1 ?t2 ?t3).toArray 0) rvs (pt9.length + 1) rows9 c8 pt9.length nm7) rfl go_name F7 (news_sub (l' := (a, ?o7) :: (I, ito) :: (R, listOf rvs.toArray n1) :: (D, listOf (nv lc8).toArray n8) :: (?Hl, listOf #[] 0) :: (?l, listOf (irsV ?t1 ?t2 ?t3).toArray 0) :: (X7 ++ Y9)) N7 ?sub) ?mem ?j0 ?jl ?turn ?done
      case sub => k_extra "my subs"
      case mem => k_mem
      case j0 => exact ⟨_, [], 0, _, Y9, _, [], src7, tr7, ap7, by k_extra "my offr", st8.rws, .nil, gr7, ch7, (fun _ h => nomatch h), by simp, Nat.le_refl _⟩
      case jl =>
        rintro i m nn ⟨o', hvs, n, X, Y, pt, atts, _⟩
        k_mem
      case turn =>
        intro j v I2 ito2 h6 tk6 u6 nn6 hv6 J6 hlt6 hne6 F6 N6
        k_fold
        obtain ⟨o6, hvs6, hn6, X6, Y6, pt6, atts6, src6, tr6, ap6, off6, rws6, hld6, gr6, ch6, nms6, ptl6, hvl6⟩ := J6
        obtain ⟨hj6, an6, ta6, rfl, hno6, htk6⟩ := irs_at hv6
        obtain ⟨q6, hq6, hqk6, hqa6⟩ := other_atts gr6 nms6 hno6
        dsimp only [over] at F6
        have hne6' := ne_keys hne6
        have hoff6 := off1_of hne6
        dsimp only [Off1] at hoff6
        have b1 := hoff6.1
        have b2 := hoff6.2.1
        have b3 := hoff6.2.2.1
        have b4 := hoff6.2.2.2.1
        have b5 := hoff6.2.2.2.2.1
        have b6 := hoff6.2.2.2.2.2.1
        have b7 := hoff6.2.2.2.2.2.2
        have hv6' : hvs6.length ≤ 3 := Nat.le_trans hvl6 (Nat.le_of_lt hj6)
        have hsz6 := size_ok ptl6 hj6 q2 hi9 (by assumption)
        have going : Going := ⟨⟩
        k_steps
        · refine' ja_set (hvs := hvs6) (n := hn6) ?cF ?cN ?hm ?c0 ?c1 ?c2 ?c3 ?c4 ?c5 ?c6 ?c7 ?c8 ?c9 ?co ?ct ?cap ?off ?f1 ?f2 ?f3 rws6 hld6 gr6 ch6 nz7 nms6 htk6 ptl6 hvl6 ?ht ?hw ?hv ?hx ?h12 ?hok
          case cF => assumption
          case cN => assumption
          case hm => k_extra "my same"
          case c0 => k_mem
          case c1 => k_mem
          case c2 => k_mem
          case c3 => k_mem
          case c4 => k_mem
          case c5 => k_mem
          case c6 => k_mem
          case ct => assumption
          case cap => assumption
          case c7 => k_extra "my tail"
          case c8 => k_mem
          case ht => exact ⟨rfl, _, rfl⟩
          case c9 => k_mem
          case hw => exact ⟨rfl, _, rfl⟩
          case co => assumption
          case hv => assumption
          case hx => assumption
          case h12 => assumption
          case hok => exact at_ok (by assumption) (by assumption) (by assumption)
          case off => k_extra "my each"
          case f1 => k_extra "my nes"
          case f2 => k_extra "my nes"
          case f3 => k_extra "my nes"
        · refine' ja_skip (hvs := hvs6) (n := hn6) ?dF ?dN ?dm ?d0 ?d1 ?dne ?dsrc tr6 ap6 ?doff rws6 hld6 gr6 ch6 nms6 ptl6 hvl6
          case dF => assumption
          case dN => assumption
          case dm => k_extra "my same"
          case d0 => k_mem
          case d1 => k_extra "my subs"
          case dne =>
            intro p hp
            have hk := List.mem_map_of_mem (f := fun p : Addr × Obj => p.1) hp
            exact hne6' p.1 hk
          case dsrc => assumption
          case doff => exact off6.rep rfl
      case done =>
        intro u5 nn5 h5 tk5 J5 F5 N5
        obtain ⟨o5, hvs5, hn5, X5, Y5, pt5, atts5, src5, tr5, ap5, off5, rws5, hld5, gr5, ch5, nms5, ptl5, hvl5⟩ := J5
        obtain ⟨q5, hq5, hqk5⟩ := node_at gr5
        dsimp only [over] at F5
        have hsz5 := size_ok3 ptl5 q2 hi9 (by assumption)
        have hlenr : rvs.length ≤ 5 := len_ok st8.rws.length q1 hi9 (by assumption)
        have going : Going := ⟨⟩
        k_steps
        refine' jg_turn (I := I) (ito := ito) (hvs := hvs5) (n := hn5) (m₀ := ?m0) (s₁ := ?s1) st8 ?eF ?eN ?em ?e0 ?e00 ?e1 ?e2 ?e3 ?e4 ?e5 ?e6 ?e7 ?esrc ?etr ?eap ?eoff ?ef1 ?ef2 ?ef3 rws5 hld5 gr5 ch5 nz7 ?eht q1 q2 q3 g2 ptl5 ⟨by assumption, by rw [← All2.length hld5]; exact hvl5, fun b hb => (nms5 b hb).2⟩
        case eF => assumption
        case eN => assumption
        case em => k_extra "my same"
        case e0 => exact hR9
        case e00 => rfl
        case e1 => k_mem
        case e2 => k_mem
        case e3 => k_mem
        case e4 => k_mem
        case e5 => k_mem
        case etr => assumption
        case e7 => k_extra "my tail"
        case e6 => k_mem
        case esrc => assumption
        case eap => assumption
        case eht => exact ⟨rfl, _, rfl⟩
        case eoff => k_extra "my each"
        case ef1 => k_extra "my nes"
        case ef2 => k_extra "my nes"
        case ef3 => k_extra "my nes"
  · intro u5 nn5 h5 tk5 J5 F5 N5
    obtain ⟨R5, O5, o5, rvs5, n15, lc5, n25, X5, Y5, pt5, rows5, c5, hR5, hO5, st5, qq1, qq2, qq3⟩ := J5
    have hR5' : some (Value.ref R5) = some (Value.ref _) := hR5.symm
    injection hR5' with hR5'
    injection hR5' with hR5'
    subst hR5'
    have hlen := size_end qq1 (by assumption) (by assumption)
    have hlen2 := size_end2 qq2 (by assumption)
    dsimp only [over] at F5
    k_steps
    refine back_close2 hret (by assumption) (by assumption) kG (by assumption) (by assumption) ((a, o5) :: (R5, listOf rvs5.toArray n15) :: (X5 ++ Y5)) ?_ ⟨⟨o5, R5, rvs5, n15, X5, Y5, pt5, rows5, rfl, rfl, st5.src, st5.tree, st5.apart, fun q hq => st5.off q ?_, st5.ne.1, st5.rws, st5.grown, hlen.1, hlen.2, hlen2, st5.oks⟩⟩
    · exact grown_sub
    · exact grown_sub2 q hq
end

/-- a frame's names, written as a list -/
noncomputable abbrev frm (l : List (Str × Value)) : Str → Option Value := fun y => l.lookup y
theorem occ_sp (c : Nat) (n : Nat) (hn : n = (Str.ofString " \t\n\x0d").length) : (!(Builtin.Str.occurrences (Str.ofString " \t\n\x0d") ⟨#[c]⟩ 0 n 1).isEmpty) = isSp c := by
  subst hn
  have e : (Str.ofString " \t\n\x0d").cps.toList = [32, 9, 10, 13] := by decide +kernel
  rw [StrLaws.found_one, e, Bool.eq_iff_iff, decide_eq_true_eq]
  simp [isSp, or_assoc]
theorem one_ne (c : Nat) : ((⟨#[c]⟩ : Str) != Str.ofString "") = true := by
  have e : Str.ofString "" = ⟨#[]⟩ := by decide +kernel
  rw [e, bne_iff_ne]
  intro h
  have := congrArg (fun x => x.cps.size) h
  cases this
section
theorem rows13 : True := by
  k_with_none
  k_with "ktr_enter" =>
    (refine enter_cells (by k_asm) (by k_asm) (by k_asm) (by k_asm) (by k_asm) (by exact rfl) (by exact rfl) (by assumption) (by k_is) (by k_is) (by ktr_room) (by exact BindsTo.of_eq rfl) (by exact rfl) (by decide +kernel) ?_ (by exact rfl) (by exact rfl) (by exact rfl); k_whole; intro g' L' h' tk' cells' FG' F' N' Y' B' X' T' l1 kG'; (try k_lt l1); k_cells Y'; (try dsimp only [List.cons_append, List.nil_append] at N'); (try dsimp only); (try k_fold))
  k_with "ktr_enter" =>
    (refine code_defG (by k_asm) (by k_asm) (by k_asm) (by k_asm) (by k_asm) (by exact rfl) (by exact rfl) (by assumption) (by k_is) (by k_is) (by ktr_room) (by exact BindsTo.of_eq rfl) (by exact locs rfl) ?_ (by exact rfl) (by exact rfl) (by exact rfl) (by decide); k_whole; intro g' L' h' FG' F' N' B' X' T' kG'; (try dsimp only); (try k_fold))
  k_with "k_ne" =>
    (refine neN ?_; (try dsimp only); with_reducible first | assumption | exact Ne.symm (by assumption) | exact Nat.ne_of_gt (by assumption) | exact Nat.ne_of_lt (by assumption) | exact Nat.ne_of_gt (Nat.lt_succ_of_lt (by assumption)) | exact Nat.ne_of_lt (Nat.lt_succ_of_lt (by assumption)))
  k_with "k_lt" =>
    (intro l1; replace l1 := allLt_of l1; (try dsimp only [AllLt] at l1); (repeat (with_reducible (have O8 := And.left l1; replace l1 := And.right l1))))
  k_with "my pick" =>
    (first | (refine Pick1.head ?_; k_extra "k_all") | exact Pick1.tail (by k_ne) (by k_extra "my pick"))
  k_with "my sub" =>
    (first | exact List.forall_mem_nil _ | (refine List.forall_mem_cons.mpr ⟨by k_mem, ?_⟩; k_extra "my sub"))
  k_with "k_room" =>
    ((try simp only [depth_under_make, depth_under_kw, depth_in1, depth_deeper, depth_caller]); (try dsimp only [ktrTop]); omega)
  k_with "my and" =>
    (first | assumption | exact And.intro (by k_ne) (by k_extra "my and") | k_ne)
  k_with "my conj" =>
    (intro l1; (repeat (with_reducible (have O8 := And.left l1; replace l1 := And.right l1))))
  k_with "my off" =>
    ((rename OffL _ _ => O9); (try dsimp only [OffL, Off1, keys, nodeLed, List.map] at O9); revert O9; k_extra "my conj2")
  k_with "CompRest" =>
    (with_unfolding_all first | (refine LCg.CompRest.succ ?_; intro v' I' oI' C' oC' D' m' h' tk' E' hv' hC' hx' F' N' off' ne'; (first | lcg_open hv' | (obtain ⟨t9', hv9'⟩ := hv'; subst hv9')); (try dsimp only [LCg.Off3] at off'); revert off'; k_extra "my conj2"; revert ne'; k_extra "my conj") | refine LCg.CompRest.zero ?_)
  k_with "FinE" =>
    ((unfold LCg.FinE); intro D' h' tk' F' N' o1'; (try dsimp only [LCg.Off1] at o1'); (try dsimp only [List.nil_append, List.cons_append] at N'); (try dsimp only); revert o1'; k_extra "my conj")
  k_with "FinA" =>
    ((unfold LCg.FinA); intro D' h' tk' F' N' o1'; (try dsimp only [LCg.Off1] at o1'); (try dsimp only [List.nil_append, List.cons_append] at N'); (try dsimp only); revert o1'; k_extra "my conj")
  k_with "k_all" =>
    (first | exact List.forall_mem_nil _ | exact Off1.all (by with_reducible assumption) | exact AllLt.ne (by with_reducible assumption) | exact List.forall_mem_cons.mpr ⟨by k_ne, by k_extra "k_all"⟩)
  k_with "my conj2" =>
    (intro l2; (repeat (with_reducible (have l1 := And.left l2; replace l2 := And.right l2; revert l1; k_extra "my conj"))))
  k_with "my same" =>
    (intro z9 hz9; first | rfl | (refine same_step hz9 (by k_mem) ?_; k_extra "my same2") | ((simp only [List.mem_cons, List.not_mem_nil, or_false, not_or] at hz9); first | rfl | (simp only [hz9, if_false, if_neg, over, not_false_eq_true]; done) | (simp [hz9, over]; done)))
  k_with "my same2" =>
    (first | rfl | (refine same_step (by assumption) (by k_mem) ?_; k_extra "my same2"))
  k_with "TurnPost" =>
    (dsimp only [TurnPost])
  k_with "my for" =>
    (k_here; (rename Fr _ _ _ _ => lF'); (with_unfolding_all refine For_turns lF' ?_ (hE := by first | passes_own | assumption); k_whole))
  k_with "execs cons" =>
    (refine wpAny_execs_cons ?_; (try k_fold))
  k_with "room" =>
    (first | exact room2 (by assumption) (by exact rfl) | exact room3 (by assumption) (by exact rfl) | exact room1 (by assumption) (by exact rfl) | exact room0 (by assumption) | exact room4 (by assumption) (by exact rfl))
  k_with "k_room" =>
    (k_extra "room")

  trivial
theorem is_space_m (w : World) (c : Nat) (t : Tok) : Ct w 28 1 8 [.str ⟨#[c]⟩ t] [] (fun _ => True) (fun r fp' => r = .bool (isSp c) ∧ fp' = []) := by
  intro mean mg mb dp un gd cn cs ca ccd cl' outer A₀ base h₀ L m s Q E B F X N T hk hp hdp hun hret
  refine wpAny_call ?_
  k_dflt ktr_enter
  rename GSub _ _ _ => kG
  rename Fr _ _ _ (fun y => List.lookup y _) => F1
  have F2 : Fr _ _ _ (frm [(Str.ofString "sign", .str ⟨#[c]⟩ t)]) := F1
  clear F1
  generalize s.toks + List.length _ = tk0
  k_steps
  · rename _ = true => ho
    exact back_close2 hret (by assumption) (by assumption) kG (by assumption) (by assumption) [] (List.forall_mem_nil _) ⟨by rw [occ_sp c _ rfl], rfl⟩
  · rename _ = false => ho
    exact back_close2 hret (by assumption) (by assumption) kG (by assumption) (by assumption) [] (List.forall_mem_nil _) ⟨by rw [one_ne, ← occ_sp c _ rfl, ho]; rfl, rfl⟩
theorem strsV_app {a b : List Value} (h : allStr a = true) : strsV (a ++ b) = strsV a ++ strsV b := by
  induction a with
  | nil => rfl
  | cons v r ih =>
    cases v with
    | str x t => show x :: strsV (r ++ b) = _; rw [ih h]; rfl
    | _ => cases h
theorem allStr_app {a b : List Value} (h : allStr a = true) (h2 : allStr b = true) : allStr (a ++ b) = true := by
  induction a with
  | nil => exact h2
  | cons v r ih =>
    cases v with
    | str x t => exact ih h
    | _ => cases h
/-- what space_split has told at the place i: the words, the rest begins at b -/
structure SS (x : Str) (i b : Nat) (vs : List Value) : Prop where
  str : allStr vs = true
  len : vs.length ≤ i
  on : i ≤ x.length → b ≤ i ∧ strsV vs ++ (runsAux ((x.cps.toList.take i).drop b) (x.cps.toList.drop i)).map (fun l => ⟨l.toArray⟩) = splitS x
  fin : x.length < i → strsV vs = splitS x
/-- the sign at the place i parts, or it is the end -/
noncomputable def endAt (x : Str) (i : Nat) : Bool := match x.cps[i]? with
  | none => true
  | some c => isSp c
section
variable {x : Str} {i b : Nat} {vs : List Value}
theorem SS.start : SS x 0 0 [] := ⟨rfl, Nat.le_refl _, fun _ => ⟨Nat.le_refl _, rfl⟩, fun h => absurd h (Nat.not_lt_zero _)⟩
theorem cps_len : x.cps.toList.length = x.length := by simp [Str.length]
theorem drop_at {c : Nat} (h : x.cps[i]? = some c) : x.cps.toList.drop i = c :: x.cps.toList.drop (i + 1) := by
  have h' : x.cps.toList[i]? = some c := by simpa using h
  obtain ⟨hi, e⟩ := List.getElem?_eq_some_iff.mp h'
  rw [List.drop_eq_getElem_cons hi, e]
theorem SS.stay (S : SS x i b vs) (hi : i < x.length) (he : endAt x i = false) : SS x (i + 1) b vs := by
  obtain ⟨c, hc⟩ : ∃ c, x.cps[i]? = some c := by
    cases e : x.cps[i]? with
    | none => rw [endAt, e] at he; cases he
    | some c => exact ⟨c, rfl⟩
  have hsp : isSp c = false := by rw [endAt, hc] at he; exact he
  obtain ⟨hb, e⟩ := S.on (Nat.le_of_lt hi)
  refine ⟨S.str, Nat.le_succ_of_le S.len, fun _ => ⟨Nat.le_succ_of_le hb, ?_⟩, fun h => absurd h (by omega)⟩
  rw [← e, drop_at hc]
  have ht : (x.cps.toList.take (i + 1)).drop b = (x.cps.toList.take i).drop b ++ [c] := by
    have hi' : i < x.cps.toList.length := by rw [cps_len]; exact hi
    have hc' : x.cps.toList[i]? = some c := by simpa using hc
    rw [List.take_add_one, hc']
    rw [List.drop_append_of_le_length (by rw [List.length_take]; omega)]; rfl
  rw [ht]
  conv => rhs; rw [runsAux]
  rw [hsp]; rfl
theorem SS.done (S : SS x i b vs) (hi : i ≤ x.length) (he : endAt x i = true) (hb : i ≤ b) : SS x (i + 1) (i + 1) vs := by
  obtain ⟨hb', e⟩ := S.on hi
  obtain rfl : b = i := Nat.le_antisymm hb' hb
  have hcur : (x.cps.toList.take b).drop b = [] := List.drop_eq_nil_of_le (by rw [List.length_take]; omega)
  rw [hcur] at e
  cases hc : x.cps[b]? with
  | none =>
    have hn : b = x.length := by
      have := Array.getElem?_eq_none_iff.mp hc
      exact Nat.le_antisymm hi this
    rw [List.drop_eq_nil_of_le (by rw [cps_len]; omega)] at e
    refine ⟨S.str, Nat.le_succ_of_le S.len, fun h => absurd h (by omega), fun _ => ?_⟩
    rw [← e]; simp [runsAux]
  | some c =>
    have hsp : isSp c = true := by rw [endAt, hc] at he; exact he
    have hlt : b < x.length := (Array.getElem?_eq_some_iff.mp hc).1
    refine ⟨S.str, Nat.le_succ_of_le S.len, fun _ => ⟨Nat.le_refl _, ?_⟩, fun h => absurd h (by omega)⟩
    rw [← e, drop_at hc, List.drop_eq_nil_of_le (as := x.cps.toList.take (b + 1)) (by rw [List.length_take]; omega)]
    conv => rhs; rw [runsAux]
    rw [hsp]; rfl
theorem slice_word (hb : b ≤ i) (hi : i ≤ x.length) : Txt.slice x (some (b : Int)) (some (i : Int)) = ⟨((x.cps.toList.take i).drop b).toArray⟩ := by
  have h := slice_closes (x := x) (i := b) (j := i) ⟨by omega, by omega, by rw [cps_len]; omega⟩
  rw [eq_of_beq h]
  congr 2
  rw [List.drop_take]
  congr 1
  omega
theorem SS.word {t : Tok} (S : SS x i b vs) (hi : i ≤ x.length) (he : endAt x i = true) (hb : b < i) : SS x (i + 1) (i + 1) (vs ++ [.str (Txt.slice x (some (b : Int)) (some (i : Int))) t]) := by
  obtain ⟨hb', e⟩ := S.on hi
  have hcur : ((x.cps.toList.take i).drop b).isEmpty = false := by
    rw [List.isEmpty_eq_false_iff]
    intro h
    have := congrArg List.length h
    rw [List.length_drop, List.length_take, cps_len] at this
    simp at this; omega
  have hv : strsV (vs ++ [.str (Txt.slice x (some (b : Int)) (some (i : Int))) t]) = strsV vs ++ [⟨((x.cps.toList.take i).drop b).toArray⟩] := by
    rw [strsV_app S.str, slice_word hb' hi]; rfl
  refine ⟨allStr_app S.str rfl, by simp; exact S.len, ?_, ?_⟩
  · intro h
    obtain ⟨c, hc⟩ : ∃ c, x.cps[i]? = some c := ⟨_, Array.getElem?_eq_getElem (by exact h)⟩
    have hsp : isSp c = true := by rw [endAt, hc] at he; exact he
    refine ⟨Nat.le_refl _, ?_⟩
    rw [hv, ← e, drop_at hc, List.drop_eq_nil_of_le (as := x.cps.toList.take (i + 1)) (by rw [List.length_take]; omega)]
    conv => rhs; rw [runsAux]
    rw [hsp, hcur]; simp
  · intro h
    rw [hv, ← e, List.drop_eq_nil_of_le (as := x.cps.toList) (i := i) (by rw [cps_len]; omega)]
    conv => rhs; rw [runsAux]
    rw [hcur]; simp
end
theorem end_of {x : Str} {i : Nat} (h : x.cps[i]? = none) (hi : i ≤ x.length) : (i : Int) = x.length := by
  have := Array.getElem?_eq_none_iff.mp h
  exact congrArg _ (Nat.le_antisymm hi this)
theorem lt_of_no {x : Str} {i : Nat} (h : endAt x i = false) : i < x.length := by
  cases e : x.cps[i]? with
  | none => rw [endAt, e] at h; cases h
  | some c => exact (Array.getElem?_eq_some_iff.mp e).1
theorem in_of {x : Str} {i c : Nat} (h : x.cps[i]? = some c) : (i : Int) ≠ x.length := by
  have : i < x.length := (Array.getElem?_eq_some_iff.mp h).1
  omega
/-- a value told once for all its branches -/
noncomputable def BoolEnd (h₀ : Heap) (L : Addr) (m : Str → Option Value) (nn : Led) (b : Bool) (s : Shared) (v : Bool) (s' : Shared) : Prop :=
  v = b ∧ ∃ h' tk', s' = { s with heap := h', toks := tk' } ∧ Fr h₀ L h' m ∧ News h₀ L h' nn
theorem BoolEnd.intro {h₀ h' : Heap} {L : Addr} {m : Str → Option Value} {nn : Led} {b v : Bool} {s : Shared} {tk' : Nat} (F : Fr h₀ L h' m) (N : News h₀ L h' nn) (e : v = b) :
    BoolEnd h₀ L m nn b s v { s with heap := h', toks := tk' } := ⟨e, h', tk', rfl, F, N⟩
theorem cut_bool {M : Model} {A : Around} {E : Value → Shared → Prop} {s : Shared} {h₀ : Heap} {L : Addr} {m : Str → Option Value} {nn : Led} {c : Sem Bool} {Q : Bool → Shared → Prop} (b : Bool) (_F : Fr h₀ L s.heap m)
    (h1 : wpAny M A c (BoolEnd h₀ L m nn b s) E s)
    (h2 : ∀ h' tk', Fr h₀ L h' m → News h₀ L h' nn → Q b { s with heap := h', toks := tk' }) : wpAny M A c Q E s :=
  wpAny_mono h1 (fun v s' ⟨e, h', tk', e2, F, N⟩ => by subst e; subst e2; exact h2 h' tk' F N) fun _ _ e => e
theorem item_sign {prog : Program} {w : World} {A : Around} {E : Value → Shared → Prop} {s : Shared} {x : Str} {t u : Tok} {value slice : PySem.Expr} {Q : Value → Shared → Prop} {i c : Nat} (hc : x.cps[i]? = some c) (hx : x.length ≤ 12)
    (h : Q (.str ⟨#[c]⟩ s.toks) { s with toks := s.toks + 1 })
    (hs : subscripted slice false (.str x t) (.int (i : Int) u) = operate [.str x t, .int (i : Int) u] (getItem (.str x t) (.int (i : Int) u)) := by with_unfolding_all rfl)
    (ht : ∀ r, letTemporaryGo value (.str x t) r = pure () := by intro _; with_unfolding_all rfl) :
    wpAny (model prog w) A (subscriptTail value slice (.str x t) (.int (i : Int) u)) Q E s := by
  have hlt : i < x.length := (Array.getElem?_eq_some_iff.mp hc).1
  have hf : fitsSsize (i : Int) = true := by
    unfold fitsSsize
    rw [Bool.not_eq_true', Bool.or_eq_false_iff, decide_eq_false_iff_not, decide_eq_false_iff_not]
    omega
  refine item_str hf (by omega) (by omega) (fun _ => ?_) hs ht
  rw [item_meets (Int.natCast_nonneg _) (by simpa using hc)]
  exact h
/-- space_split, at the place i -/
inductive SJ (x : Str) (i : Nat) (m : Str → Option Value) (nn : Led) : Prop
  | mk (D : Addr) (vs : List Value) (n b : Nat) (tb : Tok) (p1 : m (Str.ofString "found") = some (.ref D)) (p2 : m (Str.ofString "begin") = some (.int (b : Int) tb)) (p3 : nn = [(D, listOf vs.toArray n)]) (p4 : SS x i b vs) : SJ x i m nn
section
theorem rows14 : True := by
  k_with_none
  k_with "ktr_enter" =>
    (refine enter_cells (by k_asm) (by k_asm) (by k_asm) (by k_asm) (by k_asm) (by exact rfl) (by exact rfl) (by assumption) (by k_is) (by k_is) (by ktr_room) (by exact BindsTo.of_eq rfl) (by exact rfl) (by decide +kernel) ?_ (by exact rfl) (by exact rfl) (by exact rfl); k_whole; intro g' L' h' tk' cells' FG' F' N' Y' B' X' T' l1 kG'; (try k_lt l1); k_cells Y'; (try dsimp only [List.cons_append, List.nil_append] at N'); (try dsimp only); (try k_fold))
  k_with "ktr_enter" =>
    (refine code_defG (by k_asm) (by k_asm) (by k_asm) (by k_asm) (by k_asm) (by exact rfl) (by exact rfl) (by assumption) (by k_is) (by k_is) (by ktr_room) (by exact BindsTo.of_eq rfl) (by exact locs rfl) ?_ (by exact rfl) (by exact rfl) (by exact rfl) (by decide); k_whole; intro g' L' h' FG' F' N' B' X' T' kG'; (try dsimp only); (try k_fold))
  k_with "k_ne" =>
    (refine neN ?_; (try dsimp only); with_reducible first | assumption | exact Ne.symm (by assumption) | exact Nat.ne_of_gt (by assumption) | exact Nat.ne_of_lt (by assumption) | exact Nat.ne_of_gt (Nat.lt_succ_of_lt (by assumption)) | exact Nat.ne_of_lt (Nat.lt_succ_of_lt (by assumption)))
  k_with "k_lt" =>
    (intro l1; replace l1 := allLt_of l1; (try dsimp only [AllLt] at l1); (repeat (with_reducible (have O8 := And.left l1; replace l1 := And.right l1))))
  k_with "my pick" =>
    (first | (refine Pick1.head ?_; k_extra "k_all") | exact Pick1.tail (by k_ne) (by k_extra "my pick"))
  k_with "my sub" =>
    (first | exact List.forall_mem_nil _ | (refine List.forall_mem_cons.mpr ⟨by k_mem, ?_⟩; k_extra "my sub"))
  k_with "k_room" =>
    ((try simp only [depth_under_make, depth_under_kw, depth_in1, depth_deeper, depth_caller]); (try dsimp only [ktrTop]); omega)
  k_with "my and" =>
    (first | assumption | exact And.intro (by k_ne) (by k_extra "my and") | k_ne)
  k_with "my conj" =>
    (intro l1; (repeat (with_reducible (have O8 := And.left l1; replace l1 := And.right l1))))
  k_with "my off" =>
    ((rename OffL _ _ => O9); (try dsimp only [OffL, Off1, keys, nodeLed, List.map] at O9); revert O9; k_extra "my conj2")
  k_with "CompRest" =>
    (with_unfolding_all first | (refine LCg.CompRest.succ ?_; intro v' I' oI' C' oC' D' m' h' tk' E' hv' hC' hx' F' N' off' ne'; (first | lcg_open hv' | (obtain ⟨t9', hv9'⟩ := hv'; subst hv9')); (try dsimp only [LCg.Off3] at off'); revert off'; k_extra "my conj2"; revert ne'; k_extra "my conj") | refine LCg.CompRest.zero ?_)
  k_with "FinE" =>
    ((unfold LCg.FinE); intro D' h' tk' F' N' o1'; (try dsimp only [LCg.Off1] at o1'); (try dsimp only [List.nil_append, List.cons_append] at N'); (try dsimp only); revert o1'; k_extra "my conj")
  k_with "FinA" =>
    ((unfold LCg.FinA); intro D' h' tk' F' N' o1'; (try dsimp only [LCg.Off1] at o1'); (try dsimp only [List.nil_append, List.cons_append] at N'); (try dsimp only); revert o1'; k_extra "my conj")
  k_with "k_all" =>
    (first | exact List.forall_mem_nil _ | exact Off1.all (by with_reducible assumption) | exact AllLt.ne (by with_reducible assumption) | exact List.forall_mem_cons.mpr ⟨by k_ne, by k_extra "k_all"⟩)
  k_with "my conj2" =>
    (intro l2; (repeat (with_reducible (have l1 := And.left l2; replace l2 := And.right l2; revert l1; k_extra "my conj"))))
  k_with "my same" =>
    (intro z9 hz9; first | rfl | (refine same_step hz9 (by k_mem) ?_; k_extra "my same2") | ((simp only [List.mem_cons, List.not_mem_nil, or_false, not_or] at hz9); first | rfl | (simp only [hz9, if_false, if_neg, over, not_false_eq_true]; done) | (simp [hz9, over]; done)))
  k_with "my same2" =>
    (first | rfl | (refine same_step (by assumption) (by k_mem) ?_; k_extra "my same2"))
  k_with "TurnPost" =>
    (dsimp only [TurnPost])
  k_with "my for" =>
    (k_here; (rename Fr _ _ _ _ => lF'); (with_unfolding_all refine For_turns lF' ?_ (hE := by first | passes_own | assumption); k_whole))
  k_with "execs cons" =>
    (refine wpAny_execs_cons ?_; (try k_fold))
  k_with "room" =>
    (first | exact room2 (by assumption) (by exact rfl) | exact room3 (by assumption) (by exact rfl) | exact room1 (by assumption) (by exact rfl) | exact room0 (by assumption) | exact room4 (by assumption) (by exact rfl))
  k_with "k_room" =>
    (k_extra "room")
  k_with "exec For Name Call cons nil" =>
    (k_extra "my for")
  k_with "pyIter" =>
    (refine halt ?_)
  k_with "isTrue BoolOp" =>
    ((fail_if_success (have := (‹Going› : Going))); refine halt ?_)
  k_with "call ref" =>
    (k_here; (with_reducible show wpAny _ _ (call (Value.ref 28) [Value.str _ _]) _ _ _); k_dflt (refine use_ct0 (is_space_m _ _ _) (by k_asm) (by k_asm) (by k_asm) (by k_asm) (by k_asm) (by first | exact rfl | assumption) trivial (by ktr_room) (by ktr_units) ?_; intro h9 tk9 F9 N9; (try dsimp only); (try k_fold)))
  k_with "subscriptTail Name Name str int" =>
    (k_here; k_dflt (refine item_sign (by assumption) (by assumption) ?_))
  trivial
theorem space_split_m (w : World) (x : Str) (t : Tok) (hx : x.length ≤ 12) : Ct w 35 3 32 [.str x t] [] (fun _ => True) (fun r fp' => ∃ D vs n, r = .ref D ∧ fp' = [(D, listOf vs.toArray n)] ∧ allStr vs = true ∧ strsV vs = splitS x ∧ vs.length ≤ 13) := by
  intro mean mg mb dp un gd cn cs ca ccd cl' outer A₀ base h₀ L m s Q E B F X N T hk hp hdp hun hret
  refine wpAny_call ?_
  k_dflt ktr_enter
  rename GSub _ _ _ => kG
  rename Fr _ _ _ (fun y => List.lookup y _) => F1
  have F2 : Fr _ _ _ (frm [(Str.ofString "text", .str x t)]) := F1
  clear F1
  generalize s.toks + List.length _ = tk0
  k_steps
  refine unhalt ?_
  rename IsRange _ _ _ _ _ _ _ _ => hrg
  refine' turns_range (n := x.length + 1) [Str.ofString "begin", Str.ofString "place"] (SJ x) rfl go_name0 hrg (by simp) (by omega) (by assumption) (news_sub (l' := [(?D, listOf (List.toArray []) 0)]) (by assumption) ?sub) ?j0 ?turn ?done
  case sub => k_extra "my sub"
  case j0 => exact ⟨_, [], 0, 0, _, rfl, rfl, rfl, SS.start⟩
  case turn =>
    intro i t6 I ito h6 tk6 u6 nn6 hi6 hJ6 hlt6 hne6 F6 N6
    k_fold
    obtain ⟨D, vs, n, b, tb, hf6, hb6, rfl, S6⟩ := hJ6
    have hf6' : some (Value.ref D) = some (Value.ref _) := hf6.symm
    injection hf6' with hf6'
    injection hf6' with hf6'
    subst hf6'
    have hb6' : u6 (Str.ofString "begin") = some (.int (b : Int) tb) := hb6
    (dsimp only [over] at F6; rw [hb6'] at F6)
    have hi : i ≤ x.length := Nat.le_of_lt_succ hi6
    have hD := hne6 _ (.head _)
    have hlen : vs.length ≤ 12 := Nat.le_trans S6.len (Nat.le_trans hi hx)
    k_steps
    refine' unhalt (cut_bool (endAt x i) (nn := [(I, ito), (D, listOf vs.toArray n)]) (by assumption) ?c1 ?c2)
    case c1 =>
      have going : Going := ⟨⟩
      cases hc : x.cps[i]? with
      | none =>
        have hn : (i : Int) = x.length := end_of hc hi
        k_steps
        all_goals exact BoolEnd.intro (by assumption) (by assumption) (by rw [endAt, hc])
      | some c =>
        have hn : (i : Int) ≠ x.length := in_of hc
        k_steps
        all_goals first
          | exact absurd (by assumption) hn
          | exact BoolEnd.intro (by assumption) (by assumption) (by rw [endAt, hc]; exact Eq.symm (show isSp c = _ by assumption))
    case c2 =>
      intro h7 tk7 F7 N7
      dsimp only
      cases he : endAt x i with
      | true =>
        k_steps
        · refine' TurnEnd.intro (news' := [(D, listOf (vs.toArray.push ?v) ?n)]) ?cF ?cN ?cm ?cs (List.forall_mem_cons.mpr ⟨hD, List.forall_mem_nil _⟩) ⟨?same, D, vs ++ [?v], ?n, i + 1, ?tk, ?fnd, ?beg, ?push, ?w⟩
          case cF => assumption
          case cN => assumption
          case cm => k_mem
          case cs => k_extra "my sub"
          case same => k_extra "my same"
          case fnd => rfl
          case beg => rfl
          case push => rw [List.push_toArray]
          case w => exact S6.word hi he (Int.ofNat_lt.mp (by assumption))
        · exact TurnEnd.intro (news' := [(D, listOf vs.toArray n)]) (by assumption) (by assumption) (by k_mem) (by k_extra "my sub") (List.forall_mem_cons.mpr ⟨hD, List.forall_mem_nil _⟩) ⟨by k_extra "my same", D, _, _, _, _, rfl, rfl, rfl, S6.done hi he (by omega)⟩
      | false =>
        have hlt : i < x.length := lt_of_no he
        k_steps
        exact TurnEnd.intro (news' := [(D, listOf vs.toArray n)]) (by assumption) (by assumption) (by k_mem) (by k_extra "my sub") (List.forall_mem_cons.mpr ⟨hD, List.forall_mem_nil _⟩) ⟨by k_extra "my same", D, _, _, _, _, rfl, rfl, rfl, S6.stay hlt he⟩
  case done =>
    intro u5 nn5 h5 tk5 hJ5 F5 N5
    obtain ⟨D, vs, n, b, tb, hf5, hb5, rfl, S5⟩ := hJ5
    have hf5' : some (Value.ref D) = some (Value.ref _) := hf5.symm
    injection hf5' with hf5'
    injection hf5' with hf5'
    subst hf5'
    dsimp only [over] at F5
    k_steps
    exact back_close2 hret (by assumption) (by assumption) kG (by assumption) (by assumption) [(D, listOf vs.toArray n)] (by k_extra "my sub") ⟨_, _, _, rfl, rfl, S5.str, S5.fin (Nat.lt_succ_self _), Nat.le_trans S5.len (Nat.succ_le_succ hx)⟩
end
end

/-- a heap that shows a tree -/
inductive Sees (P : Params) (H : TH) (pt : List PN) (h : Heap) : Prop
  | mk (T : Tr) (p1 : (∀ p ∈ T.led P, h.get? p.1 = some p.2)) (p2 : T.Ok P) (p3 : T.Is pt) (p4 : T.head = H) : Sees P H pt h
theorem Sees.keep {P : Params} {H : TH} {pt : List PN} {h h' : Heap} (S : Sees P H pt h) (k : ∀ b o, h.get? b = some o → h'.get? b = some o) : Sees P H pt h' :=
  let ⟨T, a, b, c, d⟩ := S; ⟨T, fun p hp => k _ _ (a p hp), b, c, d⟩
theorem TrP.sees {P : Params} {H : TH} {pt : List PN} {X : Led} (h : TrP P H pt X) {h' : Heap} (k : ∀ p ∈ X, h'.get? p.1 = some p.2) : Sees P H pt h' :=
  let ⟨T, e, ok, is, hd⟩ := h; ⟨T, by rw [← e]; exact k, ok, is, hd⟩
theorem ct_pre {w : World} {f : Addr} {d u : Nat} {args : List Value} {fp : Led} {ι : Type} {S : ι → Prop} {Pre : ι → Heap → Prop} {Pre' : Heap → Prop} {R : Value → Led → Prop}
    (h : ∀ i, S i → Ct w f d u args fp (Pre i) R) (k : ∀ hh, Pre' hh → ∃ i, S i ∧ Pre i hh) : Ct w f d u args fp Pre' R := by
  intro mean mg mb dp un gd cn cs ca ccd cl' outer A₀ base h₀ L m s Q E B F X N T hk hp hdp hun hret
  obtain ⟨i, hi, hpi⟩ := k _ hp
  exact h i hi mean mg mb dp un gd cn cs ca ccd cl' outer A₀ base h₀ L m s Q E B F X N T hk hpi hdp hun hret
theorem use_ctE {w : World} {f : Addr} {d u : Nat} {args : List Value} {news : Led} {Pre : Heap → Prop} {R : Value → Led → Prop} (C : Ct w f d u args [] Pre R)
    {mean : ExcName → Option Value} {mg mb : Str → Option Value} {dp un : Nat} {gd : Option (List Code)} {cn : Str} {cs : Scope} {a : Addr} {ccd : Value} {cl : List (Str × Addr)} {outer : List Env} {A₀ : Around} {base h₀ : Heap} {L : Addr} {m : Str → Option Value} {s : Shared} {Q E : Value → Shared → Prop}
    (B : Below A₀ base outer h₀) (F : Fr h₀ L s.heap m) (X : (hd.heap_1 w.params).In h₀) (N : News h₀ L s.heap news) (T : Top Vw (looseW Vw []) mean mg mb h₀) (hk : cs.kind = .function)
    (hpre : Pre s.heap) (hd : dp + d < recursionLimit) (hu : un + u < cLine) (k : ∀ r fp' h' tk', Fr h₀ L h' m → News h₀ L h' (fp' ++ news) → OffL (keys fp') news → R r fp' → Q r { s with heap := h', toks := tk' }) :
    wpAny (model PR w) (ktrTop dp un gd cn cs L a ccd cl outer) (call (.ref f) args) Q E s :=
  use_ct C B F X N T hk (rest := news) (fun _ hp => nomatch hp) (fun p hp => ⟨hp, List.not_mem_nil⟩) hpre hd hu
    fun r fp' h' tk' F' N' O' _ _ hR => k r fp' h' tk' F' N' O' hR
section
variable {w : World} {H : TH} {pt : List PN} {i : Nat} {q : PN} {ti : Tok}
theorem sees_at {P : Params} {h : Heap} (S : Sees P H pt h) (hq : pt[i]? = some q) : ∃ (T : Tr) (d : Nd), T.t = H.t ∧ T.items[i]? = some (.ref d.x) ∧ T.items.length = pt.length ∧ TreeRd P h T.t T.items ∧ NodeRd P h d.x d.kind d.name d.uri d.loc d.value d.cl d.al ∧ d.Is q ∧ h.get? d.cl = some (listOf d.cvs.toArray d.n3) ∧ h.get? d.al = some (listOf d.avs.toArray d.n4) ∧ d.cvs.length ≤ pt.length ∧ d.avs.length ≤ pt.length := by
  obtain ⟨T, a, ok, is, rfl⟩ := S
  obtain ⟨d, hd, hdq⟩ := is.at hq
  have hm := List.mem_of_getElem? hd
  have kk := ok.kids d hm
  rw [is.1] at kk
  exact ⟨T, d, rfl, by simp [Tr.items, hd], by rw [Tr.len_items, is.1], ⟨T.dt, T.r, T.k, T.n1, T.n2, a _ Tr.at_t, a _ Tr.at_dt, a _ Tr.at_r⟩,
    ⟨d.dx, d.od, a _ (Tr.mem_ns hm Nd.at_x), a _ (Tr.mem_ns hm Nd.at_dx), ok.node d hm⟩, hdq, a _ (Tr.mem_ns hm Nd.at_cl), a _ (Tr.mem_ns hm Nd.at_al), kk.1, kk.2⟩
noncomputable abbrev SAt (H : TH) (pt : List PN) (i : Nat) (q : PN) (x : Tr × Nd) : Prop := x.1.t = H.t ∧ x.1.items[i]? = some (.ref x.2.x) ∧ x.1.items.length = pt.length ∧ x.2.Is q ∧ x.2.cvs.length ≤ pt.length ∧ x.2.avs.length ≤ pt.length
noncomputable abbrev PAt (P : Params) (x : Tr × Nd) (h : Heap) : Prop := (TreeRd P h x.1.t x.1.items ∧ NodeRd P h x.2.x x.2.kind x.2.name x.2.uri x.2.loc x.2.value x.2.cl x.2.al) ∧ h.get? x.2.cl = some (listOf x.2.cvs.toArray x.2.n3) ∧ h.get? x.2.al = some (listOf x.2.avs.toArray x.2.n4)
theorem sees_pre {P : Params} (hq : pt[i]? = some q) : ∀ h, Sees P H pt h → ∃ x : Tr × Nd, SAt H pt i q x ∧ PAt P x h := fun h S => by
  obtain ⟨T, d, a, b, c, t, n, q', k1, k2, k3, k4⟩ := sees_at S hq
  exact ⟨(T, d), ⟨a, b, c, q', k3, k4⟩, ⟨t, n⟩, k1, k2⟩
theorem ct_weak {f : Addr} {d u : Nat} {args : List Value} {fp : Led} {Pre Pre' : Heap → Prop} {R R' : Value → Led → Prop} (C : Ct w f d u args fp Pre R) (hp : ∀ h, Pre' h → Pre h) (h : ∀ r fp', R r fp' → R' r fp') : Ct w f d u args fp Pre' R' :=
  ct_pre (ι := Unit) (S := fun _ => True) (Pre := fun _ => Pre) (fun _ _ => ct_mono C h) fun hh hp' => ⟨(), trivial, hp hh hp'⟩
theorem kind_p (hq : pt[i]? = some q) (hz : pt.length ≤ 2 ^ 20) : Ct w 365 3 24 [.ref H.t, .int i ti] [] (Sees w.params H pt) (fun r fp' => ∃ tk, r = .str q.kind tk ∧ fp' = []) :=
  ct_pre (fun x hx => by
    obtain ⟨a, b, c, is, _, _⟩ := hx
    obtain ⟨tk, e⟩ := is.kind
    rw [← a]
    exact ct_weak (kind_m w _ _ i ti _ _ _ _ _ _ _ _ b (by rw [c]; omega) (by rw [e]; rfl)) (fun h hp => hp.1) fun r fp' hr => ⟨tk, by rw [hr.1, e], hr.2⟩) (sees_pre hq)
theorem name_p (hq : pt[i]? = some q) (hz : pt.length ≤ 2 ^ 20) : Ct w 372 3 24 [.ref H.t, .int i ti] [] (Sees w.params H pt) (fun r fp' => ∃ tk, r = .str q.name tk ∧ fp' = []) :=
  ct_pre (fun x hx => by
    obtain ⟨a, b, c, is, _, _⟩ := hx
    obtain ⟨tk, e⟩ := is.name
    rw [← a]
    exact ct_weak (name_m w _ _ i ti _ _ _ _ _ _ _ _ b (by rw [c]; omega) (by rw [e]; rfl)) (fun h hp => hp.1) fun r fp' hr => ⟨tk, by rw [hr.1, e], hr.2⟩) (sees_pre hq)
theorem value_p (hq : pt[i]? = some q) (hz : pt.length ≤ 2 ^ 20) : Ct w 393 3 24 [.ref H.t, .int i ti] [] (Sees w.params H pt) (fun r fp' => ∃ tk, r = .str q.value tk ∧ fp' = []) :=
  ct_pre (fun x hx => by
    obtain ⟨a, b, c, is, _, _⟩ := hx
    obtain ⟨tk, e⟩ := is.value
    rw [← a]
    exact ct_weak (value_m w _ _ i ti _ _ _ _ _ _ _ _ b (by rw [c]; omega) (by rw [e]; rfl)) (fun h hp => hp.1) fun r fp' hr => ⟨tk, by rw [hr.1, e], hr.2⟩) (sees_pre hq)
theorem children_p (hq : pt[i]? = some q) (hz : pt.length ≤ 2 ^ 20) : Ct w 407 3 24 [.ref H.t, .int i ti] [] (Sees w.params H pt) (fun r fp' => ∃ D n l, r = .ref D ∧ fp' = [(D, listOf (nv l).toArray n)] ∧ l.map (·.1) = q.kids ∧ l.length ≤ pt.length) :=
  ct_pre (fun x hx => by
    obtain ⟨a, b, c, is, k, _⟩ := hx
    obtain ⟨l, e, e2⟩ := is.kids
    rw [← a]
    refine ct_weak (children_m w _ _ i ti _ _ _ _ _ _ _ _ _ b (by rw [c]; omega) (by omega)) (fun h hp => ⟨hp.1.1, hp.1.2, _, hp.2.1⟩) fun r fp' ⟨D, n, e3, e4⟩ => ⟨D, n, l, e3, by rw [e4, e], e2, ?_⟩
    rw [e, nv_len] at k; exact k) (sees_pre hq)
theorem attributes_p (hq : pt[i]? = some q) (hz : pt.length ≤ 2 ^ 20) : Ct w 414 3 24 [.ref H.t, .int i ti] [] (Sees w.params H pt) (fun r fp' => ∃ D n l, r = .ref D ∧ fp' = [(D, listOf (nv l).toArray n)] ∧ l.map (·.1) = q.atts ∧ l.length ≤ pt.length) :=
  ct_pre (fun x hx => by
    obtain ⟨a, b, c, is, _, k⟩ := hx
    obtain ⟨l, e, e2⟩ := is.atts
    rw [← a]
    refine ct_weak (attributes_m w _ _ i ti _ _ _ _ _ _ _ _ _ b (by rw [c]; omega) (by omega)) (fun h hp => ⟨hp.1.1, hp.1.2, _, hp.2.2⟩) fun r fp' ⟨D, n, e3, e4⟩ => ⟨D, n, l, e3, by rw [e4, e], e2, ?_⟩
    rw [e, nv_len] at k; exact k) (sees_pre hq)
end
/-- the walk over a forest, its steps counted -/
inductive WN (pt : List PN) : List Nat → List Nat → Nat → Prop
  | nil : WN pt [] [] 0
  | elem {i q rest o1 o2 a b} : pt[i]? = some q → q.kind = kElem → WN pt q.kids o1 a → WN pt rest o2 b → WN pt (i :: rest) (i :: (o1 ++ o2)) (a + b + 1)
  | other {i q rest o2 b} : pt[i]? = some q → q.kind ≠ kElem → WN pt rest o2 b → WN pt (i :: rest) o2 (b + 1)
section
variable {pt : List PN} {l l' o o' : List Nat} {n n' : Nat}
theorem WL.count (h : WL pt l o) : ∃ n, WN pt l o n := by
  induction h with
  | nil => exact ⟨_, .nil⟩
  | elem a b _ _ ih1 ih2 => obtain ⟨_, h1⟩ := ih1; obtain ⟨_, h2⟩ := ih2; exact ⟨_, .elem a b h1 h2⟩
  | other a b _ ih => obtain ⟨_, h⟩ := ih; exact ⟨_, .other a b h⟩
theorem WN.append (h : WN pt l o n) (h' : WN pt l' o' n') : WN pt (l ++ l') (o ++ o') (n + n') := by
  induction h with
  | nil => rw [Nat.zero_add]; exact h'
  | @elem i q rest o1 o2 a b h1 h2 h3 _ _ ih =>
    rw [List.cons_append, List.cons_append, List.append_assoc, show a + b + 1 + n' = a + (b + n') + 1 by omega]
    exact .elem h1 h2 h3 ih
  | @other i q rest o2 b h1 h2 _ ih =>
    rw [show b + 1 + n' = b + n' + 1 by omega]
    exact .other h1 h2 ih
theorem WN.len (h : WN pt l o n) : l.length ≤ n ∧ o.length ≤ n := by
  induction h with
  | nil => exact ⟨Nat.le_refl _, Nat.le_refl _⟩
  | elem _ _ _ _ ih1 ih2 => simp only [List.length_cons, List.length_append]; omega
  | other _ _ _ ih => simp only [List.length_cons]; omega
theorem WN.bound {B : Nat} (hB : ∀ q ∈ pt, q.kids.length ≤ B) (h : WN pt l o n) : n ≤ l.length + o.length * B := by
  induction h with
  | nil => exact Nat.zero_le _
  | @elem i q rest o1 o2 a b h1 _ _ _ ih1 ih2 =>
    have := hB q (List.mem_of_getElem? h1)
    simp only [List.length_cons, List.length_append, Nat.add_mul, Nat.one_mul]
    omega
  | other _ _ _ ih => simp only [List.length_cons]; omega
end
theorem sees_inst {w : World} {H : TH} {pt : List PN} {g h : Heap} (S : Sees w.params H pt g) (k : ∀ b o, g.get? b = some o → h.get? b = some o) : W.InstAt h H.t (instObj 445 H.dt) 445 (some (rowsObj w.params H.k H.r H.n1)) := by
  obtain ⟨T, a, _, _, rfl⟩ := S
  exact ⟨k _ _ (a _ Tr.at_t), rfl, rfl, k _ _ (a _ Tr.at_dt)⟩
theorem Pick1.upd {a : Addr} {o o' : Obj} {l r : Led} (P : Pick1 a o l r) : ∃ l', Upd a o o' l l' ∧ ∀ p ∈ (a, o') :: r, p ∈ l' := by
  induction P with
  | head h => exact ⟨_, .head h, fun _ hp => hp⟩
  | tail h _ ih =>
    obtain ⟨l', U, k⟩ := ih
    refine ⟨_, .tail h U, fun p hp => ?_⟩
    rcases List.mem_cons.mp hp with rfl | hp
    · exact .tail _ (k _ (.head _))
    · rcases List.mem_cons.mp hp with rfl | hp
      · exact .head _
      · exact .tail _ (k _ (.tail _ hp))
theorem kl_last_app (us : List Value) (y : Value) : kl_last (us ++ [y]) = some (us, y) := by
  induction us with
  | nil => rfl
  | cons a r ih => show (match kl_last (r ++ [y]) with | some (p, y) => some (a :: p, y) | none => some ([], a)) = _; rw [ih]
section
variable {prog : Program} {w : World} {A : Around} {E : Value → Shared → Prop} {s : Shared} {h₀ : Heap} {L D b : Addr} {m : Str → Option Value} {news rest : Led} {us ws : List Value} {n n2 : Nat} {y : Value} {Q : Value → Shared → Prop}
theorem ext_p (F : Fr h₀ L s.heap m) (N : News h₀ L s.heap news) (P : Pick1 D (listOf us.toArray n) news rest) (hb : (b, listOf ws.toArray n2) ∈ news) (hz : us.length + ws.length ≤ 2 ^ 20)
    (h : ∀ h' n', Fr h₀ L h' m → News h₀ L h' ((D, listOf (us ++ ws).toArray n') :: rest) → Q .none { s with heap := h' }) : wpAny (model prog w) A (call (.builtin "list.extend") [.ref D, .ref b]) Q E s := by
  have hd : ¬(!us.toArray.isEmpty && Builtin.List.listTooLong (us.toArray.size + ws.toArray.size)) = true := by
    have : Builtin.List.listTooLong (us.toArray.size + ws.toArray.size) = false := by
      unfold Builtin.List.listTooLong
      rw [List.size_toArray, List.size_toArray, decide_eq_false_iff_not, sizeLine_eq]
      omega
    rw [this, Bool.and_false]; decide
  have h1 : us.toArray.toList.length ≤ sizeLine := by rw [sizeLine_eq]; show us.length ≤ _; omega
  have h2 : us.toArray.size + ws.toArray.size ≤ sizeLine + 1 := by rw [sizeLine_eq, List.size_toArray, List.size_toArray]; omega
  cases ws with
  | nil =>
    obtain ⟨l', U, k⟩ := P.upd (o' := listOf us.toArray n)
    exact kxn_extend F N hb rfl U hd h1 h2 fun h' F' N' => h h' n F' (news_sub N' (by rw [List.append_nil]; exact k))
  | cons w r =>
    obtain ⟨l', U, k⟩ := P.upd (o' := listOf (us ++ w :: r).toArray (n + 1))
    exact kl_extend F N hb rfl (by simp) U hd h1 h2 fun h' F' N' => h h' (n + 1) F' (news_sub N' k)
theorem pop_p (F : Fr h₀ L s.heap m) (N : News h₀ L s.heap news) (P : Pick1 D (listOf (us ++ [y]).toArray n) news rest) (hz : us.length < 2 ^ 20)
    (h : ∀ h' n', Fr h₀ L h' m → News h₀ L h' ((D, listOf us.toArray n') :: rest) → Q y { s with heap := h' }) : wpAny (model prog w) A (call (.builtin "list.pop") [.ref D]) Q E s := by
  obtain ⟨l', U, k⟩ := P.upd (o' := listOf us.toArray (n + 1))
  have e : kl_last (us ++ [y]).toArray.toList = some (us, y) := by
    exact kl_last_app us y
  exact kl_pop F N e U (by rw [sizeLine_eq]; simp; omega) fun h' F' N' => h h' _ F' (news_sub N' k)
end
theorem nv_rev {l : List (Nat × Tok)} : (nv l).reverse = nv l.reverse := by simp [nv, List.map_reverse]
theorem rev_p {prog : Program} {w : World} {A : Around} {E : Value → Shared → Prop} {h₀ hp : Heap} {gs : Array GenState} {dr : Drawn} {tk : Tok} {os : OsState} {L l : Addr} {m : Str → Option Value} {news : Led} {value slice : PySem.Expr} {us : List (Nat × Tok)} {vk : Value} {ops : List Value} {Q : Value → Shared → Prop}
    (F : Fr h₀ L hp m) (N : News h₀ L hp news) (hl : hp.IsList l (nv us).toArray) (pk : IsPart vk (some (-1)))
    (h : ∀ D h', Fr h₀ L h' m → News h₀ L h' ((D, listOf (nv us.reverse).toArray 0) :: news) → (∀ p ∈ news, p.1 < D) → Q (.ref D) ⟨h', gs, dr, tk, os⟩)
    (hs : subscripted slice false (.ref l) (.ref hp.objs.size) = operate ops (getItem (.ref l) (.ref hp.objs.size))) (ht : ∀ r, letTemporaryGo value (.ref l) r = pure ()) (hz : us.length ≤ 2 ^ 20) :
    wpAny (model prog w) A (subscriptTail value slice (.ref l) (.ref hp.objs.size)) Q E ⟨hp.push { cls := .type "slice", data := .fields #[.none, .none, vk] }, gs, dr, tk, os⟩ := by
  refine krv_lit (s := ⟨hp, gs, dr, tk, os⟩) F N hl pk rfl (fun D h' F' N' l1 => h D h' F' ?_ l1) hs ht (by rw [List.size_toArray, nv_len, sizeLine_eq]; omega)
  have e : (nv us).toArray.toList.reverse = nv us.reverse := nv_rev
  rw [e] at N'
  exact N'
/-- walk_elements, between its turns -/
inductive WJ (pt : List PN) (out : List Nat) (B : Nat) (n : Nat) (m : Str → Option Value) (nn : Led) : Prop
  | mk (D1 D2 : Addr) (n1 n2 : Nat) (fl lf : List (Nat × Tok)) (o : List Nat) (p1 : m (Str.ofString "found") = some (.ref D1)) (p2 : m (Str.ofString "left") = some (.ref D2)) (p3 : nn = [(D1, listOf (nv fl).toArray n1), (D2, listOf (nv lf).toArray n2)]) (p4 : @Ne Nat D1 D2) (p5 : WN pt (lf.map (·.1)).reverse o n) (p6 : fl.map (·.1) ++ o = out) (p7 : n + fl.length ≤ B) : WJ pt out B n m nn
section
variable {pt : List PN} {o : List Nat} {n : Nat}
theorem WN.none (h : WN pt (([] : List (Nat × Tok)).map (·.1)).reverse o n) : o = [] := by
  cases h; rfl
theorem WN.pop {r : List (Nat × Tok)} {z : Nat} {tz : Tok} (h : WN pt ((r ++ [(z, tz)]).map (·.1)).reverse o n) : ∃ q, pt[z]? = some q ∧ 1 ≤ n ∧
    (q.kind = kElem → ∃ o1 o2 a c, o = z :: (o1 ++ o2) ∧ WN pt q.kids o1 a ∧ WN pt (r.map (·.1)).reverse o2 c ∧ n = a + c + 1) ∧ (q.kind ≠ kElem → ∃ c, WN pt (r.map (·.1)).reverse o c ∧ n = c + 1) := by
  rw [List.map_append, List.reverse_append] at h
  have h' : WN pt (z :: (r.map (·.1)).reverse) o n := h
  cases h' with
  | elem h1 h2 h3 h4 => exact ⟨_, h1, Nat.le_add_left .., fun _ => ⟨_, _, _, _, rfl, h3, h4, rfl⟩, fun h => absurd h2 h⟩
  | other h1 h2 h3 => exact ⟨_, h1, Nat.le_add_left .., fun h => absurd h h2, fun _ => ⟨_, h3, rfl⟩⟩
end
section
variable {prog : Program} {w : World} {A : Around} {E : Value → Shared → Prop} {Q : Flow → Shared → Prop} {s : Shared} {env : Env} {h₀ : Heap} {L : Addr}
/-- a while, its turns storing into the names ys alone -/
theorem while_over {test : Expr} {body : List Stmt} {pos : Pos} {m₀ : Str → Option Value} {news : Led} (ys : List Str) (J : Nat → (Str → Option Value) → Led → Prop) {n₀ : Nat}
    (F : Fr h₀ L s.heap m₀) (N : News h₀ L s.heap news) (hJ : J n₀ m₀ news)
    (turn : ∀ n u nn h tk, J n (over ys u m₀) nn → Fr h₀ L h (over ys u m₀) → News h₀ L h nn →
      wpAny (model prog w) A (isTrue test env (eval test env)) (fun b s₂ =>
        if b = true then wpAny (model prog w) A (execs body env) (WhileStep h₀ L s (fun n m nn => (∀ z, z ∉ ys → m z = m₀ z) ∧ J n m nn) n) E s₂ else Q .next s₂) E { s with heap := h, toks := tk })
    (hE : PassesOwn (model prog w) A env E := by passes_own) :
    wpAny (model prog w) A (exec (.While test body [] pos) env) Q E s :=
  While_inv (fun n m nn => (∀ z, z ∉ ys → m z = m₀ z) ∧ J n m nn) F N ⟨fun _ _ => rfl, hJ⟩
    (fun n m₁ nn h tk F₁ N₁ ⟨hm, hj⟩ => turn n m₁ nn h tk (by rw [over_self hm]; exact hj) (by rw [over_self hm]; exact F₁) N₁) hE
end
theorem last_case {α : Type} (l : List α) : l = [] ∨ ∃ r z, l = r ++ [z] := by
  rcases List.eq_nil_or_concat l with h | ⟨r, z, h⟩
  · exact .inl h
  · exact .inr ⟨r, z, by rw [h, List.concat_eq_append]⟩
theorem nv_app {l k : List (Nat × Tok)} : nv l ++ nv k = nv (l ++ k) := by simp [nv]
theorem wn_small {a b : Nat} (h1 : a ≤ 40) (h2 : b ≤ 10) : a + b * 40 ≤ 440 := by omega
section
theorem rows15 : True := by
  k_with_none
  k_with "ktr_enter" =>
    (refine enter_cells (by k_asm) (by k_asm) (by k_asm) (by k_asm) (by k_asm) (by exact rfl) (by exact rfl) (by assumption) (by k_is) (by k_is) (by ktr_room) (by exact BindsTo.of_eq rfl) (by exact rfl) (by decide +kernel) ?_ (by exact rfl) (by exact rfl) (by exact rfl); k_whole; intro g' L' h' tk' cells' FG' F' N' Y' B' X' T' l1 kG'; (try k_lt l1); k_cells Y'; (try dsimp only [List.cons_append, List.nil_append] at N'); (try dsimp only); (try k_fold))
  k_with "ktr_enter" =>
    (refine code_defG (by k_asm) (by k_asm) (by k_asm) (by k_asm) (by k_asm) (by exact rfl) (by exact rfl) (by assumption) (by k_is) (by k_is) (by ktr_room) (by exact BindsTo.of_eq rfl) (by exact locs rfl) ?_ (by exact rfl) (by exact rfl) (by exact rfl) (by decide); k_whole; intro g' L' h' FG' F' N' B' X' T' kG'; (try dsimp only); (try k_fold))
  k_with "k_ne" =>
    (refine neN ?_; (try dsimp only); with_reducible first | assumption | exact Ne.symm (by assumption) | exact Nat.ne_of_gt (by assumption) | exact Nat.ne_of_lt (by assumption) | exact Nat.ne_of_gt (Nat.lt_succ_of_lt (by assumption)) | exact Nat.ne_of_lt (Nat.lt_succ_of_lt (by assumption)))
  k_with "k_lt" =>
    (intro l1; replace l1 := allLt_of l1; (try dsimp only [AllLt] at l1); (repeat (with_reducible (have O8 := And.left l1; replace l1 := And.right l1))))
  k_with "my pick" =>
    (first | (refine Pick1.head ?_; k_extra "k_all") | exact Pick1.tail (by k_ne) (by k_extra "my pick"))
  k_with "my sub" =>
    (first | exact List.forall_mem_nil _ | (refine List.forall_mem_cons.mpr ⟨by k_mem, ?_⟩; k_extra "my sub"))
  k_with "k_room" =>
    ((try simp only [depth_under_make, depth_under_kw, depth_in1, depth_deeper, depth_caller]); (try dsimp only [ktrTop]); omega)
  k_with "my and" =>
    (first | assumption | exact And.intro (by k_ne) (by k_extra "my and") | k_ne)
  k_with "my conj" =>
    (intro l1; (repeat (with_reducible (have O8 := And.left l1; replace l1 := And.right l1))))
  k_with "my off" =>
    ((rename OffL _ _ => O9); (try dsimp only [OffL, Off1, keys, nodeLed, List.map] at O9); revert O9; k_extra "my conj2")
  k_with "CompRest" =>
    (with_unfolding_all first | (refine LCg.CompRest.succ ?_; intro v' I' oI' C' oC' D' m' h' tk' E' hv' hC' hx' F' N' off' ne'; (first | lcg_open hv' | (obtain ⟨t9', hv9'⟩ := hv'; subst hv9')); (try dsimp only [LCg.Off3] at off'); revert off'; k_extra "my conj2"; revert ne'; k_extra "my conj") | refine LCg.CompRest.zero ?_)
  k_with "FinE" =>
    ((unfold LCg.FinE); intro D' h' tk' F' N' o1'; (try dsimp only [LCg.Off1] at o1'); (try dsimp only [List.nil_append, List.cons_append] at N'); (try dsimp only); revert o1'; k_extra "my conj")
  k_with "FinA" =>
    ((unfold LCg.FinA); intro D' h' tk' F' N' o1'; (try dsimp only [LCg.Off1] at o1'); (try dsimp only [List.nil_append, List.cons_append] at N'); (try dsimp only); revert o1'; k_extra "my conj")
  k_with "k_all" =>
    (first | exact List.forall_mem_nil _ | exact Off1.all (by with_reducible assumption) | exact AllLt.ne (by with_reducible assumption) | exact List.forall_mem_cons.mpr ⟨by k_ne, by k_extra "k_all"⟩)
  k_with "my conj2" =>
    (intro l2; (repeat (with_reducible (have l1 := And.left l2; replace l2 := And.right l2; revert l1; k_extra "my conj"))))
  k_with "my same" =>
    (intro z9 hz9; first | rfl | (refine same_step hz9 (by k_mem) ?_; k_extra "my same2") | ((simp only [List.mem_cons, List.not_mem_nil, or_false, not_or] at hz9); first | rfl | (simp only [hz9, if_false, if_neg, over, not_false_eq_true]; done) | (simp [hz9, over]; done)))
  k_with "my same2" =>
    (first | rfl | (refine same_step (by assumption) (by k_mem) ?_; k_extra "my same2"))
  k_with "TurnPost" =>
    (dsimp only [TurnPost])
  k_with "my for" =>
    (k_here; (rename Fr _ _ _ _ => lF'); (with_unfolding_all refine For_turns lF' ?_ (hE := by first | passes_own | assumption); k_whole))
  k_with "execs cons" =>
    (refine wpAny_execs_cons ?_; (try k_fold))
  k_with "room" =>
    (first | exact room2 (by assumption) (by exact rfl) | exact room3 (by assumption) (by exact rfl) | exact room1 (by assumption) (by exact rfl) | exact room0 (by assumption) | exact room4 (by assumption) (by exact rfl))
  k_with "k_room" =>
    (k_extra "room")
  k_with "k_inst" =>
    (exact sees_inst (by assumption) (Fr.keep (by k_asm)))
  k_with "subscriptTail Call" =>
    (refine halt ?_)
  k_with "call ref" =>
    (k_here; (with_reducible show wpAny _ _ (call (Value.ref 407) _) _ _ _); k_dflt (refine use_ctE (children_p (by assumption) (by assumption)) (by k_asm) (by k_asm) (by k_asm) (by k_asm) (by k_asm) (by first | exact rfl | assumption) (by exact Sees.keep (by assumption) (Fr.keep (by k_asm))) (by ktr_room) (by ktr_units) ?_; intro r9 fp9 h9 tk9 F9 N9 O9 R9; obtain ⟨D9, n9, l9, e9, f9, q9, z9⟩ := R9; subst e9; subst f9; k_extra "my off"; (try dsimp only [List.cons_append, List.nil_append] at N9); (try dsimp only); (try k_fold)))
  k_with "call ref" =>
    (k_here; (with_reducible show wpAny _ _ (call (Value.ref 365) _) _ _ _); k_dflt (refine use_ctE (kind_p (by assumption) (by assumption)) (by k_asm) (by k_asm) (by k_asm) (by k_asm) (by k_asm) (by first | exact rfl | assumption) (by exact Sees.keep (by assumption) (Fr.keep (by k_asm))) (by ktr_room) (by ktr_units) ?_; intro r9 fp9 h9 tk9 F9 N9 O9 R9; obtain ⟨tk9, e9, f9⟩ := R9; subst e9; subst f9; (try dsimp only [List.nil_append] at N9); (try dsimp only); (try k_fold)))
  k_with "subscriptTail Call" =>
    (k_here; k_dflt (refine kba_turn (value' := PySem.Expr.Name (PySem.Str.ofString "_") ⟨0, 0, 0, 0⟩) (fun _ => rfl) ?_); k_dflt (refine rev_p (by k_asm) (by k_asm) (by exact News.isList (by k_asm) (by k_mem)) (by exact IsPart.int _ _) ?_ (by with_unfolding_all rfl) (by kmk_pure) (by omega)); intro D' h' F' N' l1; (try k_lt l1); (try k_sweep))
  k_with "compareOp NotEq ref ref" =>
    (k_here; (with_reducible show wpAny _ _ (compareOp CmpOp.NotEq (Value.ref _) (Value.ref _)) _ _ _); k_dflt (refine ne_nil_rule (News.isList (by k_asm) (by k_mem)) (News.isList (by k_asm) (by k_mem)) (by ke_room) ?_))
  k_with "call builtin:list.pop" =>
    (k_here; k_dflt (refine pop_p (by k_asm) (by k_asm) (by k_extra "my pick") (by (simp only [nv_len]; omega)) ?_); intro h' n' F' N'; (try dsimp only); (try k_fold))
  k_with "call builtin:list.extend" =>
    (k_here; k_dflt (refine ext_p (by k_asm) (by k_asm) (by k_extra "my pick") (by k_mem) (by (simp only [nv_len, List.length_reverse]; omega)) ?_); intro h' n' F' N'; (try dsimp only); (try k_fold))
  k_with "exec While" =>
    (refine halt ?_)
  k_with "WhileStep" =>
    (refine halt ?_)
  trivial
theorem walk_elements_p (w : World) (H : TH) (pt : List PN) (t0 : Tok) (q : PN) (out : List Nat) (hq : pt[0]? = some q) (hw : WL pt q.kids out) (hz : pt.length ≤ 40) (ho : out.length ≤ 10) (hB : ∀ q ∈ pt, q.kids.length ≤ 40) :
    Ct w 42 4 48 [.ref H.t, .int ((0 : Nat) : Int) t0] [] (Sees w.params H pt) (fun r fp' => ∃ D n l, r = .ref D ∧ fp' = [(D, listOf (nv l).toArray n)] ∧ l.map (·.1) = out) := by
  intro mean mg mb dp un gd cn cs ca ccd cl' outer A₀ base h₀ L m s Q E B F X N T hk hp hdp hun hret
  refine wpAny_call ?_
  k_dflt ktr_enter
  rename GSub _ _ _ => kG
  rename Fr _ _ _ (fun y => List.lookup y _) => F1
  have F2 : Fr _ _ _ (frm [(Str.ofString "root", .int ((0 : Nat) : Int) t0), (Str.ofString "tree", .ref H.t)]) := F1
  clear F1
  generalize s.toks + List.length _ = tk0
  have hpg := hp.keep fun b o e => kG b o e List.not_mem_nil
  have hz2 : pt.length ≤ 2 ^ 20 := Nat.le_trans hz (by decide)
  obtain ⟨n0, hn0⟩ := hw.count
  have hn1 : n0 ≤ 440 := Nat.le_trans (hn0.bound hB) (wn_small (hB q (List.mem_of_getElem? hq)) ho)
  k_steps
  refine' unhalt (while_over (n₀ := n0) [Str.ofString "node"] (WJ pt out 440) (by assumption) (news_sub (l' := [(?D1, listOf (nv []).toArray 0), (?D2, listOf (nv (List.reverse ?l)).toArray 0)]) (by assumption) ?sub) ?j0 ?turn)
  case sub => k_extra "my sub"
  case j0 =>
    refine ⟨_, _, _, _, [], _, out, rfl, rfl, rfl, by k_ne, ?_, rfl, hn1⟩
    rw [List.map_reverse, List.reverse_reverse]
    rename List.map _ _ = q.kids => hqk
    rw [hqk]; exact hn0
  case turn =>
    intro n u nn h1 tk1 J1 F1 N1
    obtain ⟨D1, D2, n1, n2, fl, lf, o, hf, hl, rfl, hne, hwn, hout, hB1⟩ := J1
    have hf' : some (Value.ref D1) = some (Value.ref _) := hf.symm
    injection hf' with hf'
    injection hf' with hf'
    subst hf'
    have hl' : some (Value.ref D2) = some (Value.ref _) := hl.symm
    injection hl' with hl'
    injection hl' with hl'
    subst hl'
    have hfl : (nv fl).length ≤ 440 := by rw [nv_len]; omega
    dsimp only [over] at F1
    rcases last_case lf with rfl | ⟨r, ⟨z, tz⟩, rfl⟩
    · have ho := hwn.none
      subst ho
      k_steps
      exact back_close2 hret (by assumption) (by assumption) kG (by assumption) (by assumption) [(D1, listOf (nv fl).toArray n1)] (by k_extra "my sub") ⟨_, _, _, rfl, rfl, by rw [← hout, List.append_nil]⟩
    · obtain ⟨qz, hqz, hn2, hpe, hpo⟩ := hwn.pop
      have hwl := hwn.len.1
      have hr : r.length ≤ 440 := by simp at hwl; omega
      rw [nv_app.symm] at N1
      k_steps
      · rename List.isEmpty _ = true => he
        exact absurd he (by simp [nv])
      · rename (qz.kind == _) = true => hkq
        rename List.map _ _ = qz.kids => hqk
        obtain ⟨o1, o2, a1, c1, rfl, w1, w2, rfl⟩ := hpe (eq_of_beq hkq)
        refine' unhalt (WhileStep.intro (n' := a1 + c1) (news₂ := [(D1, listOf ((nv fl).toArray.push (.int (z : Int) tz)) ?na), (D2, listOf (nv r ++ nv (List.reverse ?lk)).toArray ?nb)]) ?eF (news_sub ?eN ?es) (Nat.lt_succ_self _) ⟨?esame, D1, D2, ?na, ?nb, fl ++ [(z, tz)], r ++ List.reverse ?lk, o1 ++ o2, ?ef, ?el, ?enn, hne, ?ewn, ?eout, ?eB⟩)
        case eF => assumption
        case eN => assumption
        case es => k_extra "my sub"
        case esame => k_extra "my same"
        case ef => rfl
        case el => rfl
        case enn => rw [nv_push2, nv_app]
        case ewn =>
          rw [List.map_append, List.reverse_append, List.map_reverse, List.reverse_reverse, hqk]
          exact w1.append w2
        case eout => rw [← hout]; simp
        case eB => simp; omega
      · rename (qz.kind == _) = false => hkq
        obtain ⟨c1, w2, rfl⟩ := hpo (ne_of_beq_false hkq)
        refine' unhalt (WhileStep.intro (n' := c1) (news₂ := [(D1, listOf (nv fl).toArray ?nc), (D2, listOf (nv r).toArray ?nd)]) ?oF (news_sub ?oN ?os) (Nat.lt_succ_self _) ⟨?osame, D1, D2, ?nc, ?nd, fl, r, o, ?of, ?ol, rfl, hne, w2, hout, ?oB⟩)
        case oF => assumption
        case oN => assumption
        case os => k_extra "my sub"
        case osame => k_extra "my same"
        case of => rfl
        case ol => rfl
        case oB => omega
end

section
variable {prog : Program} {w : World} {A : Around} {E : Value → Shared → Prop} {s : Shared} {h₀ : Heap} {L d : Addr} {m : Str → Option Value} {news rest : Led} {o : Obj} {kvs : List (Str × Value)} {k : Str} {tk : Tok} {v dflt : Value}
theorem dct_of {h : Heap} (e : h.get? d = some o) (hd : o.IsDictOf (strKind prog w) kvs) : h.DictOf (strKind prog w) d kvs := Heap.dictOf_iff.mpr ⟨o, e, hd⟩
/-- a dict whose keys are texts: its get, its in, its item -/
theorem val_nil : valueAt ([] : List (Str × Value)) k = none := rfl
theorem dget_m {pl : Sem Bool} {Q : Value × List Value → Shared → Prop} (hD : s.heap.DictOf (strKind prog w) d kvs) (h : Q (.builtin "dict.get", [.ref d]) s) : wpAny (model prog w) A (getMethod (.ref d) "get" pl) Q E s :=
  getMethod_builtin hD.typeIs PySem.F.plainAttrs_dict PySem.F.slot_dict_get PySem.F.type_dict_get hD.mapOf.noDict h
theorem dget1 {x : Option Value} {Q : Value → Shared → Prop} (hD : s.heap.DictOf (strKind prog w) d kvs) (lo : (d == sysModules) = false) (hl : valueAt kvs k = x) (h : Q (x.getD .none) { s with toks := s.toks + 1 }) :
    wpAny (model prog w) A (call (.builtin "dict.get") [.ref d, .str k tk]) Q E s :=
  call_meetsIn PySem.F.slot_dict_get hD.typeIs PySem.F.entry_dict_get (PySem.F.args_dict_get_2 _ _) (meets_dict_get (strKind prog w) d (strKind_is _ _ _ _) lo) ⟨_, hD.mapOf, by rw [hl]; exact h⟩
theorem dget2 {x : Option Value} {Q : Value → Shared → Prop} (hD : s.heap.DictOf (strKind prog w) d kvs) (lo : (d == sysModules) = false) (hl : valueAt kvs k = x) (h : Q (x.getD dflt) { s with toks := s.toks + 1 }) :
    wpAny (model prog w) A (call (.builtin "dict.get") [.ref d, .str k tk, dflt]) Q E s :=
  call_meetsIn PySem.F.slot_dict_get hD.typeIs PySem.F.entry_dict_get (PySem.F.args_dict_get_3 _ _ _) (meets_dict_get_default (strKind prog w) d (strKind_is _ _ _ _) lo dflt) ⟨_, hD.mapOf, by rw [hl]; exact h⟩
theorem dnotin {x : Option Value} {Q : Value → Shared → Prop} (hD : s.heap.DictOf (strKind prog w) d kvs) (lo : (d == sysModules) = false) (hl : valueAt kvs k = x) (h : Q (.bool (!x.isSome)) { s with toks := s.toks + 1 }) :
    wpAny (model prog w) A (compareOp .NotIn (.str k tk) (.ref d)) Q E s := wpAny_notIn_of (strKind_is _ _ _ _) lo hD.mapOf (by rw [hl]; exact h)
theorem ditem {value slice : PySem.Expr} {Q : Value → Shared → Prop} (hD : s.heap.DictOf (strKind prog w) d kvs) (hl : valueAt kvs k = some v) (h : Q v { s with toks := s.toks + 1 })
    (hs : subscripted slice false (.ref d) (.str k tk) = operate [.ref d, .str k tk] (getItem (.ref d) (.str k tk)) := by with_unfolding_all rfl) (hg : ∀ r, letTemporaryGo value (.ref d) r = pure () := by intro _; with_unfolding_all rfl) :
    wpAny (model prog w) A (subscriptTail value slice (.ref d) (.str k tk)) Q E s :=
  subscriptTail_builtin hD.typeIs slot_dict_getitem.lookup (wpAny_getItem_of (strKind_is _ _ _ _) hD.mapOf hl h) hs hg
theorem Pick1.split {a : Addr} {l r : Led} (P : Pick1 a o l r) : ∃ pre post, l = pre ++ (a, o) :: post ∧ r = pre ++ post ∧ (∀ p ∈ pre, p.1 ≠ a) ∧ ∀ p ∈ post, p.1 ≠ a := by
  induction P with
  | head h => exact ⟨[], _, rfl, rfl, fun _ h => (nomatch h), h⟩
  | tail h _ ih =>
    obtain ⟨pre, post, a, b, c, e⟩ := ih
    exact ⟨_ :: pre, post, by rw [a]; rfl, by rw [b]; rfl, fun q hq => (List.mem_cons.mp hq).elim (fun e => e ▸ h) (c q), e⟩
theorem dset {Q : Unit → Shared → Prop} (F : Fr h₀ L s.heap m) (N : News h₀ L s.heap news) (P : Pick1 d o news rest) (hd : o.IsDictOf (strKind prog w) kvs) (hn : valueAt kvs k = none) (hsz : kvs.length ≤ 2 ^ 20)
    (h : ∀ h' o', Fr h₀ L h' m → News h₀ L h' ((d, o') :: rest) → o'.IsDictOf (strKind prog w) (kvs ++ [(k, v)]) → Q () { s with heap := h', toks := s.toks + 1 }) : wpAny (model prog w) A (setItem (.ref d) (.str k tk) v) Q E s := by
  obtain ⟨pre, post, rfl, rfl, a, b⟩ := P.split
  have hm := N (d, o) (List.mem_append_right _ (.head _))
  refine wpAny_setItem_pairs (hsz := by rw [sizeLine_eq]; omega) (strKind_is _ _ _ _) (Heap.dictOf_iff.mpr ⟨o, hm.1, hd⟩) fun h' hmm hs => ?_
  obtain ⟨o', ho', hd'⟩ := Heap.dictOf_iff.mp hmm
  have e : stored kvs k v = kvs ++ [(k, v)] := by
    unfold stored
    rw [if_neg]
    intro ha
    obtain ⟨x, hx, hk⟩ := List.any_eq_true.mp ha
    unfold valueAt at hn
    rw [Option.map_eq_none_iff, List.find?_eq_none] at hn
    exact hn x hx hk
  rw [e] at hd'
  refine h h' o' (F.change hs hm.2.1 hm.2.2) (news_sub (N.setIn a b hs ho') fun p hp => ?_) hd'
  rcases List.mem_cons.mp hp with rfl | hp
  · exact List.mem_append_right _ (.head _)
  · rcases List.mem_append.mp hp with hp | hp
    · exact List.mem_append_left _ hp
    · exact List.mem_append_right _ (.tail _ hp)
end
noncomputable abbrev ddObj (P : Params) (k1 k2 k3 k4 : Tok) (rt : Value) (e a nn : Addr) (n : Nat) : Obj := dictOf [ent P "root" k1 rt, ent P "elements" k2 (.ref e), ent P "attributes" k3 (.ref a), ent P "notations" k4 (.ref nn)] n
/-- the object of a Dtd's names -/
inductive IsDD (P : Params) (o : Obj) (a : Addr) : Prop
  | mk (k1 k2 k3 k4 rt e nn n : _) (p1 : o = ddObj P k1 k2 k3 k4 rt e a nn n) : IsDD P o a
section
theorem rows16 : True := by
  k_with_none
  k_with "ktr_enter" =>
    (refine enter_cells (by k_asm) (by k_asm) (by k_asm) (by k_asm) (by k_asm) (by exact rfl) (by exact rfl) (by assumption) (by k_is) (by k_is) (by ktr_room) (by exact BindsTo.of_eq rfl) (by exact rfl) (by decide +kernel) ?_ (by exact rfl) (by exact rfl) (by exact rfl); k_whole; intro g' L' h' tk' cells' FG' F' N' Y' B' X' T' l1 kG'; (try k_lt l1); k_cells Y'; (try dsimp only [List.cons_append, List.nil_append] at N'); (try dsimp only); (try k_fold))
  k_with "ktr_enter" =>
    (refine code_defG (by k_asm) (by k_asm) (by k_asm) (by k_asm) (by k_asm) (by exact rfl) (by exact rfl) (by assumption) (by k_is) (by k_is) (by ktr_room) (by exact BindsTo.of_eq rfl) (by exact locs rfl) ?_ (by exact rfl) (by exact rfl) (by exact rfl) (by decide); k_whole; intro g' L' h' FG' F' N' B' X' T' kG'; (try dsimp only); (try k_fold))
  k_with "k_ne" =>
    (refine neN ?_; (try dsimp only); with_reducible first | assumption | exact Ne.symm (by assumption) | exact Nat.ne_of_gt (by assumption) | exact Nat.ne_of_lt (by assumption) | exact Nat.ne_of_gt (Nat.lt_succ_of_lt (by assumption)) | exact Nat.ne_of_lt (Nat.lt_succ_of_lt (by assumption)))
  k_with "k_lt" =>
    (intro l1; replace l1 := allLt_of l1; (try dsimp only [AllLt] at l1); (repeat (with_reducible (have O8 := And.left l1; replace l1 := And.right l1))))
  k_with "my pick" =>
    (first | (refine Pick1.head ?_; k_extra "k_all") | exact Pick1.tail (by k_ne) (by k_extra "my pick"))
  k_with "my sub" =>
    (first | exact List.forall_mem_nil _ | (refine List.forall_mem_cons.mpr ⟨by k_mem, ?_⟩; k_extra "my sub"))
  k_with "k_room" =>
    ((try simp only [depth_under_make, depth_under_kw, depth_in1, depth_deeper, depth_caller]); (try dsimp only [ktrTop]); omega)
  k_with "my and" =>
    (first | assumption | exact And.intro (by k_ne) (by k_extra "my and") | k_ne)
  k_with "my conj" =>
    (intro l1; (repeat (with_reducible (have O8 := And.left l1; replace l1 := And.right l1))))
  k_with "my off" =>
    ((rename OffL _ _ => O9); (try dsimp only [OffL, Off1, keys, nodeLed, List.map] at O9); revert O9; k_extra "my conj2")
  k_with "CompRest" =>
    (with_unfolding_all first | (refine LCg.CompRest.succ ?_; intro v' I' oI' C' oC' D' m' h' tk' E' hv' hC' hx' F' N' off' ne'; (first | lcg_open hv' | (obtain ⟨t9', hv9'⟩ := hv'; subst hv9')); (try dsimp only [LCg.Off3] at off'); revert off'; k_extra "my conj2"; revert ne'; k_extra "my conj") | refine LCg.CompRest.zero ?_)
  k_with "FinE" =>
    ((unfold LCg.FinE); intro D' h' tk' F' N' o1'; (try dsimp only [LCg.Off1] at o1'); (try dsimp only [List.nil_append, List.cons_append] at N'); (try dsimp only); revert o1'; k_extra "my conj")
  k_with "FinA" =>
    ((unfold LCg.FinA); intro D' h' tk' F' N' o1'; (try dsimp only [LCg.Off1] at o1'); (try dsimp only [List.nil_append, List.cons_append] at N'); (try dsimp only); revert o1'; k_extra "my conj")
  k_with "k_all" =>
    (first | exact List.forall_mem_nil _ | exact Off1.all (by with_reducible assumption) | exact AllLt.ne (by with_reducible assumption) | exact List.forall_mem_cons.mpr ⟨by k_ne, by k_extra "k_all"⟩)
  k_with "my conj2" =>
    (intro l2; (repeat (with_reducible (have l1 := And.left l2; replace l2 := And.right l2; revert l1; k_extra "my conj"))))
  k_with "my same" =>
    (intro z9 hz9; first | rfl | (refine same_step hz9 (by k_mem) ?_; k_extra "my same2") | ((simp only [List.mem_cons, List.not_mem_nil, or_false, not_or] at hz9); first | rfl | (simp only [hz9, if_false, if_neg, over, not_false_eq_true]; done) | (simp [hz9, over]; done)))
  k_with "my same2" =>
    (first | rfl | (refine same_step (by assumption) (by k_mem) ?_; k_extra "my same2"))
  k_with "TurnPost" =>
    (dsimp only [TurnPost])
  k_with "my for" =>
    (k_here; (rename Fr _ _ _ _ => lF'); (with_unfolding_all refine For_turns lF' ?_ (hE := by first | passes_own | assumption); k_whole))
  k_with "execs cons" =>
    (refine wpAny_execs_cons ?_; (try k_fold))
  k_with "room" =>
    (first | exact room2 (by assumption) (by exact rfl) | exact room3 (by assumption) (by exact rfl) | exact room1 (by assumption) (by exact rfl) | exact room0 (by assumption) | exact room4 (by assumption) (by exact rfl))
  k_with "k_room" =>
    (k_extra "room")
  k_with "k_inst" =>
    (exact inst_base (by k_asm) (by assumption) (by assumption))
  k_with "my dct" =>
    (first | exact dct_of (News.get (by k_asm) (by k_mem)) (by assumption) | exact dct_of (Fr.keep (by k_asm) _ _ (by assumption)) (by assumption))
  k_with "getMethod ref" =>
    (k_here; (with_reducible show wpAny _ _ (getMethod (Value.ref _) (Str.ofString "get") _) _ _ _); k_dflt (refine dget_m (by k_extra "my dct") ?_))
  k_with "call builtin:dict.get" =>
    (k_here; k_dflt (refine dget1 (by k_extra "my dct") (by assumption) (by assumption) ?_); (try dsimp only [Option.getD]))
  k_with "compareOp NotIn str ref" =>
    (k_here; k_dflt (refine dnotin (by k_extra "my dct") (by assumption) (by first | assumption | exact val_nil) ?_); (try dsimp only [Option.isSome, Bool.not_false, Bool.not_true]))
  k_with "setItem ref str" =>
    (k_here; k_dflt (refine dset (by k_asm) (by k_asm) (by k_extra "my pick") (by assumption) (by first | assumption | exact val_nil) (by first | assumption | exact Nat.le_of_ble_eq_true rfl) ?_); intro h' o' F' N' hd'; (try dsimp only [List.nil_append] at hd'))
  trivial
theorem decl_new_m (w : World) (D DD A x : Addr) (od oA : Obj) (kvs : List (Str × Value)) (el n : Str) (te tn : Tok) (hdd : IsDD w.params od A) (hA : oA.IsDictOf (strKind PR w) kvs) (lo : (A == sysModules) = false) (hn : valueAt kvs el = none) (hz : kvs.length ≤ 2 ^ 20) (d1 : D ≠ A) (d2 : DD ≠ A) :
    Ct w 170 2 32 [.ref D, .str el te, .str n tn, .ref x] [(A, oA)] (fun h => h.get? D = some (instObj 234 DD) ∧ h.get? DD = some od)
      (fun v fp' => v = .none ∧ ∃ oA' R oR, fp' = [(A, oA'), (R, oR)] ∧ @Ne Nat A R ∧ oA'.IsDictOf (strKind PR w) (kvs ++ [(el, .ref R)]) ∧ oR.IsDictOf (strKind PR w) [(n, .ref x)] ∧ (R == sysModules) = false) := by
  intro mean mg mb dp un gd cn cs ca ccd cl' outer A₀ base h₀ L m s Q E B F X N T hk hp hdp hun hret
  obtain ⟨k1, k2, k3, k4, rt, e, nn, n0, rfl⟩ := hdd
  obtain ⟨e1, e2⟩ := hp
  refine wpAny_call ?_
  k_dflt ktr_enter
  rename GSub _ _ _ => kG
  have g1 := kG _ _ e1 (by simp [d1])
  have g2 := kG _ _ e2 (by simp [d2])
  k_steps
  refine' back_close2 hret (by assumption) (by assumption) kG (by assumption) (by assumption) [(A, _), (_, _)] ?sub ⟨rfl, _, _, _, rfl, ?ne, by assumption, by assumption, by assumption⟩
  case sub => k_extra "my sub"
  case ne => k_ne
theorem decl_old_m (w : World) (D DD A R x : Addr) (od oA oR : Obj) (kvs rs : List (Str × Value)) (el n : Str) (te tn : Tok) (hdd : IsDD w.params od A) (hA : oA.IsDictOf (strKind PR w) kvs) (lo : (A == sysModules) = false) (hn : valueAt kvs el = some (.ref R))
    (hR : oR.IsDictOf (strKind PR w) rs) (lo2 : (R == sysModules) = false) (hn2 : valueAt rs n = none) (hz : rs.length ≤ 2 ^ 20) (d1 : D ≠ R) (d2 : DD ≠ R) (d3 : A ≠ R) :
    Ct w 170 2 32 [.ref D, .str el te, .str n tn, .ref x] [(R, oR)] (fun h => h.get? D = some (instObj 234 DD) ∧ h.get? DD = some od ∧ h.get? A = some oA)
      (fun v fp' => v = .none ∧ ∃ oR', fp' = [(R, oR')] ∧ oR'.IsDictOf (strKind PR w) (rs ++ [(n, .ref x)])) := by
  intro mean mg mb dp un gd cn cs ca ccd cl' outer A₀ base h₀ L m s Q E B F X N T hk hp hdp hun hret
  obtain ⟨k1, k2, k3, k4, rt, e, nn, n0, rfl⟩ := hdd
  obtain ⟨e1, e2, e3⟩ := hp
  refine wpAny_call ?_
  k_dflt ktr_enter
  rename GSub _ _ _ => kG
  have g1 := kG _ _ e1 (by simp [d1])
  have g2 := kG _ _ e2 (by simp [d2])
  have g3 := kG _ _ e3 (by simp [d3])
  k_steps
  refine back_close2 hret (by assumption) (by assumption) kG (by assumption) (by assumption) [(R, _)] (by k_extra "my sub") ⟨rfl, _, rfl, by assumption⟩
end
/-- a rule, the rules of an element, a Dtd, as they lie -/
structure Ru where
  x : Addr
  dx : Addr
  od : Obj
  k : Str
structure En where
  el : Str
  R : Addr
  oR : Obj
  rs : List (Str × Ru)
structure Dt where
  D : Addr
  DD : Addr
  od : Obj
  A : Addr
  oA : Obj
  es : List En
noncomputable def Ru.led (r : Ru) : Led := [(r.x, instObj 106 r.dx), (r.dx, r.od)]
noncomputable def En.led (e : En) : Led := (e.R, e.oR) :: e.rs.flatMap fun r => r.2.led
noncomputable def Dt.led (T : Dt) : Led := (T.D, instObj 234 T.DD) :: (T.DD, T.od) :: (T.A, T.oA) :: T.es.flatMap En.led
noncomputable def Dt.own (T : Dt) : List Addr := T.D :: T.DD :: T.A :: T.es.map (·.R)
noncomputable abbrev ruObj (P : Params) (k1 k2 k3 k4 tk : Tok) (kind : Str) (ch mode value : Value) (n : Nat) : Obj := dictOf [ent P "kind" k1 (.str kind tk), ent P "choices" k2 ch, ent P "mode" k3 mode, ent P "value" k4 value] n
inductive IsRu (P : Params) (o : Obj) (k : Str) : Prop
  | mk (k1 k2 k3 k4 tk ch mode value n : _) (p1 : o = ruObj P k1 k2 k3 k4 tk k ch mode value n) : IsRu P o k
noncomputable abbrev En.kvs (e : En) : List (Str × Value) := e.rs.map fun r => (r.1, .ref r.2.x)
noncomputable abbrev En.kinds (e : En) : List (Str × Str) := e.rs.map fun r => (r.1, r.2.k)
noncomputable def look : List En → Str → List (Str × Str)
  | [], _ => []
  | e :: r, z => if e.el = z then e.kinds else look r z
structure Dt.Ok (w : World) (T : Dt) : Prop where
  nodup : T.own.Nodup
  dd : IsDD w.params T.od T.A
  aa : T.oA.IsDictOf (strKind PR w) (T.es.map fun e => (e.el, .ref e.R))
  low : (T.A == sysModules) = false
  rr : ∀ e ∈ T.es, e.oR.IsDictOf (strKind PR w) e.kvs ∧ (e.R == sysModules) = false
  ru : ∀ e ∈ T.es, ∀ r ∈ e.rs, IsRu w.params r.2.od r.2.k ∧ r.2.x ∉ T.own ∧ r.2.dx ∉ T.own
  size : T.es.length ≤ 16 ∧ ∀ e ∈ T.es, e.rs.length ≤ 16
noncomputable def putK (f : Str → List (Str × Str)) (el n k : Str) : Str → List (Str × Str) := fun z => if z = el then f z ++ [(n, k)] else f z
theorem look_cases (es : List En) (el : Str) : (valueAt (es.map fun e => (e.el, Value.ref e.R)) el = none ∧ look es el = [] ∧ ∀ e ∈ es, e.el ≠ el) ∨
    ∃ l1 e l2, es = l1 ++ e :: l2 ∧ e.el = el ∧ (∀ x ∈ l1, x.el ≠ el) ∧ valueAt (es.map fun e => (e.el, Value.ref e.R)) el = some (.ref e.R) ∧ look es el = e.kinds := by
  induction es with
  | nil => exact .inl ⟨rfl, rfl, fun _ h => nomatch h⟩
  | cons e r ih =>
    by_cases h : e.el = el
    · exact .inr ⟨[], e, r, rfl, h, (fun _ h => nomatch h), by simp [valueAt, h], by simp [look, h]⟩
    · have hv : valueAt ((e :: r).map fun e => (e.el, Value.ref e.R)) el = valueAt (r.map fun e => (e.el, Value.ref e.R)) el := by simp [valueAt, h]
      have hl : look (e :: r) el = look r el := by simp [look, h]
      rcases ih with ⟨a, b, c⟩ | ⟨l1, e', l2, a, b, c, d, f⟩
      · exact .inl ⟨hv.trans a, hl.trans b, fun x hx => (List.mem_cons.mp hx).elim (fun e => e ▸ h) (c x)⟩
      · exact .inr ⟨e :: l1, e', l2, by rw [a]; rfl, b, fun x hx => (List.mem_cons.mp hx).elim (fun e => e ▸ h) (c x), hv.trans d, hl.trans f⟩
theorem look_app {l1 l2 : List En} {z : Str} (h : ∀ x ∈ l1, x.el ≠ z) : look (l1 ++ l2) z = look l2 z := by
  induction l1 with
  | nil => rfl
  | cons e r ih => rw [List.cons_append, look, if_neg (h e (.head _)), ih fun x hx => h x (.tail _ hx)]
theorem rows17 : True := by
  k_with_none
  k_with "ktr_enter" =>
    (refine enter_cells (by k_asm) (by k_asm) (by k_asm) (by k_asm) (by k_asm) (by exact rfl) (by exact rfl) (by assumption) (by k_is) (by k_is) (by ktr_room) (by exact BindsTo.of_eq rfl) (by exact rfl) (by decide +kernel) ?_ (by exact rfl) (by exact rfl) (by exact rfl); k_whole; intro g' L' h' tk' cells' FG' F' N' Y' B' X' T' l1 kG'; (try k_lt l1); k_cells Y'; (try dsimp only [List.cons_append, List.nil_append] at N'); (try dsimp only); (try k_fold))
  k_with "ktr_enter" =>
    (refine code_defG (by k_asm) (by k_asm) (by k_asm) (by k_asm) (by k_asm) (by exact rfl) (by exact rfl) (by assumption) (by k_is) (by k_is) (by ktr_room) (by exact BindsTo.of_eq rfl) (by exact locs rfl) ?_ (by exact rfl) (by exact rfl) (by exact rfl) (by decide); k_whole; intro g' L' h' FG' F' N' B' X' T' kG'; (try dsimp only); (try k_fold))
  k_with "k_ne" =>
    (refine neN ?_; (try dsimp only); with_reducible first | assumption | exact Ne.symm (by assumption) | exact Nat.ne_of_gt (by assumption) | exact Nat.ne_of_lt (by assumption) | exact Nat.ne_of_gt (Nat.lt_succ_of_lt (by assumption)) | exact Nat.ne_of_lt (Nat.lt_succ_of_lt (by assumption)))
  k_with "k_lt" =>
    (intro l1; replace l1 := allLt_of l1; (try dsimp only [AllLt] at l1); (repeat (with_reducible (have O8 := And.left l1; replace l1 := And.right l1))))
  k_with "my pick" =>
    (first | (refine Pick1.head ?_; k_extra "k_all") | exact Pick1.tail (by k_ne) (by k_extra "my pick"))
  k_with "my sub" =>
    (first | exact List.forall_mem_nil _ | (refine List.forall_mem_cons.mpr ⟨by k_mem, ?_⟩; k_extra "my sub"))
  k_with "k_room" =>
    ((try simp only [depth_under_make, depth_under_kw, depth_in1, depth_deeper, depth_caller]); (try dsimp only [ktrTop]); omega)
  k_with "my and" =>
    (first | assumption | exact And.intro (by k_ne) (by k_extra "my and") | k_ne)
  k_with "my conj" =>
    (intro l1; (repeat (with_reducible (have O8 := And.left l1; replace l1 := And.right l1))))
  k_with "my off" =>
    ((rename OffL _ _ => O9); (try dsimp only [OffL, Off1, keys, nodeLed, List.map] at O9); revert O9; k_extra "my conj2")
  k_with "CompRest" =>
    (with_unfolding_all first | (refine LCg.CompRest.succ ?_; intro v' I' oI' C' oC' D' m' h' tk' E' hv' hC' hx' F' N' off' ne'; (first | lcg_open hv' | (obtain ⟨t9', hv9'⟩ := hv'; subst hv9')); (try dsimp only [LCg.Off3] at off'); revert off'; k_extra "my conj2"; revert ne'; k_extra "my conj") | refine LCg.CompRest.zero ?_)
  k_with "FinE" =>
    ((unfold LCg.FinE); intro D' h' tk' F' N' o1'; (try dsimp only [LCg.Off1] at o1'); (try dsimp only [List.nil_append, List.cons_append] at N'); (try dsimp only); revert o1'; k_extra "my conj")
  k_with "FinA" =>
    ((unfold LCg.FinA); intro D' h' tk' F' N' o1'; (try dsimp only [LCg.Off1] at o1'); (try dsimp only [List.nil_append, List.cons_append] at N'); (try dsimp only); revert o1'; k_extra "my conj")
  k_with "k_all" =>
    (first | exact List.forall_mem_nil _ | exact Off1.all (by with_reducible assumption) | exact AllLt.ne (by with_reducible assumption) | exact List.forall_mem_cons.mpr ⟨by k_ne, by k_extra "k_all"⟩)
  k_with "my conj2" =>
    (intro l2; (repeat (with_reducible (have l1 := And.left l2; replace l2 := And.right l2; revert l1; k_extra "my conj"))))
  k_with "my same" =>
    (intro z9 hz9; first | rfl | (refine same_step hz9 (by k_mem) ?_; k_extra "my same2") | ((simp only [List.mem_cons, List.not_mem_nil, or_false, not_or] at hz9); first | rfl | (simp only [hz9, if_false, if_neg, over, not_false_eq_true]; done) | (simp [hz9, over]; done)))
  k_with "my same2" =>
    (first | rfl | (refine same_step (by assumption) (by k_mem) ?_; k_extra "my same2"))
  k_with "TurnPost" =>
    (dsimp only [TurnPost])
  k_with "my for" =>
    (k_here; (rename Fr _ _ _ _ => lF'); (with_unfolding_all refine For_turns lF' ?_ (hE := by first | passes_own | assumption); k_whole))
  k_with "execs cons" =>
    (refine wpAny_execs_cons ?_; (try k_fold))
  k_with "room" =>
    (first | exact room2 (by assumption) (by exact rfl) | exact room3 (by assumption) (by exact rfl) | exact room1 (by assumption) (by exact rfl) | exact room0 (by assumption) | exact room4 (by assumption) (by exact rfl))
  k_with "k_room" =>
    (k_extra "room")

  trivial
theorem look_new {es : List En} {e : En} {n : Str} {r : Ru} (h : ∀ x ∈ es, x.el ≠ e.el) (hr : e.rs = [(n, r)]) : look (es ++ [e]) = putK (look es) e.el n r.k := by
  funext z
  by_cases hz : z = e.el
  · subst hz
    have e0 : look es e.el = [] := by have := look_app (l2 := []) h; rw [List.append_nil] at this; exact this
    rw [look_app h, putK, if_pos rfl, e0]
    simp [look, En.kinds, hr]
  · rw [putK, if_neg hz]
    induction es with
    | nil => simp [look, Ne.symm hz]
    | cons x l ih =>
      rw [List.cons_append, look, look, ih fun y hy => h y (.tail _ hy)]
theorem look_old {l1 l2 : List En} {e e' : En} {n : Str} {r : Ru} (h : ∀ x ∈ l1, x.el ≠ e.el) (h1 : e'.el = e.el) (hr : e'.rs = e.rs ++ [(n, r)]) : look (l1 ++ e' :: l2) = putK (look (l1 ++ e :: l2)) e.el n r.k := by
  funext z
  by_cases hz : z = e.el
  · subst hz
    rw [putK, if_pos rfl, look_app h, look_app h, look, look, if_pos h1, if_pos rfl]
    simp [En.kinds, hr]
  · rw [putK, if_neg hz]
    induction l1 with
    | nil => simp [look, h1, Ne.symm hz]
    | cons x l ih =>
      rw [List.cons_append, look, List.cons_append, look, ih fun y hy => h y (.tail _ hy)]
theorem val_none {l : List (Str × Ru)} {n : Str} (h : ∀ p ∈ l, p.1 ≠ n) : valueAt (l.map fun r => (r.1, Value.ref r.2.x)) n = none := by
  unfold valueAt
  rw [Option.map_eq_none_iff, List.find?_eq_none]
  intro x hx
  obtain ⟨p, hp, rfl⟩ := List.mem_map.mp hx
  simpa using h p hp
theorem decl_t (w : World) (T : Dt) (el n : Str) (te tn : Tok) (r : Ru) (hok : T.Ok w) (hr : IsRu w.params r.od r.k) (hx0 : r.x ∉ T.own) (hdx : r.dx ∉ T.own) (hn : ∀ p ∈ look T.es el, p.1 ≠ n) (hz : T.es.length < 16 ∧ ∀ e ∈ T.es, e.rs.length < 16) :
    Ct w 170 2 32 [.ref T.D, .str el te, .str n tn, .ref r.x] (T.led ++ r.led) (fun _ => True) (fun v fp' => v = .none ∧ ∃ T' : Dt, fp' = T'.led ∧ T'.Ok w ∧ T'.D = T.D ∧ look T'.es = putK (look T.es) el n r.k ∧ T'.es.length ≤ T.es.length + 1 ∧ ∀ e ∈ T'.es, ∃ e0 : List (Str × Ru), e.rs.length ≤ e0.length + 1 ∧ (e0 = [] ∨ ∃ e1 ∈ T.es, e0 = e1.rs)) := by
  have own := hok.nodup
  unfold Dt.own at own
  have a1 : (T.D, instObj 234 T.DD) ∈ T.led ++ r.led := .head _
  have a2 : (T.DD, T.od) ∈ T.led ++ r.led := .tail _ (.head _)
  have a3 : (T.A, T.oA) ∈ T.led ++ r.led := .tail _ (.tail _ (.head _))
  have ae : ∀ e ∈ T.es, ∀ q ∈ e.led, q ∈ T.led ++ r.led := fun e he q hq => List.mem_append_left _ (.tail _ (.tail _ (.tail _ (List.mem_flatMap.mpr ⟨e, he, hq⟩))))
  have hD : T.D ∈ T.own := .head _
  have hDD : T.DD ∈ T.own := .tail _ (.head _)
  have hA : T.A ∈ T.own := .tail _ (.tail _ (.head _))
  have hR : ∀ e ∈ T.es, e.R ∈ T.own := fun e he => .tail _ (.tail _ (.tail _ (List.mem_map_of_mem he)))
  obtain ⟨o1, o2⟩ := List.nodup_cons.mp own
  obtain ⟨o3, o4⟩ := List.nodup_cons.mp o2
  obtain ⟨o5, o6⟩ := List.nodup_cons.mp o4
  have hrk : ∀ q ∈ r.led, q.1 ∉ T.own := fun q hq => by
    simp only [Ru.led, List.mem_cons, List.not_mem_nil, or_false] at hq
    rcases hq with rfl | rfl
    · exact hx0
    · exact hdx
  have hrk2 : ∀ e ∈ T.es, ∀ p ∈ e.rs, ∀ q ∈ p.2.led, q.1 ∉ T.own := fun e he p hp q hq => by
    have := hok.ru e he p hp
    simp only [Ru.led, List.mem_cons, List.not_mem_nil, or_false] at hq
    rcases hq with rfl | rfl
    · exact this.2.1
    · exact this.2.2
  rcases look_cases T.es el with ⟨hv, hl, hne⟩ | ⟨l1, e, l2, he, hel, hne, hv, hl⟩
  · refine ct_frame (rest := (T.led ++ r.led).filter fun q => q.1 ≠ T.A) (decl_new_m w T.D T.DD T.A r.x T.od T.oA _ el n te tn hok.dd hok.aa hok.low hv (by simp; omega) (fun e => o1 (by simp [e])) fun e => o3 (by simp [e])) ?_ ?_ (fun N _ => ⟨N.get a1, N.get a2⟩) ?_
    · intro q hq; rw [List.mem_singleton.mp hq]; exact a3
    · intro q hq
      obtain ⟨h, e⟩ := List.mem_filter.mp hq
      exact ⟨h, by simpa [keys] using e⟩
    · rintro v fp' ⟨rfl, oA', R, oR, rfl, hAR, hA', hR', lo⟩ _ hfr
      have hRf : R ∉ keys (T.led ++ r.led) := by
        rcases hfr (R, oR) (.tail _ (.head _)) with h | h
        · exact absurd (List.mem_singleton.mp h) (fun e => hAR e.symm)
        · exact h
      have hRo : R ∉ T.own := fun h => by
        rcases List.mem_cons.mp h with e | h
        · exact hRf (e ▸ List.mem_map_of_mem a1)
        rcases List.mem_cons.mp h with e | h
        · exact hRf (e ▸ List.mem_map_of_mem a2)
        rcases List.mem_cons.mp h with e | h
        · exact hRf (e ▸ List.mem_map_of_mem a3)
        obtain ⟨e, he, rfl⟩ := List.mem_map.mp h
        exact hRf (List.mem_map_of_mem (ae e he _ (.head _)))
      have hxR : r.x ≠ R := fun e => hRf (e ▸ List.mem_map_of_mem (List.mem_append_right _ (.head _)))
      have hdxR : r.dx ≠ R := fun e => hRf (e ▸ List.mem_map_of_mem (List.mem_append_right _ (.tail _ (.head _))))
      have ow : ∀ z, z ∈ ({ T with oA := oA', es := T.es ++ [⟨el, R, oR, [(n, r)]⟩] } : Dt).own → z ∈ T.own ∨ z = R := fun z hz => by
        simp only [Dt.own, List.map_append, List.map_cons, List.map_nil, List.mem_cons, List.mem_append, List.not_mem_nil, or_false] at hz ⊢
        rcases hz with h | h | h | h | h
        · exact .inl (.inl h)
        · exact .inl (.inr (.inl h))
        · exact .inl (.inr (.inr (.inl h)))
        · exact .inl (.inr (.inr (.inr h)))
        · exact .inr h
      refine ⟨_, ?_, rfl, { T with oA := oA', es := T.es ++ [⟨el, R, oR, [(n, r)]⟩] }, rfl, ⟨?_, hok.dd, ?_, hok.low, ?_, ?_, by simp; omega, ?_⟩, rfl, ?_, by simp, ?_⟩
      · intro q hq
        rcases List.mem_cons.mp hq with e | hq
        · exact .inr (List.mem_filter.mpr ⟨e ▸ a1, by rw [e]; simpa using fun e : T.D = T.A => o1 (by simp [e])⟩)
        rcases List.mem_cons.mp hq with e | hq
        · exact .inr (List.mem_filter.mpr ⟨e ▸ a2, by rw [e]; simpa using fun e : T.DD = T.A => o3 (by simp [e])⟩)
        rcases List.mem_cons.mp hq with e | hq
        · exact .inl (e ▸ .head _)
        obtain ⟨e, he, hqe⟩ := List.mem_flatMap.mp hq
        rcases List.mem_append.mp he with he | he
        · refine .inr (List.mem_filter.mpr ⟨ae e he q hqe, ?_⟩)
          rcases List.mem_cons.mp hqe with h | h
          · rw [h]; simpa using fun h2 : e.R = T.A => o5 (h2 ▸ List.mem_map_of_mem he)
          · obtain ⟨p, hp, hq⟩ := List.mem_flatMap.mp h
            simpa using fun h2 : q.1 = T.A => hrk2 e he p hp q hq (h2 ▸ hA)
        · rw [List.mem_singleton.mp he] at hqe
          rcases List.mem_cons.mp hqe with h | h
          · exact .inl (h ▸ .tail _ (.head _))
          · have h : q ∈ r.led := by simpa [En.led] using h
            exact .inr (List.mem_filter.mpr ⟨List.mem_append_right _ h, by simpa using fun h2 : q.1 = T.A => hrk q h (h2 ▸ hA)⟩)
      · have : ({ T with oA := oA', es := T.es ++ [⟨el, R, oR, [(n, r)]⟩] } : Dt).own = T.own ++ [R] := by simp [Dt.own]
        rw [this]
        exact nodup_app hok.nodup (by simp) fun a ha => by rw [List.mem_singleton.mp ha]; exact hRo
      · simpa using hA'
      · intro e he
        rcases List.mem_append.mp he with he | he
        · exact hok.rr e he
        · rw [List.mem_singleton.mp he]; exact ⟨hR', lo⟩
      · intro e he p hp
        rcases List.mem_append.mp he with he | he
        · obtain ⟨h1, h2, h3⟩ := hok.ru e he p hp
          refine ⟨h1, fun h => ?_, fun h => ?_⟩
          · rcases ow _ h with h | h
            · exact h2 h
            · exact hRf (h ▸ List.mem_map_of_mem (ae e he _ (.tail _ (List.mem_flatMap.mpr ⟨p, hp, .head _⟩))))
          · rcases ow _ h with h | h
            · exact h3 h
            · exact hRf (h ▸ List.mem_map_of_mem (ae e he _ (.tail _ (List.mem_flatMap.mpr ⟨p, hp, .tail _ (.head _)⟩))))
        · rw [List.mem_singleton.mp he] at hp
          rw [List.mem_singleton.mp hp]
          exact ⟨hr, fun h => (ow _ h).elim hx0 hxR, fun h => (ow _ h).elim hdx hdxR⟩
      · intro e he
        rcases List.mem_append.mp he with he | he
        · exact hok.size.2 e he
        · rw [List.mem_singleton.mp he]; simp
      · exact look_new (fun x hx => hne x hx) rfl
      · intro e he
        rcases List.mem_append.mp he with he | he
        · exact ⟨e.rs, Nat.le_succ _, .inr ⟨e, he, rfl⟩⟩
        · rw [List.mem_singleton.mp he]; exact ⟨[], by simp, .inl rfl⟩
  · have hem : e ∈ T.es := by rw [he]; simp
    have hnR : T.es.map (·.R) = l1.map (·.R) ++ e.R :: l2.map (·.R) := by rw [he]; simp
    have oD : T.D ≠ e.R := fun h => o1 (.tail _ (.tail _ (h ▸ List.mem_map_of_mem hem)))
    have oDD : T.DD ≠ e.R := fun h => o3 (.tail _ (h ▸ List.mem_map_of_mem hem))
    have oA : T.A ≠ e.R := fun h => o5 (h ▸ List.mem_map_of_mem hem)
    rw [hnR] at o6
    obtain ⟨n1, n2, n3⟩ := List.nodup_append.mp o6
    have oth : ∀ x, x ∈ l1 ∨ x ∈ l2 → x.R ≠ e.R := fun x hx h => by
      rcases hx with hx | hx
      · exact n3 x.R (List.mem_map_of_mem hx) e.R (.head _) h
      · exact (List.nodup_cons.mp n2).1 (h ▸ List.mem_map_of_mem hx)
    have hn' : valueAt e.kvs n = none := val_none fun p hp => hn (p.1, p.2.k) (by rw [hl]; exact List.mem_map_of_mem (f := fun r : Str × Ru => (r.1, r.2.k)) hp)
    refine ct_frame (rest := (T.led ++ r.led).filter fun q => q.1 ≠ e.R) (decl_old_m w T.D T.DD T.A e.R r.x T.od T.oA e.oR _ _ el n te tn hok.dd hok.aa hok.low hv (hok.rr e hem).1 (hok.rr e hem).2 hn' (by have := hok.size.2 e hem; simp; omega) oD oDD oA) ?_ ?_ (fun N _ => ⟨N.get a1, N.get a2, N.get a3⟩) ?_
    · intro q hq; rw [List.mem_singleton.mp hq]; exact ae e hem _ (.head _)
    · intro q hq
      obtain ⟨h, e⟩ := List.mem_filter.mp hq
      exact ⟨h, by simpa [keys] using e⟩
    · rintro v fp' ⟨rfl, oR', rfl, hR'⟩ _ hfr
      have ow : ({ T with es := l1 ++ { e with oR := oR', rs := e.rs ++ [(n, r)] } :: l2 } : Dt).own = T.own := by simp [Dt.own, he]
      have mem' : ∀ x, x ∈ l1 ++ { e with oR := oR', rs := e.rs ++ [(n, r)] } :: l2 → (x ∈ T.es ∧ x.R ≠ e.R) ∨ x = { e with oR := oR', rs := e.rs ++ [(n, r)] } := fun x hx => by
        rcases List.mem_append.mp hx with h | h
        · exact .inl ⟨by rw [he]; exact List.mem_append_left _ h, oth x (.inl h)⟩
        rcases List.mem_cons.mp h with h | h
        · exact .inr h
        · exact .inl ⟨by rw [he]; exact List.mem_append_right _ (.tail _ h), oth x (.inr h)⟩
      refine ⟨_, ?_, rfl, { T with es := l1 ++ { e with oR := oR', rs := e.rs ++ [(n, r)] } :: l2 }, rfl, ⟨by rw [ow]; exact hok.nodup, hok.dd, ?_, hok.low, ?_, ?_, ?_, ?_⟩, rfl, ?_, ?_, ?_⟩
      · intro q hq
        rcases List.mem_cons.mp hq with h | hq
        · exact .inr (List.mem_filter.mpr ⟨h ▸ a1, by rw [h]; simpa using oD⟩)
        rcases List.mem_cons.mp hq with h | hq
        · exact .inr (List.mem_filter.mpr ⟨h ▸ a2, by rw [h]; simpa using oDD⟩)
        rcases List.mem_cons.mp hq with h | hq
        · exact .inr (List.mem_filter.mpr ⟨h ▸ a3, by rw [h]; simpa using oA⟩)
        obtain ⟨x, hx, hqx⟩ := List.mem_flatMap.mp hq
        rcases mem' x hx with ⟨hx, hxR⟩ | rfl
        · refine .inr (List.mem_filter.mpr ⟨ae x hx q hqx, ?_⟩)
          rcases List.mem_cons.mp hqx with h | h
          · rw [h]; simpa using hxR
          · obtain ⟨p, hp, hq⟩ := List.mem_flatMap.mp h
            simpa using fun h2 : q.1 = e.R => hrk2 x hx p hp q hq (h2 ▸ hR e hem)
        · rcases List.mem_cons.mp hqx with h | h
          · exact .inl (h ▸ .head _)
          · obtain ⟨p, hp, hq⟩ := List.mem_flatMap.mp h
            rcases List.mem_append.mp hp with hp | hp
            · exact .inr (List.mem_filter.mpr ⟨ae e hem q (.tail _ (List.mem_flatMap.mpr ⟨p, hp, hq⟩)), by simpa using fun h2 : q.1 = e.R => hrk2 e hem p hp q hq (h2 ▸ hR e hem)⟩)
            · rw [List.mem_singleton.mp hp] at hq
              exact .inr (List.mem_filter.mpr ⟨List.mem_append_right _ hq, by simpa using fun h2 : q.1 = e.R => hrk q hq (h2 ▸ hR e hem)⟩)
      · have := hok.aa
        rw [he] at this
        simpa using this
      · intro x hx
        rcases mem' x hx with ⟨hx, _⟩ | rfl
        · exact hok.rr x hx
        · exact ⟨by simpa [En.kvs] using hR', (hok.rr e hem).2⟩
      · intro x hx p hp
        rw [ow]
        rcases mem' x hx with ⟨hx, _⟩ | rfl
        · exact hok.ru x hx p hp
        · rcases List.mem_append.mp hp with hp | hp
          · exact hok.ru e hem p hp
          · rw [List.mem_singleton.mp hp]; exact ⟨hr, hx0, hdx⟩
      · have := hok.size.1; rw [he] at this; simpa using this
      · intro x hx
        rcases mem' x hx with ⟨hx, _⟩ | rfl
        · exact hok.size.2 x hx
        · have := hz.2 e hem; simp; omega
      · have := look_old (l2 := l2) (e := e) (e' := { e with oR := oR', rs := e.rs ++ [(n, r)] }) (n := n) (r := r) (fun x hx => by rw [hel]; exact hne x hx) rfl rfl
        rw [← he] at this
        rw [← hel]; exact this
      · rw [he]; simp
      · intro x hx
        rcases mem' x hx with ⟨hx, _⟩ | rfl
        · exact ⟨x.rs, Nat.le_succ _, .inr ⟨x, hx, rfl⟩⟩
        · exact ⟨e.rs, by simp, .inr ⟨e, hem, rfl⟩⟩

section
variable {prog : Program} {w : World} {A : Around} {E : Value → Shared → Prop} {s : Shared} {h₀ : Heap} {L : Addr} {m : Str → Option Value} {target : Expr}
/-- the tests of a comprehension -/
noncomputable abbrev testsC (ifs : List Expr) (env : Env) : Sem Bool := forIn ifs true fun c r => if r = true then do let ok ← isTrue c env (eval c env); pure (ForInStep.yield ok) else pure (ForInStep.yield r)
/-- a turn of a comprehension's loop -/
noncomputable abbrev turnC (pos : Pos) (target : Expr) (ifs : List Expr) (it : Value) (env : Env) (after : Sem Unit) (c : Code) : Sem Fin := do
  standAt pos
  match ← pyNext it with
  | none => pure (.done .next)
  | some v =>
    letOwnedTupleGo target it v
    assign target env v
    let ok ← testsC ifs env
    if ok = true then do
      after
      again c
    else again c
/-- the end of a turn -/
noncomputable def LEnd (h₀ : Heap) (L : Addr) (m : Str → Option Value) (wr : List Addr) (own : Led) (J : Led → Prop) (s s' : Shared) : Prop :=
  ∃ h' tk nn, s' = { s with heap := h', toks := tk } ∧ Fr h₀ L h' m ∧ News h₀ L h' (own ++ nn) ∧ (∀ p ∈ nn, p.1 ∉ wr) ∧ J nn
theorem comp_core {elt : Expr} {gens : List Comprehension} {scope : Scope} {cp : Pos} {d : Nat} {acc : Value} {cenv : Env} {ifs : List Expr} {pos : Pos} {after : Sem Unit} {R : Result → Shared → Prop} {I : Addr} {fp wr : List Addr} {n : Nat} {P Md : Nat → Value → Heap → Prop} {St : Nat → Heap → Prop} {news : Led}
    (hturn : compTurn (.ListComp elt gens scope cp) d (.ref I) acc cenv = turnC pos target ifs (.ref I) cenv after (.compLoop (.ListComp elt gens scope cp) d (.ref I) acc cenv))
    (W : KTurns prog w A target I fp wr n P Md St) (hLf : L ∉ fp) (hwr : ∀ b ∈ wr, h₀.get? b = none) (hnw : ∀ p ∈ news, p.1 ∉ wr) (hst : St 0 s.heap) (F : Fr h₀ L s.heap m) (N : News h₀ L s.heap news)
    (J : Nat → Led → Prop) (h0 : J 0 news)
    (step : ∀ i v nn h tk own (E' : Value → Shared → Prop), i < n → P i v h → St (i + 1) h → J i nn → (∀ p ∈ nn, p.1 ∉ wr) → (∀ p ∈ own, p.1 ∈ fp) → (∀ b ∈ fp, h₀.get? b = none → ∀ o, h.get? b = some o → (b, o) ∈ own) → Fr h₀ L h m → News h₀ L h (own ++ nn) →
      wpAny (model prog w) A (assign target cenv v) (fun _ s₂ => wpAny (model prog w) A (testsC ifs cenv) (fun ok s₃ => if ok = true then wpAny (model prog w) A after (fun _ s₄ => LEnd h₀ L m wr own (J (i + 1)) { s with heap := h, toks := tk } s₄) E' s₃
        else LEnd h₀ L m wr own (J (i + 1)) { s with heap := h, toks := tk } s₃) E' s₂) E' { s with heap := h, toks := tk })
    (hR : ∀ h' tk nn, Fr h₀ L h' m → News h₀ L h' nn → (∀ p ∈ nn, p.1 ∉ wr) → J n nn → R (.ok .next) { s with heap := h', toks := tk }) :
    codeAny (model prog w) A (.compLoop (.ListComp elt gens scope cp) d (.ref I) acc cenv) R s := by
  have hLw : L ∉ wr := fun h => hLf (W.sub _ h)
  have old : ∀ b o, h₀.get? b = some o → b ∉ wr := fun b o e hb => by rw [hwr b hb] at e; cases e
  refine codeAny_loop rfl (fun k s' => ∃ h' tk nn i, s' = { s with heap := h', toks := tk } ∧ St i h' ∧ Fr h₀ L h' m ∧ News h₀ L h' nn ∧ (∀ p ∈ nn, p.1 ∉ wr) ∧ J i nn ∧ i ≤ n ∧ k = n + 1 - i) ?_ (n + 1)
    ⟨s.heap, s.toks, news, 0, rfl, hst, F, N, hnw, h0, Nat.zero_le _, rfl⟩
  rintro k s' ⟨h', tk, nn, i, rfl, hst', F', N', hnw', hJ, hi, rfl⟩
  have hden : (model prog w).den (.compLoop (.ListComp elt gens scope cp) d (.ref I) acc cenv) = (compTurn (.ListComp elt gens scope cp) d (.ref I) acc cenv).onRaise (fun x => do noteFrame x cenv; theTreesLotGoes x) := by
    cases d <;> rfl
  rw [hden]
  have hA : A.under (.compLoop (.ListComp elt gens scope cp) d (.ref I) acc cenv) = A := by cases d <;> rfl
  rw [hA]
  refine wpAny_noted ?_
  rw [hturn]
  have next : ∀ h₁ : Heap, (∀ b o, b ∉ wr → h'.get? b = some o → h₁.get? b = some o) → Fr h₀ L h₁ m ∧ News h₀ L h₁ nn := fun h₁ hk₁ =>
    ⟨⟨F'.ns.at' fun o e => hk₁ _ o hLw e, fun b o e => hk₁ b o (old b o e) (F'.keep b o e), F'.above⟩, fun p hp => ⟨hk₁ _ _ (hnw' p hp) (N' p hp).1, (N' p hp).2⟩⟩
  have fin : ∀ {h₂ : Heap} {tk₁ : Nat} {own : Led} {s₃ : Shared}, St (i + 1) h₂ → Fr h₀ L h₂ m → (∀ b ∈ fp, h₀.get? b = none → ∀ o, h₂.get? b = some o → (b, o) ∈ own) → i < n → LEnd h₀ L m wr own (J (i + 1)) { s with heap := h₂, toks := tk₁ } s₃ →
      ∃ k', k' < n + 1 - i ∧ ∃ h' tk nn i, s₃ = { s with heap := h', toks := tk } ∧ St i h' ∧ Fr h₀ L h' m ∧ News h₀ L h' nn ∧ (∀ p ∈ nn, p.1 ∉ wr) ∧ J i nn ∧ i ≤ n ∧ k' = n + 1 - i := by
    rintro h₂ tk₁ own s₃ hst₂ F₂ hown hlt ⟨h₃, tk₃, nn₃, rfl, F₃, N₃, ha₃, hJ₃⟩
    refine ⟨n + 1 - (i + 1), by omega, h₃, tk₃, nn₃, i + 1, rfl, ?_, F₃, N₃.right, ha₃, hJ₃, hlt, rfl⟩
    refine W.frame _ _ _ hst₂ fun b hb o e => ?_
    cases hn : h₀.get? b with
    | some o₀ =>
      have : o₀ = o := by have q := F₂.keep b o₀ hn; rw [e] at q; exact (Option.some.inj q).symm
      exact this ▸ F₃.keep b o₀ hn
    | none => exact (N₃ _ (List.mem_append_left _ (hown b hb hn o e))).1
  refine wpAny_bind (wpAny_standAt (wpAny_bind ?_))
  by_cases hlt : i < n
  · refine W.item i _ _ _ hlt hst' fun v h₁ tk₁ hMd hk₁ => ?_
    refine wpAny_bind (W.go i v _ _ _ hMd fun h₂ hP hst₂ hk₂ => wpAny_bind ?_)
    obtain ⟨F₂, N₂⟩ := next h₂ fun b o hb x => hk₂ b o hb (hk₁ b o hb x)
    have Nown : News h₀ L h₂ (PyProof.Rows.ownOf h₀ fp h₂) := news_ownOf hLf
    refine wpAny_mono (step i v nn h₂ tk₁ (PyProof.Rows.ownOf h₀ fp h₂) _ hlt hP hst₂ hJ hnw' ownOf_sub (fun b hb hn o e => mem_ownOf hb hn e) F₂ (Nown.append N₂)) (fun _ s₂ h₂' => wpAny_bind (wpAny_mono h₂' (fun ok s₃ h₃ => ?_) fun _ _ e => e)) fun _ _ e => e
    cases ok with
    | false => exact wpAny_pure ⟨rfl, fin hst₂ F₂ (fun b hb hn o e => mem_ownOf hb hn e) hlt h₃⟩
    | true => exact wpAny_bind (wpAny_mono h₃ (fun _ s₄ h₄ => wpAny_pure ⟨rfl, fin hst₂ F₂ (fun b hb hn o e => mem_ownOf hb hn e) hlt h₄⟩) fun _ _ e => e)
  · have hin : i = n := by omega
    subst hin
    refine W.done _ _ _ hst' fun h₁ tk₁ hk₁ => wpAny_pure ?_
    obtain ⟨F₁, N₁⟩ := next h₁ hk₁
    exact hR h₁ tk₁ nn F₁ N₁ hnw' hJ
variable {env : Env}
open LCg in
/-- a comprehension's begin: its list and its names are made -/
theorem comp_begin {elt iter : Expr} {ifs : List Expr} {rest : List Comprehension} {scope : Scope} {cl : List (Str × Addr)} {cp : Pos} {I : Addr} {news : Led} {RR : Value → Addr → Result → Shared → Prop}
    (hcell : ∀ y ∈ scope.names, y.2 ≠ .cell) (hkind : scope.kind = .function) (F : Fr h₀ L s.heap m) (N : News h₀ L s.heap news)
    (hself : ∀ h₁ tk (Q : Value → Shared → Prop) (E' : Value → Shared → Prop), (∀ b o, s.heap.get? b = some o → h₁.get? b = some o) → Q (.ref I) { s with heap := h₁, toks := tk } → wpAny (model prog w) A (pyIter (.ref I)) Q E' { s with heap := h₁, toks := tk })
    (loop : ∀ D C h₁ oC tk, (@Ne Nat C D) → (∀ b, b < s.heap.objs.size → (@Ne Nat b C) ∧ (@Ne Nat b D)) → (∀ b o, s.heap.get? b = some o → h₁.get? b = some o) → (∃ m₂, NsObj oC m₂) → Fr h₀ L h₁ m → News h₀ L h₁ ((C, oC) :: (D, lst []) :: news) →
      codeAny (model prog w) A (.compLoop (.ListComp elt (⟨target, iter, ifs, 0⟩ :: rest) scope cp) 0 (.ref I) (.ref D) (compEnvC scope cl C env)) (RR (.ref D) C) { s with heap := h₁, toks := tk }) :
    wpAny (model prog w) A (newList []) (fun acc s₃ => wpAny (model prog w) A (newFunctionEnv scope env.globals cl [] env.qual none .none (some env)) (fun cenv s₄ =>
      codeAny (model prog w) A (.compStart (.ListComp elt (⟨target, iter, ifs, 0⟩ :: rest) scope cp) 0 (.ref I) acc { cenv with scope := relabel scope env }) (RR acc cenv.locals) s₄) E s₃) E s := by
  refine wpAny_newObj_type (wpAny_newFunctionEnv hcell (by intro y hy; simp at hy) (fun h₁ hns₁ hsb₁ => ?_) hkind)
  dsimp only at hns₁ hsb₁ ⊢
  generalize hH2 : s.heap.push { cls := .type "list", dict := none, data := .seq ([] : List Value).toArray } = H2 at hns₁ hsb₁ ⊢
  have hC : H2.objs.size = s.heap.objs.size + 1 := by rw [← hH2, Heap.size_push]
  have hDC : s.heap.objs.size ≠ H2.objs.size := by rw [hC]; exact Nat.ne_of_lt (Nat.lt_succ_self _)
  have below : ∀ b, b < s.heap.objs.size → b ≠ H2.objs.size ∧ b ≠ s.heap.objs.size := fun b hb => ⟨by rw [hC]; exact Nat.ne_of_lt (Nat.lt_succ_of_lt hb), Nat.ne_of_lt hb⟩
  have old : ∀ b o, s.heap.get? b = some o → h₁.get? b = some o := fun b o e => hsb₁.extBut b o (below b (Heap.lt_size e)).1 (Heap.get?_push_of_some _ (hH2 ▸ Heap.get?_push_of_some _ e))
  have hacc : h₁.get? s.heap.objs.size = some (lst []) := hsb₁.extBut _ _ hDC (Heap.get?_push_of_some _ (hH2 ▸ Heap.get?_push_size _ rfl))
  have fresh₀ : ∀ a, s.heap.objs.size ≤ a → h₀.get? a = none := fun a ha => by
    cases e : h₀.get? a with
    | none => rfl
    | some o' => exact absurd (Heap.lt_size (F.keep a o' e)) (Nat.not_lt.mpr ha)
  have hLlt : L < s.heap.objs.size := F.ns.lt
  obtain ⟨oC, heC, hoC⟩ := ns_obj hns₁
  have NN : News h₀ L h₁ ((H2.objs.size, oC) :: (s.heap.objs.size, lst []) :: news) := fun p hp => by
    rcases List.mem_cons.mp hp with rfl | hp
    · exact ⟨heC, Ne.symm (below L hLlt).1, fresh₀ _ (by rw [hC]; exact Nat.le_succ _)⟩
    rcases List.mem_cons.mp hp with rfl | hp
    · exact ⟨hacc, Ne.symm (below L hLlt).2, fresh₀ _ (Nat.le_refl _)⟩
    · exact ⟨old _ _ (N p hp).1, (N p hp).2⟩
  have lp := loop s.heap.objs.size H2.objs.size h₁ oC (s.toks + ([] : List (Str × Value)).length) (Ne.symm hDC) below old ⟨_, hoC⟩ (F.keeps old) NN
  exact codeAny_compStart_list lp (hself h₁ _ _ _ old lp)
open LCg in
/-- the end of a turn, the list and the names of the comprehension in the ledger -/
noncomputable def GEnd (h₀ : Heap) (L : Addr) (m : Str → Option Value) (wr : List Addr) (own : Led) (C D : Addr) (ys : List Value) (J : Led → Prop) (s s' : Shared) : Prop :=
  ∃ h' tk oC nn, s' = { s with heap := h', toks := tk } ∧ Fr h₀ L h' m ∧ (∃ m₂, NsObj oC m₂) ∧ News h₀ L h' (own ++ (C, oC) :: (D, lst ys) :: nn) ∧ (∀ p ∈ nn, p.1 ∉ wr ∧ p.1 ≠ C ∧ p.1 ≠ D) ∧ J nn
open LCg in
/-- a name's, or names', store in a comprehension -/
noncomputable def AsgOk (prog : Program) (w : World) (A : Around) (target : Expr) (cenv : Env) (C : Addr) (v : Value) (h : Heap) (B : (Str → Option Value) → Prop) : Prop :=
  ∀ (s : Shared) (m₂ : Str → Option Value) (Q : Unit → Shared → Prop) (E : Value → Shared → Prop), s.heap = h → s.heap.Ns C m₂ →
    (∀ h' tk m', h'.Ns C m' → B m' → (∀ b o, b ≠ C → s.heap.get? b = some o → h'.get? b = some o) → Q () { s with heap := h', toks := tk }) → wpAny (model prog w) A (assign target cenv v) Q E s
theorem asg_name {x : Str} {px : Pos} {scope : Scope} {cl : List (Str × Addr)} {C : Addr} {v : Value} {h : Heap} (hx : scope.names.lookup x = some .local) (hkind : scope.kind = .function) :
    AsgOk prog w A (.Name x px) (compEnvC scope cl C env) C v h (fun m' => m' x = some v) := by
  intro s m₂ Q E _ hn k
  refine wpAny_assign_Name (wpAny_storeName_local (lookup_relabel_local hx) hn (fun h₃ hn₃ hs₃ => k h₃ _ _ hn₃ (by simp) fun b o hb e => hs₃.extBut b o hb e) (by simp [compEnvC, relabel, hkind]))
theorem asg_pair {x x₂ : Str} {px px₂ tp : Pos} {tk : Nat} {scope : Scope} {cl : List (Str × Addr)} {C t : Addr} {v₁ v₂ : Value} {h : Heap} (hh : A.handled = none) (hx : scope.names.lookup x = some .local) (hx₂ : scope.names.lookup x₂ = some .local) (hxx : x ≠ x₂) (hkind : scope.kind = .function)
    (ht : IsTup h t #[v₁, v₂]) :
    AsgOk prog w A (.Tuple [.Name x px, .Name x₂ px₂] tk tp) (compEnvC scope cl C env) C (.ref t) h (fun m' => m' x = some v₁ ∧ m' x₂ = some v₂) := by
  intro s m₂ Q E he hn k
  subst he
  refine assign_Tuple_tuple hh ht rfl rfl fun h₅ he => ?_
  have he' : ∀ b o, s.heap.get? b = some o → h₅.get? b = some o := fun b o e => he b o (Nat.ne_of_lt (Heap.lt_size e)) e
  refine assignInOrder_cons (wpAny_assign_Name (wpAny_storeName_local (lookup_relabel_local hx) (hn.at' fun o e => he' _ o e) (fun h₆ hn₆ hs₆ => ?_) (by simp [compEnvC, relabel, hkind])))
  refine assignInOrder_cons (wpAny_assign_Name (wpAny_storeName_local (lookup_relabel_local hx₂) hn₆ (fun h₃ hn₃ hs₃ => ?_) (by simp [compEnvC, relabel, hkind])))
  exact assignInOrder_nil (k h₃ _ _ hn₃ ⟨by simp [hxx], by simp⟩ fun b o hb e => hs₃.extBut b o hb (hs₆.extBut b o hb (he' b o e)))
open LCg in
/-- the turns of a comprehension of one clause with one test or none, by an invariant -/
theorem comp_turns {elt iter : Expr} {ifs : List Expr} {scope : Scope} {cl : List (Str × Addr)} {cp : Pos} {I : Addr} {fp wr : List Addr} {n : Nat} {P Md : Nat → Value → Heap → Prop} {St : Nat → Heap → Prop} {news : Led} {C D : Addr} {oC : Obj} {R : Result → Shared → Prop} {Bd : Nat → (Str → Option Value) → Prop}
    (W : KTurns prog w A target I fp wr n P Md St) (hn : n ≤ 2 ^ 20) (hLf : L ∉ fp) (hwr : ∀ b ∈ wr, h₀.get? b = none) (hnw : ∀ p ∈ news, p.1 ∉ wr) (hst : St 0 s.heap) (F : Fr h₀ L s.heap m)
    (hC : ∃ m₂, NsObj oC m₂) (hCD : (@Ne Nat C D)) (hfC : ∀ b ∈ fp, (@Ne Nat b C) ∧ (@Ne Nat b D)) (hnC : ∀ p ∈ news, (@Ne Nat p.1 C) ∧ (@Ne Nat p.1 D)) (N : News h₀ L s.heap ((C, oC) :: (D, lst []) :: news))
    (J : Nat → List Value → Led → Prop) (h0 : J 0 [] news)
    (hasg : ∀ i v h, i < n → P i v h → AsgOk prog w A target (compEnvC scope cl C env) C v h (Bd i))
    (step : ∀ i oC m₂ ys nn h tk own (E' : Value → Shared → Prop), i < n → (∃ h₁, St (i + 1) h₁ ∧ ∀ b ∈ fp, h₀.get? b = none → ∀ o, h₁.get? b = some o → (b, o) ∈ own) → J i ys nn → NsObj oC m₂ → Bd i m₂ → (∀ p ∈ nn, p.1 ∉ wr ∧ p.1 ≠ C ∧ p.1 ≠ D) → (∀ p ∈ own, p.1 ∈ fp) → Fr h₀ L h m → News h₀ L h (own ++ (C, oC) :: (D, lst ys) :: nn) →
      wpAny (model prog w) A (testsC ifs (compEnvC scope cl C env)) (fun ok s₃ => if ok = true then wpAny (model prog w) A (eval elt (compEnvC scope cl C env)) (fun y s₄ => GEnd h₀ L m wr own C D ys (J (i + 1) (ys ++ [y])) { s with heap := h, toks := tk } s₄) E' s₃
        else GEnd h₀ L m wr own C D ys (J (i + 1) ys) { s with heap := h, toks := tk } s₃) E' { s with heap := h, toks := tk })
    (hR : ∀ h' tk ys nn oC, Fr h₀ L h' m → News h₀ L h' ((C, oC) :: (D, lst ys) :: nn) → (∀ p ∈ nn, p.1 ∉ wr ∧ p.1 ≠ C ∧ p.1 ≠ D) → (∃ m₂, NsObj oC m₂) → J n ys nn → R (.ok .next) { s with heap := h', toks := tk }) :
    codeAny (model prog w) A (.compLoop (.ListComp elt [⟨target, iter, ifs, 0⟩] scope cp) 0 (.ref I) (.ref D) (compEnvC scope cl C env)) R s := by
  have hwC : ∀ b ∈ wr, b ≠ C ∧ b ≠ D := fun b hb => hfC b (W.sub b hb)
  refine comp_core (n := n) (after := (do let _ ← call (.builtin "list.append") [.ref D, ← eval elt (compEnvC scope cl C env)])) (by rfl) W hLf hwr ?_ hst F N
    (fun i n0 => ∃ oC m₂ ys nn, n0 = (C, oC) :: (D, lst ys) :: nn ∧ NsObj oC m₂ ∧ (∀ p ∈ nn, p.1 ∉ wr ∧ p.1 ≠ C ∧ p.1 ≠ D) ∧ ys.length ≤ i ∧ J i ys nn) ?_ ?_ ?_
  · intro p hp hw
    rcases List.mem_cons.mp hp with rfl | hp
    · exact (hwC _ hw).1 rfl
    rcases List.mem_cons.mp hp with rfl | hp
    · exact (hwC _ hw).2 rfl
    · exact hnw p hp hw
  · obtain ⟨m₂, h2⟩ := hC
    exact ⟨oC, m₂, [], news, rfl, h2, fun p hp => ⟨hnw p hp, hnC p hp⟩, Nat.le_refl _, h0⟩
  · rintro i v n0 h tk own E' hi hP hSt ⟨oC, m₂, ys, nn, rfl, hNs, hoff, hlen, hJ⟩ _ hownf hown F₁ N₁
    have offown : ∀ p ∈ own, p.1 ≠ C ∧ p.1 ≠ D := fun p hp => hfC _ (hownf p hp)
    have eC := (N₁ (C, oC) (List.mem_append_right _ (.head _)))
    have eD := (N₁ (D, lst ys) (List.mem_append_right _ (.tail _ (.head _))))
    refine hasg i v h hi hP _ m₂ _ _ rfl (hNs.ns eC.1) fun h' tk' m' hn' hB hk => ?_
    obtain ⟨oC', heC', hoC'⟩ := ns_obj hn'
    have F₂ : Fr h₀ L h' m := ⟨F₁.ns.at' fun o e => hk _ o (Ne.symm eC.2.1) e, fun b o e => hk b o (fun q => by rw [q, eC.2.2] at e; cases e) (F₁.keep b o e), F₁.above⟩
    have N₂ : News h₀ L h' (own ++ (C, oC') :: (D, lst ys) :: nn) := fun p hp => by
      rcases List.mem_append.mp hp with hp | hp
      · have := N₁ p (List.mem_append_left _ hp)
        exact ⟨hk _ _ (offown p hp).1 this.1, this.2⟩
      rcases List.mem_cons.mp hp with rfl | hp
      · exact ⟨heC', eC.2⟩
      · have := N₁ p (List.mem_append_right _ (.tail _ hp))
        refine ⟨hk _ _ ?_ this.1, this.2⟩
        rcases List.mem_cons.mp hp with rfl | hp
        · exact Ne.symm hCD
        · exact (hoff p hp).2.1
    refine wpAny_mono (step i oC' m' ys nn h' tk' own E' hi ⟨h, hSt, hown⟩ hJ hoC' hB hoff hownf F₂ N₂) (fun ok s₃ h₃ => ?_) fun _ _ e => e
    have close : ∀ (ys' : List Value) (s₄ : Shared), ys'.length ≤ i + 1 → (∃ h' tk oC nn, s₄ = { s with heap := h', toks := tk } ∧ Fr h₀ L h' m ∧ (∃ m₂, NsObj oC m₂) ∧ News h₀ L h' (own ++ (C, oC) :: (D, lst ys') :: nn) ∧ (∀ p ∈ nn, p.1 ∉ wr ∧ p.1 ≠ C ∧ p.1 ≠ D) ∧ J (i + 1) ys' nn) →
        LEnd h₀ L m wr own (fun n0 => ∃ oC m₂ ys nn, n0 = (C, oC) :: (D, lst ys) :: nn ∧ NsObj oC m₂ ∧ (∀ p ∈ nn, p.1 ∉ wr ∧ p.1 ≠ C ∧ p.1 ≠ D) ∧ ys.length ≤ i + 1 ∧ J (i + 1) ys nn) { s with heap := h, toks := tk } s₄ := by
      rintro ys' s₄ hl ⟨h₄, tk₄, oC₄, nn₄, rfl, F₄, ⟨m₄, hm₄⟩, N₄, off₄, hJ₄⟩
      refine ⟨h₄, tk₄, _, rfl, F₄, N₄, fun p hp hw => ?_, oC₄, m₄, ys', nn₄, rfl, hm₄, off₄, hl, hJ₄⟩
      rcases List.mem_cons.mp hp with rfl | hp
      · exact (hwC _ hw).1 rfl
      rcases List.mem_cons.mp hp with rfl | hp
      · exact (hwC _ hw).2 rfl
      · exact (off₄ p hp).1 hw
    cases ok with
    | false =>
      obtain ⟨h₄, tk₄, oC₄, nn₄, rfl, r⟩ := h₃
      exact close ys _ (Nat.le_succ_of_le hlen) ⟨h₄, tk₄, oC₄, nn₄, rfl, r⟩
    | true =>
      refine wpAny_bind (wpAny_mono h₃ (fun y s₄ h₄ => ?_) fun _ _ e => e)
      obtain ⟨h₄, tk₄, oC₄, nn₄, rfl, F₄, hm₄, N₄, off₄, hJ₄⟩ := h₄
      have zD := (N₄ (D, lst ys) (List.mem_append_right _ (.tail _ (.head _))))
      refine wpAny_bind (append_at (hsz := by rw [List.size_toArray, sizeLine_eq]; omega) zD.1 fun h₅ hs₅ hD₅ => wpAny_pure ?_)
      refine close (ys ++ [y]) _ (by simp; omega) ⟨h₅, tk₄, oC₄, nn₄, rfl, F₄.change hs₅ zD.2.1 zD.2.2, hm₄, fun p hp => ?_, off₄, hJ₄⟩
      rcases List.mem_append.mp hp with hp | hp
      · have := N₄ p (List.mem_append_left _ hp)
        exact ⟨hs₅.extBut _ _ (offown p hp).2 this.1, this.2⟩
      rcases List.mem_cons.mp hp with rfl | hp
      · have := N₄ (C, oC₄) (List.mem_append_right _ (.head _))
        exact ⟨hs₅.extBut _ _ hCD this.1, this.2⟩
      rcases List.mem_cons.mp hp with rfl | hp
      · exact ⟨hD₅.trans (congrArg some (lst_snoc ys y)), zD.2⟩
      · have := N₄ p (List.mem_append_right _ (.tail _ (.tail _ hp)))
        exact ⟨hs₅.extBut _ _ (off₄ p hp).2.2 this.1, this.2⟩
  · rintro h' tk n0 F₁ N₁ _ ⟨oC, m₂, ys, nn, rfl, hNs, hoff, _, hJ⟩
    exact hR h' tk ys nn oC F₁ N₁ hoff ⟨m₂, hNs⟩ hJ
open LCg in
/-- a comprehension of one clause, from its iterator on -/
theorem comp_all {elt iter : Expr} {ifs : List Expr} {scope : Scope} {cl : List (Str × Addr)} {cp : Pos} {I : Addr} {fp wr : List Addr} {n : Nat} {P Md : Nat → Value → Heap → Prop} {St : Nat → Heap → Prop} {news : Led} {Bd : Nat → (Str → Option Value) → Prop} {Q : Value → Shared → Prop}
    (hcell : ∀ y ∈ scope.names, y.2 ≠ .cell) (hkind : scope.kind = .function) (W : KTurns prog w A target I fp wr n P Md St)
    (hself : ∀ (s : Shared) (Q : Value → Shared → Prop) (E' : Value → Shared → Prop), St 0 s.heap → Q (.ref I) s → wpAny (model prog w) A (pyIter (.ref I)) Q E' s)
    (hn : n ≤ 2 ^ 20) (hLf : L ∉ fp) (hwr : ∀ b ∈ wr, h₀.get? b = none) (hnw : ∀ p ∈ news, p.1 ∉ wr) (hst : St 0 s.heap) (hfp : ∀ b ∈ fp, b < s.heap.objs.size) (F : Fr h₀ L s.heap m) (N : News h₀ L s.heap news)
    (J : Nat → List Value → Led → Prop) (h0 : J 0 [] news)
    (hasg : ∀ C i v h, i < n → P i v h → AsgOk prog w A target (compEnvC scope cl C env) C v h (Bd i))
    (step : ∀ C D i oC m₂ ys nn h tk own (E' : Value → Shared → Prop), (@Ne Nat C D) → i < n → (∃ h₁, St (i + 1) h₁ ∧ ∀ b ∈ fp, h₀.get? b = none → ∀ o, h₁.get? b = some o → (b, o) ∈ own) → J i ys nn → NsObj oC m₂ → Bd i m₂ → (∀ p ∈ nn, p.1 ∉ wr ∧ p.1 ≠ C ∧ p.1 ≠ D) → (∀ p ∈ own, p.1 ∈ fp ∧ p.1 ≠ C ∧ p.1 ≠ D) → Fr h₀ L h m → News h₀ L h (own ++ (C, oC) :: (D, lst ys) :: nn) →
      wpAny (model prog w) A (testsC ifs (compEnvC scope cl C env)) (fun ok s₃ => if ok = true then wpAny (model prog w) A (eval elt (compEnvC scope cl C env)) (fun y s₄ => GEnd h₀ L m wr own C D ys (J (i + 1) (ys ++ [y])) { s with heap := h, toks := tk } s₄) E' s₃
        else GEnd h₀ L m wr own C D ys (J (i + 1) ys) { s with heap := h, toks := tk } s₃) E' { s with heap := h, toks := tk })
    (fin : ∀ h' tk D ys nn, Fr h₀ L h' m → News h₀ L h' ((D, lst ys) :: nn) → (∀ p ∈ nn, p.1 ∉ wr ∧ p.1 ≠ D) → J n ys nn → Q (.ref D) { s with heap := h', toks := tk }) :
    wpAny (model prog w) A (newList []) (fun acc s₃ => wpAny (model prog w) A (newFunctionEnv scope env.globals cl [] env.qual none .none (some env)) (fun cenv s₄ =>
      codeAny (model prog w) A (.compStart (.ListComp elt [⟨target, iter, ifs, 0⟩] scope cp) 0 (.ref I) acc { cenv with scope := relabel scope env }) (compPost (model prog w) A E none Q acc cenv.locals) s₄) E s₃) E s := by
  have hst1 : ∀ {h₁ : Heap}, (∀ b o, s.heap.get? b = some o → h₁.get? b = some o) → St 0 h₁ := fun {h₁} k => W.frame _ _ _ hst fun b _ o e => k b o e
  refine comp_begin (RR := fun acc C => compPost (model prog w) A E none Q acc C) hcell hkind F N (fun h₁ tk Q E' k hq => hself _ _ _ (hst1 k) hq) fun D C h₁ oC tk hCD hlt k hC F₁ N₁ => ?_
  have hfC : ∀ b ∈ fp, (@Ne Nat b C) ∧ (@Ne Nat b D) := fun b hb => hlt b (hfp b hb)
  refine comp_turns (s := { s with heap := h₁, toks := tk }) W hn hLf hwr hnw (hst1 k) F₁ hC hCD hfC (fun p hp => hlt _ (Heap.lt_size (N p hp).1)) N₁ J h0 (hasg C) (fun i oC m₂ ys nn h tk' own E' a st b c d e f g j => step C D i oC m₂ ys nn h tk' own E' hCD a st b c d e (fun p hp => ⟨f p hp, hfC _ (f p hp)⟩) g j) ?_
  intro h' tk' ys nn oC' F' N' off' hC' hJ
  have zC := N' (C, oC') (.head _)
  obtain ⟨m₂, hm₂⟩ := hC'
  refine ⟨m₂, hm₂.ns zC.1, fun h'' hs'' => fin h'' tk' D ys nn (F'.change hs'' zC.2.1 zC.2.2) (fun p hp => ?_) (fun p hp => ⟨(off' p hp).1, (off' p hp).2.2⟩) hJ⟩
  have z := N' p (.tail _ hp)
  refine ⟨hs''.extBut _ _ ?_ z.1, z.2⟩
  rcases List.mem_cons.mp hp with rfl | hp
  · exact Ne.symm hCD
  · exact (off' p hp).2.1
/-- a comprehension at its iterable -/
noncomputable def CompGo (prog : Program) (w : World) (A : Around) (E : Value → Shared → Prop) (env : Env) (elt : Expr) (gens : List Comprehension) (scope : Scope) (cl : List (Str × Addr)) (cp : Pos) (Q : Value → Shared → Prop) (xv : Value) (s₁ : Shared) : Prop :=
  wpAny (model prog w) A (pyIter xv) (fun it s₂ => wpAny (model prog w) A (newList []) (fun acc s₃ => wpAny (model prog w) A (newFunctionEnv scope env.globals cl [] env.qual none .none (some env)) (fun cenv s₄ =>
      codeAny (model prog w) A (.compStart (.ListComp elt gens scope cp) 0 it acc { cenv with scope := relabel scope env }) (compPost (model prog w) A E none Q acc cenv.locals) s₄) E s₃) E s₂) E s₁
theorem comp_eval {elt iter : Expr} {ifs : List Expr} {rest : List Comprehension} {scope : Scope} {cl : List (Str × Addr)} {pos : Pos} {Q : Value → Shared → Prop} (F₀ : Fr h₀ L s.heap m)
    (hclos : closureFor scope env = pure cl) (hkind : scope.kind = .function) (hnames : ∀ y ∈ scope.names, y.2 = .local → scope.names.lookup y.1 = some .local)
    (h : wpAny (model prog w) A (eval iter env) (CompGo prog w A E env elt (⟨target, iter, ifs, 0⟩ :: rest) scope cl pos Q) E s)
    (hs : ∀ x, foldedSetIterable iter env x = pure x := by intro _; rfl) :
    wpAny (model prog w) A (eval (.ListComp elt (⟨target, iter, ifs, 0⟩ :: rest) scope pos) env) Q E s := by
  rw [eval_ListComp]
  exact wpAny_comprehension_free (use := none) rfl hs hclos hkind hnames h
end

noncomputable abbrev yDtd : Str := Str.ofString "dtd"
noncomputable abbrev yKinds : Str := Str.ofString "kinds"
/-- a call whose objects lie behind a front -/
theorem use_ctM {w : World} {f : Addr} {d u : Nat} {args : List Value} {fp front news : Led} {Pre : Heap → Prop} {R : Value → Led → Prop} (C : Ct w f d u args fp Pre R)
    {mean : ExcName → Option Value} {mg mb : Str → Option Value} {dp un : Nat} {gd : Option (List Code)} {cn : Str} {cs : Scope} {a : Addr} {ccd : Value} {cl : List (Str × Addr)} {outer : List Env} {A₀ : Around} {base h₀ : Heap} {L : Addr} {m : Str → Option Value} {s : Shared} {Q E : Value → Shared → Prop}
    (B : Below A₀ base outer h₀) (F : Fr h₀ L s.heap m) (XK : (hd.heap_1 w.params).In h₀) (N : News h₀ L s.heap news) (T : Top Vw (looseW Vw []) mean mg mb h₀) (hk : cs.kind = .function)
    (h1 : ∀ p ∈ fp, p ∈ news) (h2 : ∀ p ∈ front, p ∈ news) (h3 : OffFr front fp) (hpre : Pre s.heap) (hd : dp + d < recursionLimit) (hu : un + u < cLine)
    (k : ∀ r X' h' tk', Fr h₀ L h' m → News h₀ L h' (front ++ X') → OffFr front X' → R r X' → Q r { s with heap := h', toks := tk' }) :
    wpAny (model PR w) (ktrTop dp un gd cn cs L a ccd cl outer) (call (.ref f) args) Q E s := by
  refine use_ct C B F XK N T hk (rest := front) h1 (fun p hp => ⟨h2 p hp, fun hx => ?_⟩) hpre hd hu fun r fp' h' tk' F' N' O' G fr hR => ?_
  · obtain ⟨q, hq, e⟩ := List.mem_map.mp hx
    exact h3 p hp q hq e
  · refine k r fp' h' tk' F' (fun p hp => N' p (by rcases List.mem_append.mp hp with h | h; exact List.mem_append_right _ h; exact List.mem_append_left _ h)) (fun q hq p hp e => ?_) hR
    rcases fr p hp with h | h
    · obtain ⟨z, hz, ez⟩ := List.mem_map.mp h
      exact h3 q hq z hz (ez.trans e)
    · have := (N q (h2 q hq)).1
      rw [← e, h] at this; cases this
/-- the ledger of a Dtd -/
inductive DtP (w : World) (D : Addr) (dk : Str → List (Str × Str)) (c : Nat) (X : Led) : Prop
  | mk (T : Dt) (p1 : T.led = X) (p2 : T.Ok w) (p3 : T.D = D) (p4 : look T.es = dk) (p5 : T.es.length ≤ c) (p6 : ∀ e ∈ T.es, e.rs.length ≤ c) : DtP w D dk c X
theorem own_sub {T : Dt} : ∀ a ∈ T.own, ∃ o, (a, o) ∈ T.led := fun a ha => by
  rcases List.mem_cons.mp ha with rfl | ha
  · exact ⟨_, .head _⟩
  rcases List.mem_cons.mp ha with rfl | ha
  · exact ⟨_, .tail _ (.head _)⟩
  rcases List.mem_cons.mp ha with rfl | ha
  · exact ⟨_, .tail _ (.tail _ (.head _))⟩
  obtain ⟨e, he, rfl⟩ := List.mem_map.mp ha
  exact ⟨_, .tail _ (.tail _ (.tail _ (List.mem_flatMap.mpr ⟨e, he, .head _⟩)))⟩
theorem decl_p (w : World) (D : Addr) (dk : Str → List (Str × Str)) (c : Nat) (X : Led) (el n k : Str) (te tn : Tok) (x dx : Addr) (od : Obj) (hX : DtP w D dk c X) (hr : IsRu w.params od k) (hlt : ∀ p ∈ X, @LT.lt Nat _ p.1 dx) (hxd : @LT.lt Nat _ dx x) (hn : ∀ p ∈ dk el, p.1 ≠ n) (hc : c < 16) :
    Ct w 170 2 32 [.ref D, .str el te, .str n tn, .ref x] (X ++ [(x, instObj 106 dx), (dx, od)]) (fun _ => True) (fun v fp' => v = .none ∧ DtP w D (putK dk el n k) (c + 1) fp') := by
  obtain ⟨T, rfl, ok, rfl, rfl, c1, c2⟩ := hX
  have hx : ∀ p ∈ T.led, p.1 ≠ x := fun p hp => Nat.ne_of_lt (Nat.lt_trans (hlt p hp) hxd)
  have hdx : ∀ p ∈ T.led, p.1 ≠ dx := fun p hp => Nat.ne_of_lt (hlt p hp)
  refine ct_mono (decl_t w T el n te tn ⟨x, dx, od, k⟩ ok hr (fun h => ?_) (fun h => ?_) hn ⟨by omega, fun e he => by have := c2 e he; omega⟩) ?_
  · obtain ⟨o, ho⟩ := own_sub _ h; exact hx _ ho rfl
  · obtain ⟨o, ho⟩ := own_sub _ h; exact hdx _ ho rfl
  · rintro v fp' ⟨rfl, T', rfl, ok', hD, hl, hz1, hz2⟩
    refine ⟨rfl, T', rfl, ok', hD, hl, by omega, fun e he => ?_⟩
    obtain ⟨e0, h1, h2⟩ := hz2 e he
    rcases h2 with rfl | ⟨e1, he1, rfl⟩
    · simp at h1; omega
    · have := c2 e1 he1; omega
theorem DtP.bound {w : World} {D : Addr} {dk : Str → List (Str × Str)} {c : Nat} {X : Led} (h : DtP w D dk c X) (el : Str) : (dk el).length ≤ c := by
  obtain ⟨T, _, _, _, rfl, _, c2⟩ := h
  rcases look_cases T.es el with ⟨_, hl, _⟩ | ⟨l1, e, l2, he, _, _, _, hl⟩
  · rw [hl]; exact Nat.zero_le _
  · rw [hl]; simpa [En.kinds] using c2 e (by rw [he]; simp)
theorem DtP.inst {w : World} {D : Addr} {dk : Str → List (Str × Str)} {c : Nat} {X : Led} (h : DtP w D dk c X) : ∃ DD k1 k2 k3 k4 rt e A nt n, (D, instObj 234 DD) ∈ X ∧ (DD, ddObj w.params k1 k2 k3 k4 rt e A nt n) ∈ X := by
  obtain ⟨T, rfl, ok, rfl, _⟩ := h
  obtain ⟨k1, k2, k3, k4, rt, e, nt, n, ho⟩ := ok.dd
  exact ⟨T.DD, k1, k2, k3, k4, rt, e, T.A, nt, n, .head _, by rw [← ho]; exact .tail _ (.head _)⟩
theorem inst_led {h₀ h : Heap} {L D DD C : Addr} {od : Obj} {X news : Led} (N : News h₀ L h news) (h1 : (D, instObj C DD) ∈ X) (h2 : (DD, od) ∈ X) (hs : ∀ p ∈ X, p ∈ news) : W.InstAt h D (instObj C DD) C (some od) :=
  ⟨(N _ (hs _ h1)).1, rfl, rfl, (N _ (hs _ h2)).1⟩
/-- the kinds of an element's attributes as a dict of texts -/
noncomputable def KV (kv : List (Str × Value)) (l : List (Str × Str)) : Prop := All2 (fun p q => p.1 = q.1 ∧ ∃ t, p.2 = Value.str q.2 t) kv l
theorem KV.none {kv : List (Str × Value)} {l : List (Str × Str)} {n : Str} (h : KV kv l) (hn : ∀ p ∈ l, p.1 ≠ n) : valueAt kv n = none := by
  unfold valueAt
  rw [Option.map_eq_none_iff, List.find?_eq_none]
  induction h with
  | nil => exact fun _ h => nomatch h
  | cons r _ ih =>
    intro x hx
    rcases List.mem_cons.mp hx with rfl | hx
    · simpa [r.1] using hn _ (.head _)
    · exact ih (fun p hp => hn p (.tail _ hp)) x hx
noncomputable def menuK : List (Str × Str) := [(Str.ofString "i", Str.ofString "ID"), (Str.ofString "r", Str.ofString "IDREF"), (Str.ofString "s", Str.ofString "IDREFS")]
noncomputable abbrev sA : Str := Str.ofString "a"
noncomputable abbrev sB : Str := Str.ofString "b"
/-- the Dtd and the kinds, alike -/
structure DS (w : World) (D ka kb : Addr) (oK oa ob : Obj) (dk : Str → List (Str × Str)) (c : Nat) (X : Led) : Prop where
  dt : DtP w D dk c X
  kk : oK.IsDictOf (strKind PR w) [(sA, .ref ka), (sB, .ref kb)]
  ha : ∃ kv, oa.IsDictOf (strKind PR w) kv ∧ KV kv (dk sA)
  hb : ∃ kv, ob.IsDictOf (strKind PR w) kv ∧ KV kv (dk sB)
  ab : ∀ z, z ≠ sA → z ≠ sB → dk z = []
theorem DS.sel {w : World} {D ka kb : Addr} {oK oa ob : Obj} {dk : Str → List (Str × Str)} {c : Nat} {X : Led} (h : DS w D ka kb oK oa ob dk c X) {el : Str} (he : el ∈ [sA, sB]) :
    ∃ ke oe kz oz kv, valueAt [(sA, Value.ref ka), (sB, Value.ref kb)] el = some (.ref ke) ∧ oe.IsDictOf (strKind PR w) kv ∧ KV kv (dk el) ∧ kv.length ≤ c ∧ ((el = sA ∧ ke = ka ∧ oe = oa ∧ kz = kb ∧ oz = ob) ∨ (el = sB ∧ ke = kb ∧ oe = ob ∧ kz = ka ∧ oz = oa)) := by
  obtain ⟨kva, a1, a2⟩ := h.ha
  obtain ⟨kvb, b1, b2⟩ := h.hb
  rcases List.mem_cons.mp he with rfl | he
  · exact ⟨ka, oa, kb, ob, kva, rfl, a1, a2, by rw [All2.length a2]; exact h.dt.bound _, .inl ⟨rfl, rfl, rfl, rfl, rfl⟩⟩
  · rw [List.mem_singleton.mp he]
    exact ⟨kb, ob, ka, oa, kvb, rfl, b1, b2, by rw [All2.length b2]; exact h.dt.bound _, .inr ⟨rfl, rfl, rfl, rfl, rfl⟩⟩
theorem DS.put {w : World} {D ka kb ke kz : Addr} {oK oa ob oe oz oe' : Obj} {dk : Str → List (Str × Str)} {c : Nat} {X X' : Led} {kv : List (Str × Value)} {el n k : Str} {t : Tok} (h : DS w D ka kb oK oa ob dk c X)
    (hs : (el = sA ∧ ke = ka ∧ oe = oa ∧ kz = kb ∧ oz = ob) ∨ (el = sB ∧ ke = kb ∧ oe = ob ∧ kz = ka ∧ oz = oa)) (hd : DtP w D (putK dk el n k) (c + 1) X') (hk : KV kv (dk el)) (he : oe'.IsDictOf (strKind PR w) (kv ++ [(n, .str k t)])) :
    ∃ oa' ob', DS w D ka kb oK oa' ob' (putK dk el n k) (c + 1) X' ∧ (∀ p ∈ [(ka, oa'), (kb, ob')], p ∈ [(ke, oe'), (kz, oz)]) := by
  have hkv : KV (kv ++ [(n, .str k t)]) (putK dk el n k el) := by rw [putK, if_pos rfl]; exact All2.push hk ⟨rfl, t, rfl⟩
  have hab : (el = sA ∨ el = sB) → ∀ z, z ≠ sA → z ≠ sB → putK dk el n k z = [] := fun h' z h1 h2 => by
    rw [putK, if_neg (fun e => by rcases h' with rfl | rfl; exact h1 e; exact h2 e)]; exact h.ab z h1 h2
  rcases hs with ⟨rfl, rfl, rfl, rfl, rfl⟩ | ⟨rfl, rfl, rfl, rfl, rfl⟩
  · refine ⟨oe', oz, ⟨hd, h.kk, ⟨_, he, hkv⟩, ?_, hab (.inl rfl)⟩, fun p hp => hp⟩
    rw [putK, if_neg (by decide)]; exact h.hb
  · refine ⟨oz, oe', ⟨hd, h.kk, ?_, ⟨_, he, hkv⟩, hab (.inr rfl)⟩, fun p hp => by simpa [or_comm] using hp⟩
    rw [putK, if_neg (by decide)]; exact h.ha
noncomputable abbrev tupS (n k : Str) (tn tk : Tok) : Obj := { cls := .type "tuple", data := .seq #[.str n tn, .str k tk] }
noncomputable def MenuAt (vs : List Value) (Y : Led) : Prop := ∀ (i : Nat) (v : Value), vs[i]? = some v → ∃ n k t tn tk, menuK[i]? = some (n, k) ∧ v = .ref t ∧ (t, tupS n k tn tk) ∈ Y
/-- _law_dtd, between the turns of its outer loop -/
inductive JO (w : World) (a D K ka kb : Addr) (oK : Obj) (Y : Led) (j : Nat) (nn : Led) : Prop
  | mk (dk c o' oa ob X : _) (p1 : nn = (a, o') :: (K, oK) :: (ka, oa) :: (kb, ob) :: (X ++ Y)) (p2 : IsSrc o') (p3 : DS w D ka kb oK oa ob dk c X) (p4 : OffFr [(a, o'), (K, oK), (ka, oa), (kb, ob)] (X ++ Y)) (p5 : Apart X Y) (p6 : c ≤ 2 * j) (p7 : ∀ el, ∀ p ∈ dk el, p ∈ menuK.take j) : JO w a D K ka kb oK Y j nn
/-- _law_dtd, between the turns of its inner loop -/
inductive JN (w : World) (a D K ka kb b I : Addr) (oK lb ito oA : Obj) (Y : Led) (els : List Str) (n : Str) (j i : Nat) (nn : Led) : Prop
  | mk (dk c oa ob X : _) (p1 : nn = (b, lb) :: (I, ito) :: (a, oA) :: (K, oK) :: (ka, oa) :: (kb, ob) :: (X ++ Y)) (p2 : DS w D ka kb oK oa ob dk c X) (p3 : OffFr [(b, lb), (I, ito), (a, oA), (K, oK), (ka, oa), (kb, ob)] (X ++ Y)) (p4 : Apart X Y) (p5 : c ≤ 2 * j + i) (p6 : (∀ el, ∀ p ∈ dk el, p ∈ menuK.take (j + 1))) (p7 : ∀ el ∈ els.drop i, ∀ p ∈ dk el, p.1 ≠ n) : JN w a D K ka kb b I oK lb ito oA Y els n j i nn
/-- a Dtd, newly made -/
theorem dtd_born {w : World} {D DD A a : Addr} {oA o : Obj} {k1 k2 k3 k4 : Tok} {rt : Value} {e nt : Addr} {n : Nat} {full : Led} {g h : Heap} {L : Addr} (N : News g L h full)
    (mD : (D, instObj 234 DD) ∈ full) (mDD : (DD, ddObj w.params k1 k2 k3 k4 rt e A nt n) ∈ full) (mA : (A, oA) ∈ full) (hA : oA.IsDictOf (strKind PR w) []) (lo : (A == sysModules) = false) (mo : (a, o) ∈ full)
    (l1 : @LT.lt Nat _ a DD) (l2 : @LT.lt Nat _ DD D) (l3 : @LT.lt Nat _ D A) : ∃ D' X, D' = D ∧ News g L h ((a, o) :: X) ∧ OffFr [(a, o)] X ∧ DtP w D' (fun _ => []) 0 X := by
  refine ⟨D, [(D, instObj 234 DD), (DD, ddObj w.params k1 k2 k3 k4 rt e A nt n), (A, oA)], rfl, news_sub N (List.forall_mem_cons.mpr ⟨mo, List.forall_mem_cons.mpr ⟨mD, List.forall_mem_cons.mpr ⟨mDD, List.forall_mem_cons.mpr ⟨mA, List.forall_mem_nil _⟩⟩⟩⟩), fun q hq p hp => ?_,
    ⟨⟨D, DD, _, A, oA, []⟩, rfl, ⟨?_, ⟨_, _, _, _, _, _, _, _, rfl⟩, hA, lo, (fun _ h => nomatch h), (fun _ h => nomatch h), ⟨Nat.zero_le _, fun _ h => nomatch h⟩⟩, rfl, rfl, Nat.le_refl _, fun _ h => nomatch h⟩⟩
  · rw [List.mem_singleton.mp hq]
    rcases List.mem_cons.mp hp with rfl | hp
    · exact Nat.ne_of_gt (Nat.lt_trans l1 l2)
    rcases List.mem_cons.mp hp with rfl | hp
    · exact Nat.ne_of_gt l1
    · rw [List.mem_singleton.mp hp]; exact Nat.ne_of_gt (Nat.lt_trans l1 (Nat.lt_trans l2 l3))
  · have n1 : D ≠ DD := Nat.ne_of_gt l2
    have n2 : D ≠ A := Nat.ne_of_lt l3
    have n3 : DD ≠ A := Nat.ne_of_lt (Nat.lt_trans l2 l3)
    simp [Dt.own, n1, n2, n3]
/-- the kinds stand beside it -/
theorem dtd_kinds {w : World} {D K ka kb a : Addr} {oK oa ob o : Obj} {X full : Led} {g h : Heap} {L : Addr} (N : News g L h full) (off : OffFr [(a, o)] X) (dt : DtP w D (fun _ => []) 0 X) (hK : oK.IsDictOf (strKind PR w) [(sA, .ref ka), (sB, .ref kb)])
    (mK : (K, oK) ∈ full) (ma : (ka, oa) ∈ full) (mb : (kb, ob) ∈ full) (mo : (a, o) ∈ full) (mX : ∀ p ∈ X, p ∈ full) (ha : oa.IsDictOf (strKind PR w) []) (hb : ob.IsDictOf (strKind PR w) []) (lK : AllLt K X) (la : AllLt ka X) (lb : AllLt kb X) :
    ∃ K' ka' kb' oK' FR, (K' = K ∧ ka' = ka ∧ kb' = kb ∧ oK' = oK) ∧ News g L h ((a, o) :: FR) ∧ (∀ p ∈ (a, o) :: (K', oK') :: (ka', oa) :: (kb', ob) :: X, p ∈ FR) ∧ OffFr [(a, o), (K', oK'), (ka', oa), (kb', ob)] X ∧ DS w D ka' kb' oK' oa ob (fun _ => []) 0 X :=
  ⟨K, ka, kb, oK, full, ⟨rfl, rfl, rfl, rfl⟩, news_sub N (List.forall_mem_cons.mpr ⟨mo, fun _ h => h⟩), List.forall_mem_cons.mpr ⟨mo, List.forall_mem_cons.mpr ⟨mK, List.forall_mem_cons.mpr ⟨ma, List.forall_mem_cons.mpr ⟨mb, mX⟩⟩⟩⟩,
    OffFr.cons (off.all (.head _)) (OffFr.cons (AllLt.ne lK) (OffFr.cons (AllLt.ne la) (OffFr.cons (AllLt.ne lb) OffFr.nil))), dt, hK, ⟨_, ha, .nil⟩, ⟨_, hb, .nil⟩, fun _ _ _ => rfl⟩
theorem allLt_lt {d : Addr} : ∀ {l : Led}, AllLt d l → ∀ p ∈ l, @LT.lt Nat _ p.1 d
  | [], _, _, h => nomatch h
  | q :: r, hl, p, h => by
    rcases List.mem_cons.mp h with rfl | h
    · exact hl.1
    · exact allLt_lt hl.2 p h
/-- the menu stands beside them -/
theorem dtd_menu {w : World} {D K ka kb a l t1 t2 t3 : Addr} {oK oa ob o : Obj} {u1 u2 u3 u4 u5 u6 : Tok} {X FR full : Led} {g h : Heap} {L : Addr} (N : News g L h full)
    (ml : (l, listOf [Value.ref t1, .ref t2, .ref t3].toArray 0) ∈ full) (m1 : (t1, tupS (Str.ofString "i") (Str.ofString "ID") u1 u2) ∈ full) (m2 : (t2, tupS (Str.ofString "r") (Str.ofString "IDREF") u3 u4) ∈ full) (m3 : (t3, tupS (Str.ofString "s") (Str.ofString "IDREFS") u5 u6) ∈ full) (mF : ∀ p ∈ FR, p ∈ full)
    (sub : ∀ p ∈ (a, o) :: (K, oK) :: (ka, oa) :: (kb, ob) :: X, p ∈ FR) (off : OffFr [(a, o), (K, oK), (ka, oa), (kb, ob)] X) (ds : DS w D ka kb oK oa ob (fun _ => []) 0 X) (ho : IsSrc o) (l1 : AllLt t1 FR) (l2 : AllLt t2 FR) (l3 : AllLt t3 FR) (l4 : AllLt l FR) :
    ∃ Y, News g L h ((a, o) :: (K, oK) :: (ka, oa) :: (kb, ob) :: (X ++ Y)) ∧ (l, listOf [Value.ref t1, .ref t2, .ref t3].toArray 0) ∈ Y ∧ MenuAt [.ref t1, .ref t2, .ref t3] Y ∧ JO w a D K ka kb oK Y 0 ((a, o) :: (K, oK) :: (ka, oa) :: (kb, ob) :: (X ++ Y)) := by
  have ne : ∀ q ∈ FR, ∀ p ∈ [(l, listOf [Value.ref t1, .ref t2, .ref t3].toArray 0), (t1, tupS (Str.ofString "i") (Str.ofString "ID") u1 u2), (t2, tupS (Str.ofString "r") (Str.ofString "IDREF") u3 u4), (t3, tupS (Str.ofString "s") (Str.ofString "IDREFS") u5 u6)], @Ne Nat p.1 q.1 := fun q hq p hp => by
    rcases List.mem_cons.mp hp with rfl | hp
    · exact Nat.ne_of_gt (allLt_lt l4 q hq)
    rcases List.mem_cons.mp hp with rfl | hp
    · exact Nat.ne_of_gt (allLt_lt l1 q hq)
    rcases List.mem_cons.mp hp with rfl | hp
    · exact Nat.ne_of_gt (allLt_lt l2 q hq)
    · rw [List.mem_singleton.mp hp]; exact Nat.ne_of_gt (allLt_lt l3 q hq)
  have s4 : ∀ q ∈ [(a, o), (K, oK), (ka, oa), (kb, ob)], q ∈ FR := fun q hq => sub q (List.mem_append_left X hq)
  have sX : ∀ q ∈ X, q ∈ FR := fun q hq => sub q (.tail _ (.tail _ (.tail _ (.tail _ hq))))
  refine ⟨[(l, listOf [Value.ref t1, .ref t2, .ref t3].toArray 0), (t1, tupS (Str.ofString "i") (Str.ofString "ID") u1 u2), (t2, tupS (Str.ofString "r") (Str.ofString "IDREF") u3 u4), (t3, tupS (Str.ofString "s") (Str.ofString "IDREFS") u5 u6)], news_sub N fun p hp => ?_, .head _, ?_, ?_⟩
  · rcases List.mem_append.mp (show p ∈ ((a, o) :: (K, oK) :: (ka, oa) :: (kb, ob) :: X) ++ _ from hp) with hp | hp
    · exact mF p (sub p hp)
    · exact (List.forall_mem_cons.mpr ⟨ml, List.forall_mem_cons.mpr ⟨m1, List.forall_mem_cons.mpr ⟨m2, List.forall_mem_cons.mpr ⟨m3, List.forall_mem_nil _⟩⟩⟩⟩ : ∀ p ∈ [(l, listOf [Value.ref t1, .ref t2, .ref t3].toArray 0), (t1, tupS (Str.ofString "i") (Str.ofString "ID") u1 u2), (t2, tupS (Str.ofString "r") (Str.ofString "IDREF") u3 u4), (t3, tupS (Str.ofString "s") (Str.ofString "IDREFS") u5 u6)], p ∈ full) p hp
  · intro i v hv
    match i, hv with
    | 0, hv => cases hv; exact ⟨_, _, _, _, _, rfl, rfl, .tail _ (.head _)⟩
    | 1, hv => cases hv; exact ⟨_, _, _, _, _, rfl, rfl, .tail _ (.tail _ (.head _))⟩
    | 2, hv => cases hv; exact ⟨_, _, _, _, _, rfl, rfl, .tail _ (.tail _ (.tail _ (.head _)))⟩
    | j + 3, hv => simp at hv
  · refine ⟨fun _ => [], 0, o, oa, ob, _, rfl, ho, ds, fun q hq p hp => ?_, fun p hp q hq => (ne p (sX p hp) q hq).symm, Nat.le_refl _, fun _ _ h => nomatch h⟩
    rcases List.mem_append.mp hp with hp | hp
    · exact off q hq p hp
    · exact ne q (s4 q hq) p hp
/-- a list of texts as it lies -/
theorem menu_pick {full : Led} {g h : Heap} {L : Addr} (_N : News g L h full) {r : Value} {l1 l2 l3 l4 : Addr} {u1 u2 u3 u4 u5 u6 : Tok} {P : Addr → Prop} (hr : r ∈ [Value.ref l1, .ref l2, .ref l3, .ref l4]) (m1 : (l1, listOf [Value.str sA u1, .str sB u2].toArray 0) ∈ full) (m2 : (l2, listOf [Value.str sA u3].toArray 0) ∈ full)
    (m3 : (l3, listOf [Value.str sB u4].toArray 0) ∈ full) (m4 : (l4, listOf [Value.str sA u5, .str sB u6].toArray 0) ∈ full) (p1 : P l1) (p2 : P l2) (p3 : P l3) (p4 : P l4) :
    ∃ (b : Addr) (vs : List Value) (els : List Str), r = .ref b ∧ (b, listOf vs.toArray 0) ∈ full ∧ P b ∧ vs.length = els.length ∧ els.length ≤ 2 ∧ els.Nodup ∧ ∀ (i : Nat) (v : Value), vs[i]? = some v → ∃ el t, v = .str el t ∧ els[i]? = some el ∧ el ∈ [sA, sB] := by
  have one : ∀ {x : Str} {t : Tok}, x ∈ [sA, sB] → ∀ (i : Nat) (v : Value), [Value.str x t][i]? = some v → ∃ el t', v = .str el t' ∧ [x][i]? = some el ∧ el ∈ [sA, sB] := fun hx i v h => by
    cases i with
    | zero => cases h; exact ⟨_, _, rfl, rfl, hx⟩
    | succ i => simp at h
  have two : ∀ {t t' : Tok}, ∀ (i : Nat) (v : Value), [Value.str sA t, .str sB t'][i]? = some v → ∃ el t', v = .str el t' ∧ [sA, sB][i]? = some el ∧ el ∈ [sA, sB] := fun i v h => by
    match i, h with
    | 0, h => cases h; exact ⟨_, _, rfl, rfl, .head _⟩
    | 1, h => cases h; exact ⟨_, _, rfl, rfl, .tail _ (.head _)⟩
    | i + 2, h => simp at h
  simp only [List.mem_cons, List.not_mem_nil, or_false] at hr
  rcases hr with rfl | rfl | rfl | rfl
  · exact ⟨_, _, [sA, sB], rfl, m1, p1, rfl, by decide, by decide, two⟩
  · exact ⟨_, _, [sA], rfl, m2, p2, rfl, by decide, by decide, one (.head _)⟩
  · exact ⟨_, _, [sB], rfl, m3, p3, rfl, by decide, by decide, one (.tail _ (.head _))⟩
  · exact ⟨_, _, [sA, sB], rfl, m4, p4, rfl, by decide, by decide, two⟩
theorem menu_new {j : Nat} {n k : Str} (h : menuK[j]? = some (n, k)) : j < 3 ∧ (∀ p ∈ menuK.take j, p.1 ≠ n) ∧ menuK.take (j + 1) = menuK.take j ++ [(n, k)] := by
  match j, h with
  | 0, h => cases h; exact ⟨by decide, by decide, rfl⟩
  | 1, h => cases h; exact ⟨by decide, by decide, rfl⟩
  | 2, h => cases h; exact ⟨by decide, by decide, rfl⟩
  | n + 3, h => simp [menuK] at h
theorem off_decl {F0 X Y : Led} {x dx : Addr} {ox od : Obj} (h : OffFr F0 (X ++ Y)) (ap : Apart X Y) (h1 : ∀ q ∈ F0, @LT.lt Nat _ q.1 dx) (h2 : AllLt dx (X ++ Y)) (hx : @LT.lt Nat _ dx x) : OffFr (F0 ++ Y) (X ++ [(x, ox), (dx, od)]) := by
  intro q hq p hp
  have hl : @LT.lt Nat _ q.1 dx := by
    rcases List.mem_append.mp hq with hq | hq
    · exact h1 q hq
    · exact allLt_lt h2 q (List.mem_append_right _ hq)
  rcases List.mem_append.mp hp with hp | hp
  · rcases List.mem_append.mp hq with hq' | hq'
    · exact h q hq' p (List.mem_append_left _ hp)
    · exact ap p hp q hq'
  · rcases List.mem_cons.mp hp with rfl | hp
    · exact Nat.ne_of_gt (Nat.lt_trans hl hx)
    · rw [List.mem_singleton.mp hp]; exact Nat.ne_of_gt hl
theorem take_more {l : List (Str × Str)} {j : Nat} {p : Str × Str} (h : p ∈ l.take j) : p ∈ l.take (j + 1) := List.take_subset_take_left _ (Nat.le_succ j) h
theorem jn_close {w : World} {a D K ka kb b I I2 ke kz : Addr} {oK lb ito ito2 oA oa ob oe oe' oz : Obj} {Y X6 X' : Led} {els : List Str} {n k el : Str} {tk : Tok} {j i c : Nat} {dk : Str → List (Str × Str)} {kv : List (Str × Value)} {g h' : Heap} {L' : Addr} {m' m₀ : Str → Option Value} {ys : List Str} {s₁ : Shared} {tk' : Nat}
    (F : Fr g L' h' m') (N : News g L' h' (([(I2, ito2), (b, lb), (I, ito), (a, oA), (K, oK), (ke, oe'), (kz, oz)] ++ Y) ++ X')) (hm : ∀ y, y ∉ ys → m' y = m₀ y) (off' : OffFr ([(I2, ito2), (b, lb), (I, ito), (a, oA), (K, oK), (ke, oe'), (kz, oz)] ++ Y) X')
    (ds : DS w D ka kb oK oa ob dk c X6) (hc : (el = sA ∧ ke = ka ∧ oe = oa ∧ kz = kb ∧ oz = ob) ∨ (el = sB ∧ ke = kb ∧ oe = ob ∧ kz = ka ∧ oz = oa)) (hd : DtP w D (putK dk el n k) (c + 1) X') (hk : KV kv (dk el)) (he : oe'.IsDictOf (strKind PR w) (kv ++ [(n, .str k tk)]))
    (off6 : OffFr [(b, lb), (I, ito), (a, oA), (K, oK), (ka, oa), (kb, ob)] (X6 ++ Y)) (hne : ∀ p ∈ (b, lb) :: (I, ito) :: (a, oA) :: (K, oK) :: (ka, oa) :: (kb, ob) :: (X6 ++ Y), p.1 ≠ I2) (hc6 : c ≤ 2 * j + i) (hm6 : ∀ el, ∀ p ∈ dk el, p ∈ menuK.take (j + 1)) (hd6 : ∀ el ∈ els.drop i, ∀ p ∈ dk el, p.1 ≠ n)
    (hel : els[i]? = some el) (hnd : els.Nodup) (hmk : menuK[j]? = some (n, k)) :
    TurnEnd g L' I2 ito2 (fun m nn => (∀ y, y ∉ ys → m y = m₀ y) ∧ JN w a D K ka kb b I oK lb ito oA Y els n j (i + 1) nn) s₁ { s₁ with heap := h', toks := tk' } := by
  obtain ⟨oa', ob', ds', hs'⟩ := ds.put hc hd hk he
  have hmem : ∀ p ∈ [(ka, oa'), (kb, ob')], p ∈ [(I2, ito2), (b, lb), (I, ito), (a, oA), (K, oK), (ke, oe'), (kz, oz)] := fun p hp => by
    have := hs' p hp
    exact .tail _ (.tail _ (.tail _ (.tail _ (.tail _ this))))
  have sub : ∀ p ∈ (b, lb) :: (I, ito) :: (a, oA) :: (K, oK) :: (ka, oa') :: (kb, ob') :: (X' ++ Y), p ∈ ([(I2, ito2), (b, lb), (I, ito), (a, oA), (K, oK), (ke, oe'), (kz, oz)] ++ Y) ++ X' := by
    have f : ∀ p, p ∈ [(I2, ito2), (b, lb), (I, ito), (a, oA), (K, oK), (ke, oe'), (kz, oz)] → p ∈ ([(I2, ito2), (b, lb), (I, ito), (a, oA), (K, oK), (ke, oe'), (kz, oz)] ++ Y) ++ X' := fun p hp => List.mem_append_left _ (List.mem_append_left _ hp)
    refine List.forall_mem_cons.mpr ⟨f _ (.tail _ (.head _)), List.forall_mem_cons.mpr ⟨f _ (.tail _ (.tail _ (.head _))), List.forall_mem_cons.mpr ⟨f _ (.tail _ (.tail _ (.tail _ (.head _)))), List.forall_mem_cons.mpr ⟨f _ (.tail _ (.tail _ (.tail _ (.tail _ (.head _))))), ?_⟩⟩⟩⟩
    refine List.forall_mem_cons.mpr ⟨f _ (hmem _ (.head _)), List.forall_mem_cons.mpr ⟨f _ (hmem _ (.tail _ (.head _))), fun p hp => ?_⟩⟩
    rcases List.mem_append.mp hp with hp | hp
    · exact List.mem_append_right _ hp
    · exact List.mem_append_left _ (List.mem_append_right _ hp)
  have offK : OffFr [(b, lb), (I, ito), (a, oA), (K, oK), (ka, oa'), (kb, ob')] (X' ++ Y) := fun q hq p hp => by
    rcases List.mem_append.mp hp with hp | hp
    · refine off' q (List.mem_append_left _ ?_) p hp
      rcases List.mem_cons.mp hq with rfl | hq
      · exact .tail _ (.head _)
      rcases List.mem_cons.mp hq with rfl | hq
      · exact .tail _ (.tail _ (.head _))
      rcases List.mem_cons.mp hq with rfl | hq
      · exact .tail _ (.tail _ (.tail _ (.head _)))
      rcases List.mem_cons.mp hq with rfl | hq
      · exact .tail _ (.tail _ (.tail _ (.tail _ (.head _))))
      · exact hmem q hq
    · exact off6.rep (front' := [(b, lb), (I, ito), (a, oA), (K, oK), (ka, oa'), (kb, ob')]) rfl q hq p (List.mem_append_right _ hp)
  have apK : Apart X' Y := fun p hp q hq => off' q (List.mem_append_right _ hq) p hp
  obtain ⟨hj, hmn, hmt⟩ := menu_new hmk
  refine TurnEnd.intro F N (List.mem_append_left _ (List.mem_append_left _ (.head _))) sub (fun p hp => ?_) ⟨hm, putK dk el n k, c + 1, oa', ob', X', rfl, ds', offK, apK, by omega, fun z p hp => ?_, fun z hz p hp => ?_⟩
  · rcases List.mem_cons.mp hp with rfl | hp
    · exact hne (b, lb) (.head _)
    rcases List.mem_cons.mp hp with rfl | hp
    · exact hne (I, ito) (.tail _ (.head _))
    rcases List.mem_cons.mp hp with rfl | hp
    · exact hne (a, oA) (.tail _ (.tail _ (.head _)))
    rcases List.mem_cons.mp hp with rfl | hp
    · exact hne (K, oK) (.tail _ (.tail _ (.tail _ (.head _))))
    rcases List.mem_cons.mp hp with rfl | hp
    · exact hne (ka, oa) (.tail _ (.tail _ (.tail _ (.tail _ (.head _)))))
    rcases List.mem_cons.mp hp with rfl | hp
    · exact hne (kb, ob) (.tail _ (.tail _ (.tail _ (.tail _ (.tail _ (.head _))))))
    rcases List.mem_append.mp hp with hp | hp
    · exact off' (I2, ito2) (List.mem_append_left _ (.head _)) p hp
    · exact hne p (.tail _ (.tail _ (.tail _ (.tail _ (.tail _ (.tail _ (List.mem_append_right _ hp)))))))
  · unfold putK at hp
    split at hp
    · rcases List.mem_append.mp hp with hp | hp
      · exact hm6 z p hp
      · rw [List.mem_singleton.mp hp, hmt]; simp
    · exact hm6 z p hp
  · have hi : i < els.length := (List.getElem?_eq_some_iff.mp hel).1
    have hdr : els.drop i = el :: els.drop (i + 1) := by
      rw [List.drop_eq_getElem_cons hi]; congr 1; exact (List.getElem?_eq_some_iff.mp hel).2
    have hzne : z ≠ el := fun e => by
      have h1 : (els.drop i).Nodup := hnd.sublist (List.drop_sublist _ _)
      rw [hdr] at h1
      exact (List.nodup_cons.mp h1).1 (e ▸ hz)
    rw [putK, if_neg hzne] at hp
    exact hd6 z (by rw [hdr]; exact .tail _ hz) p hp
theorem jo_close {w : World} {a D K ka kb b I : Addr} {oK lb ito oA : Obj} {Y nn : Led} {els : List Str} {n : Str} {j i : Nat} {g h' : Heap} {L' : Addr} {m' m₀ : Str → Option Value} {ys : List Str} {s₁ : Shared} {tk' : Nat}
    (hJ : JN w a D K ka kb b I oK lb ito oA Y els n j i nn) (hi : i ≤ 2) (hs : IsSrc oA) (F : Fr g L' h' m') (N : News g L' h' nn) (hm : ∀ y, y ∉ ys → m' y = m₀ y) (h1 : @Ne Nat a I ∧ @Ne Nat K I ∧ @Ne Nat ka I ∧ @Ne Nat kb I) :
    TurnEnd g L' I ito (fun m nn => (∀ y, y ∉ ys → m y = m₀ y) ∧ JO w a D K ka kb oK Y (j + 1) nn) s₁ { s₁ with heap := h', toks := tk' } := by
  obtain ⟨dk, c, oa, ob, X, rfl, ds, off, ap, hc, hmn, _⟩ := hJ
  refine TurnEnd.intro F N (.tail _ (.head _)) (fun p hp => .tail _ (.tail _ hp)) (fun p hp => ?_) ⟨hm, dk, c, oA, oa, ob, X, rfl, hs, ds, fun q hq p hp => off q (.tail _ (.tail _ hq)) p hp, ap, by omega, hmn⟩
  rcases List.mem_cons.mp hp with rfl | hp
  · exact h1.1
  rcases List.mem_cons.mp hp with rfl | hp
  · exact h1.2.1
  rcases List.mem_cons.mp hp with rfl | hp
  · exact h1.2.2.1
  rcases List.mem_cons.mp hp with rfl | hp
  · exact h1.2.2.2
  · exact off (I, ito) (.tail _ (.head _)) p hp
noncomputable abbrev tupD (D K : Addr) : Obj := { cls := .type "tuple", data := .seq #[.ref D, .ref K] }
/-- all of them differ -/
noncomputable def NeAll : List Addr → Prop
  | [] => True
  | a :: r => NeL a r ∧ NeAll r
/-- what _law_dtd hands back -/
inductive DtdR (w : World) (r : Value) (fp' : Led) (a : Addr) : Prop
  | mk (t D K ka kb oK oa ob dk c X o' : _) (p1 : r = .ref t) (p2 : IsSrc o') (p3 : fp' = (t, tupD D K) :: (a, o') :: (K, oK) :: (ka, oa) :: (kb, ob) :: X) (p4 : DS w D ka kb oK oa ob dk c X) (p5 : OffFr [(t, tupD D K), (a, o'), (K, oK), (ka, oa), (kb, ob)] X) (p6 : c ≤ 6) (p7 : (∀ el, ∀ p ∈ dk el, p ∈ menuK)) (p8 : (K == sysModules) = false) (p9 : (ka == sysModules) = false) (p10 : (kb == sysModules) = false) (p11 : NeAll [t, a, K, ka, kb]) : DtdR w r fp' a
/-- the dict of an element and the other one, at a turn's begin -/
theorem jn_open {ke kz ka kb b I a K I2 : Addr} {lb ito oA oK oa ob oe oz ito2 : Obj} {X : Led} {el : Str} {g h : Heap} {L : Addr} (N : News g L h ((I2, ito2) :: (b, lb) :: (I, ito) :: (a, oA) :: (K, oK) :: (ka, oa) :: (kb, ob) :: X))
    (hcase : (el = sA ∧ ke = ka ∧ oe = oa ∧ kz = kb ∧ oz = ob) ∨ (el = sB ∧ ke = kb ∧ oe = ob ∧ kz = ka ∧ oz = oa)) (off : OffFr [(b, lb), (I, ito), (a, oA), (K, oK), (ka, oa), (kb, ob)] X)
    (hne : ∀ p ∈ (b, lb) :: (I, ito) :: (a, oA) :: (K, oK) :: (ka, oa) :: (kb, ob) :: X, p.1 ≠ I2) (nb : NeAll [b, I, a, K, ka, kb]) :
    News g L h ((I2, ito2) :: (b, lb) :: (I, ito) :: (a, oA) :: (K, oK) :: (ke, oe) :: (kz, oz) :: X) ∧ (@Ne Nat ke kz) ∧ (@Ne Nat b ke) ∧ (@Ne Nat I ke) ∧ (@Ne Nat a ke) ∧ (@Ne Nat K ke) ∧ (@Ne Nat ke I2) ∧ (@Ne Nat kz I2) ∧ (@Ne Nat b I2) ∧ (@Ne Nat I I2) ∧ (@Ne Nat a I2) ∧ (@Ne Nat K I2) ∧
      (∀ p ∈ X, p.1 ≠ ke) ∧ (∀ p ∈ X, p.1 ≠ kz) ∧ ∀ p ∈ X, p.1 ≠ I2 := by
  obtain ⟨⟨_, _, _, b1, b2, _⟩, ⟨_, _, c1, c2, _⟩, ⟨_, d1, d2, _⟩, ⟨e1, e2, _⟩, ⟨f1, _⟩, _⟩ := nb
  have n1 := hne (b, lb) (.head _)
  have n2 := hne (I, ito) (.tail _ (.head _))
  have n3 := hne (a, oA) (.tail _ (.tail _ (.head _)))
  have n4 := hne (K, oK) (.tail _ (.tail _ (.tail _ (.head _))))
  have n5 := hne (ka, oa) (.tail _ (.tail _ (.tail _ (.tail _ (.head _)))))
  have n6 := hne (kb, ob) (.tail _ (.tail _ (.tail _ (.tail _ (.tail _ (.head _))))))
  have n7 : ∀ p ∈ X, p.1 ≠ I2 := fun p hp => hne p (.tail _ (.tail _ (.tail _ (.tail _ (.tail _ (.tail _ hp))))))
  have o5 : ∀ p ∈ X, p.1 ≠ ka := off.all (o := oa) (.tail _ (.tail _ (.tail _ (.tail _ (.head _)))))
  have o6 : ∀ p ∈ X, p.1 ≠ kb := off.all (o := ob) (.tail _ (.tail _ (.tail _ (.tail _ (.tail _ (.head _))))))
  rcases hcase with ⟨_, rfl, rfl, rfl, rfl⟩ | ⟨_, rfl, rfl, rfl, rfl⟩
  · exact ⟨N, f1, b1, c1, d1, e1, n5, n6, n1, n2, n3, n4, o5, o6, n7⟩
  · refine ⟨news_sub N fun p hp => ?_, Ne.symm f1, b2, c2, d2, e2, n6, n5, n1, n2, n3, n4, o6, o5, n7⟩
    rcases List.mem_cons.mp hp with rfl | hp
    · exact .head _
    rcases List.mem_cons.mp hp with rfl | hp
    · exact .tail _ (.head _)
    rcases List.mem_cons.mp hp with rfl | hp
    · exact .tail _ (.tail _ (.head _))
    rcases List.mem_cons.mp hp with rfl | hp
    · exact .tail _ (.tail _ (.tail _ (.head _)))
    rcases List.mem_cons.mp hp with rfl | hp
    · exact .tail _ (.tail _ (.tail _ (.tail _ (.head _))))
    rcases List.mem_cons.mp hp with rfl | hp
    · exact .tail _ (.tail _ (.tail _ (.tail _ (.tail _ (.tail _ (.head _))))))
    rcases List.mem_cons.mp hp with rfl | hp
    · exact .tail _ (.tail _ (.tail _ (.tail _ (.tail _ (.head _)))))
    · exact .tail _ (.tail _ (.tail _ (.tail _ (.tail _ (.tail _ (.tail _ hp))))))
/-- the walk goes on past its second stop -/
structure Going2 : Prop where
  on ::
theorem handed_refs {l : List Value} (h : l.all handedIn = true) : ∀ v ∈ l, handedIn v = true := List.all_eq_true.mp h
section
theorem rows18 : True := by
  k_with_none
  k_with "ktr_enter" =>
    (refine enter_cells (by k_asm) (by k_asm) (by k_asm) (by k_asm) (by k_asm) (by exact rfl) (by exact rfl) (by assumption) (by k_is) (by k_is) (by ktr_room) (by exact BindsTo.of_eq rfl) (by exact rfl) (by decide +kernel) ?_ (by exact rfl) (by exact rfl) (by exact rfl); k_whole; intro g' L' h' tk' cells' FG' F' N' Y' B' X' T' l1 kG'; (try k_lt l1); k_cells Y'; (try dsimp only [List.cons_append, List.nil_append] at N'); (try dsimp only); (try k_fold))
  k_with "ktr_enter" =>
    (refine code_defG (by k_asm) (by k_asm) (by k_asm) (by k_asm) (by k_asm) (by exact rfl) (by exact rfl) (by assumption) (by k_is) (by k_is) (by ktr_room) (by exact BindsTo.of_eq rfl) (by exact locs rfl) ?_ (by exact rfl) (by exact rfl) (by exact rfl) (by decide); k_whole; intro g' L' h' FG' F' N' B' X' T' kG'; (try dsimp only); (try k_fold))
  k_with "k_ne" =>
    (refine neN ?_; (try dsimp only); with_reducible first | assumption | exact Ne.symm (by assumption) | exact Nat.ne_of_gt (by assumption) | exact Nat.ne_of_lt (by assumption) | exact Nat.ne_of_gt (Nat.lt_succ_of_lt (by assumption)) | exact Nat.ne_of_lt (Nat.lt_succ_of_lt (by assumption)))
  k_with "k_lt" =>
    (intro l1; replace l1 := allLt_of l1; (try dsimp only [AllLt] at l1); (repeat (with_reducible (have O8 := And.left l1; replace l1 := And.right l1))))
  k_with "my pick" =>
    (first | (refine Pick1.head ?_; k_extra "k_all") | exact Pick1.tail (by k_ne) (by k_extra "my pick"))
  k_with "my sub" =>
    (first | exact List.forall_mem_nil _ | (refine List.forall_mem_cons.mpr ⟨by k_mem, ?_⟩; k_extra "my sub"))
  k_with "k_room" =>
    ((try simp only [depth_under_make, depth_under_kw, depth_in1, depth_deeper, depth_caller]); (try dsimp only [ktrTop]); omega)
  k_with "my and" =>
    (first | assumption | exact And.intro (by k_ne) (by k_extra "my and") | k_ne)
  k_with "my conj" =>
    (intro l1; (repeat (with_reducible (have O8 := And.left l1; replace l1 := And.right l1))))
  k_with "my off" =>
    ((rename OffL _ _ => O9); (try dsimp only [OffL, Off1, keys, nodeLed, List.map] at O9); revert O9; k_extra "my conj2")
  k_with "CompRest" =>
    (with_unfolding_all first | (refine LCg.CompRest.succ ?_; intro v' I' oI' C' oC' D' m' h' tk' E' hv' hC' hx' F' N' off' ne'; (first | lcg_open hv' | (obtain ⟨t9', hv9'⟩ := hv'; subst hv9')); (try dsimp only [LCg.Off3] at off'); revert off'; k_extra "my conj2"; revert ne'; k_extra "my conj") | refine LCg.CompRest.zero ?_)
  k_with "FinE" =>
    ((unfold LCg.FinE); intro D' h' tk' F' N' o1'; (try dsimp only [LCg.Off1] at o1'); (try dsimp only [List.nil_append, List.cons_append] at N'); (try dsimp only); revert o1'; k_extra "my conj")
  k_with "FinA" =>
    ((unfold LCg.FinA); intro D' h' tk' F' N' o1'; (try dsimp only [LCg.Off1] at o1'); (try dsimp only [List.nil_append, List.cons_append] at N'); (try dsimp only); revert o1'; k_extra "my conj")
  k_with "k_all" =>
    (first | exact List.forall_mem_nil _ | exact Off1.all (by with_reducible assumption) | exact AllLt.ne (by with_reducible assumption) | exact List.forall_mem_cons.mpr ⟨by k_ne, by k_extra "k_all"⟩)
  k_with "my conj2" =>
    (intro l2; (repeat (with_reducible (have l1 := And.left l2; replace l2 := And.right l2; revert l1; k_extra "my conj"))))
  k_with "my same" =>
    (intro z9 hz9; first | rfl | (refine same_step hz9 (by k_mem) ?_; k_extra "my same2") | ((simp only [List.mem_cons, List.not_mem_nil, or_false, not_or] at hz9); first | rfl | (simp only [hz9, if_false, if_neg, over, not_false_eq_true]; done) | (simp [hz9, over]; done)))
  k_with "my same2" =>
    (first | rfl | (refine same_step (by assumption) (by k_mem) ?_; k_extra "my same2"))
  k_with "TurnPost" =>
    (dsimp only [TurnPost])
  k_with "my for" =>
    (k_here; (rename Fr _ _ _ _ => lF'); (with_unfolding_all refine For_turns lF' ?_ (hE := by first | passes_own | assumption); k_whole))
  k_with "execs cons" =>
    (refine wpAny_execs_cons ?_; (try k_fold))
  k_with "room" =>
    (first | exact room2 (by assumption) (by exact rfl) | exact room3 (by assumption) (by exact rfl) | exact room1 (by assumption) (by exact rfl) | exact room0 (by assumption) | exact room4 (by assumption) (by exact rfl))
  k_with "k_room" =>
    (k_extra "room")
  k_with "my in" =>
    (with_reducible first | assumption | (refine List.mem_append_left _ ?_; assumption) | (refine List.mem_append_right _ ?_; assumption) | (refine List.mem_cons_of_mem _ ?_; k_extra "my in"))
  k_with "my tail" =>
    (intro p9 hp9; k_extra "my in")
  k_with "my subs" =>
    (first | exact List.forall_mem_nil _ | k_extra "my tail" | (refine List.forall_mem_cons.mpr ⟨by k_mem, ?_⟩; k_extra "my subs") | with_reducible (refine List.forall_mem_append.mpr ⟨?_, ?_⟩ <;> k_extra "my subs"))
  k_with "k_all" =>
    (first | (with_reducible assumption) | exact OffFr.all (by with_reducible assumption) (by k_mem))
  k_with "my lts" =>
    (first | exact List.forall_mem_nil _ | exact List.forall_mem_cons.mpr ⟨by assumption, by k_extra "my lts"⟩)
  k_with "my offr" =>
    (first | exact OffFr.nil | (refine OffFr.cons ?_ ?_; k_all; k_extra "my offr"))
  k_with "k_inst" =>
    (exact inst_led (by k_asm) (by with_reducible assumption) (by with_reducible assumption) (by k_extra "my tail"))
  k_with "exec For Tuple List cons nil" =>
    (k_extra "my for")
  k_with "exec For Tuple List cons nil" =>
    ((fail_if_success (have := (‹Going2› : Going2))); refine halt ?_)
  k_with "newTuple" =>
    (k_here; k_dflt (refine kup_newTuple (by k_asm) (by k_asm) ?_ (by kmk_size)); intro D' h' F' N' l1; k_lt l1; (try k_sweep))
  k_with "eval Dict" =>
    ((fail_if_success (have := (‹Going› : Going))); refine halt ?_)
  k_with "exec For Name Call cons nil" =>
    (k_extra "my for")
  k_with "pyIter" =>
    (refine halt ?_)
  k_with "pyIter ref" =>
    (refine halt ?_)
  k_with "call ref" =>
    (k_here; (with_reducible show wpAny _ _ (call (Value.ref 170) _) _ _ _); refine halt ?_)
  k_with "call ref" =>
    (k_here; (with_reducible show wpAny _ _ (call (Value.ref 470) [Value.ref _, Value.ref _]) _ _ _); k_dflt (refine use_ct1p (by k_asm) (by k_asm) (by k_asm) (by k_asm) (by k_asm) (by first | exact rfl | assumption) (by k_extra "my pick") (by exact News.isList (by k_asm) (by k_mem)) (one_ct _ _ _ _ _ (by assumption) (by k_ne) (by exact handed_refs rfl) (by exact Nat.le_of_ble_eq_true rfl) (by exact Nat.le_of_ble_eq_true rfl)) (by ktr_room) (by ktr_units) ?_); intro r9 fp9 h9 tk9 F9 N9 O9 R9; obtain ⟨o9, hr9, ho9, f9⟩ := R9; subst f9; k_extra "my off"; (try dsimp only [List.cons_append, List.nil_append] at N9); (try dsimp only); (try k_fold))
  k_with "my dct" =>
    (first | exact dct_of (News.get (by k_asm) (by k_mem)) (by assumption) | exact dct_of (Fr.keep (by k_asm) _ _ (by assumption)) (by assumption))
  k_with "subscriptTail Name Name ref str" =>
    (k_here; k_dflt (refine ditem (by k_extra "my dct") (by assumption) ?_))
  k_with "setItem ref str" =>
    (k_here; k_dflt (refine dset (by k_asm) (by k_asm) (by k_extra "my pick") (by assumption) (by assumption) (by assumption) ?_); intro h' o' F' N' hd')
  k_with "my nes" =>
    (first | exact trivial | (refine ⟨by k_ne, ?_⟩; k_extra "my nes"))
  k_with "my neall" =>
    (first | exact trivial | (refine ⟨by k_extra "my nes", ?_⟩; k_extra "my neall"))
  trivial
theorem law_dtd_ct (w : World) (a : Addr) (o : Obj) (ho : IsSrc o) : Ct w 477 7 96 [.ref a] [(a, o)] (fun _ => True) (fun r fp' => DtdR w r fp' a) := by
  intro mean mg mb dp un gd cn cs ca ccd cl' outer A₀ base h₀ L m s Q E B F XK N T hk hp hdp hun hret
  refine wpAny_call ?_
  k_dflt ktr_enter
  rename GSub _ _ _ => kG
  rename Fr _ _ _ (fun y => List.lookup y _) => F1
  have F2 : Fr _ _ _ (frm [(Str.ofString "source", .ref a)]) := F1
  clear F1
  generalize s.toks + List.length _ = tk0
  k_steps
  rename Fr _ _ _ (frm _) => F7
  rename News _ _ _ _ => N8
  revert F7 N8
  rename Fr _ _ _ _ => F6
  rename News _ _ _ _ => N6
  clear F6 N6
  intro F7 N8
  obtain ⟨D, X, rfl, N7, off7, dt7⟩ := dtd_born (w := w) (a := a) (o := o) N8 (by k_mem) (by k_mem) (by k_mem) (by assumption) (by assumption) (by k_mem) (by assumption) (by assumption) (by assumption)
  clear N8
  dsimp only at F7 N7
  have going : Going := ⟨⟩
  refine unhalt ?_
  k_steps

  rename News _ _ _ _ => N6
  rename Obj.IsDictOf _ _ _ => hK
  obtain ⟨K, ka, kb, oK, FR, ⟨rfl, rfl, rfl, rfl⟩, N5, sub5, off5, ds5⟩ := dtd_kinds (w := w) (o := o) N6 off7 dt7 (by exact hK) (by k_mem) (by k_mem) (by k_mem) (by k_mem) (by k_extra "my tail") (by assumption) (by assumption) (by assumption) (by assumption) (by assumption)
  clear N6
  have going2 : Going2 := ⟨⟩
  refine unhalt ?_
  k_steps
  rename Fr _ _ _ _ => F8
  rename News _ _ _ _ => N8
  obtain ⟨Y, N4, hY1, hY2, hJ⟩ := dtd_menu (w := w) N8 (by k_mem) (by k_mem) (by k_mem) (by k_mem) (by k_extra "my tail") sub5 off5 ds5 ho (by assumption) (by assumption) (by assumption) (by assumption)
  clear N8
  have nk : NeAll [a, K, ka, kb] := ⟨⟨by k_ne, by k_ne, by k_ne, trivial⟩, ⟨by k_ne, by k_ne, trivial⟩, ⟨by k_ne, trivial⟩, trivial, trivial⟩
  refine unhalt (turns_over (l := _) (vs := [_, _, _]) (n := 0) [Str.ofString "name", Str.ofString "kind", Str.ofString "element"] (fun j _ nn => JO w a D K ka kb oK Y j nn) rfl go_tuple F8 N4 (List.mem_cons_of_mem _ (List.mem_cons_of_mem _ (List.mem_cons_of_mem _ (List.mem_cons_of_mem _ (List.mem_append_right _ hY1))))) hJ ?_ ?_ ?_)
  · rintro i m nn ⟨dk, c, o', oa, ob, X, rfl, _⟩
    exact List.mem_cons_of_mem _ (List.mem_cons_of_mem _ (List.mem_cons_of_mem _ (List.mem_cons_of_mem _ (List.mem_append_right _ hY1))))
  · intro j v I ito h9 tk9 u nn hv hJ9 hlt hne F9 N9
    k_fold
    obtain ⟨dk, c, o9, oa9, ob9, X9, rfl, hs9, ds9, off9, ap9, hc9, hm9⟩ := hJ9
    obtain ⟨n9, k9, t9, tn9, tk8, hmk, rfl, ht9⟩ := hY2 j v hv
    dsimp only [over] at F9
    have hoff := off1_of hne
    dsimp only [Off1] at hoff
    have i1 := hoff.1
    have i2 := hoff.2.1
    have i3 := hoff.2.2.1
    have i4 := hoff.2.2.2.1
    have i5 := hoff.2.2.2.2
    have ht8 := List.mem_append_right X9 ht9
    have e1 := off9 _ (.head _) _ ht8
    have e2 := off9 _ (.tail _ (.head _)) _ ht8
    have e3 := off9 _ (.tail _ (.tail _ (.head _))) _ ht8
    have e4 := off9 _ (.tail _ (.tail _ (.tail _ (.head _)))) _ ht8
    have e5 := Off1.all i5 _ ht8
    have N9' : News _ _ h9 ((t9, tupS n9 k9 tn9 tk8) :: (I, ito) :: _ :: _ :: _ :: _ :: (X9 ++ Y)) := fun p hp => (List.mem_cons.mp hp).elim (fun e => N9 p (by rw [e]; exact List.mem_cons_of_mem _ (List.mem_cons_of_mem _ (List.mem_cons_of_mem _ (List.mem_cons_of_mem _ (List.mem_cons_of_mem _ ht8)))))) (N9 p)
    clear N9 ht8
    k_steps
    obtain ⟨hj3, hmn, hmt⟩ := menu_new hmk
    obtain ⟨b, vs, els, rfl, hb, ⟨c1, c2, c3, c4, c5, c6⟩, hlen, h2, hnd, hels⟩ := menu_pick N9 (P := fun b => @Ne Nat I b ∧ @Ne Nat a b ∧ @Ne Nat K b ∧ @Ne Nat ka b ∧ @Ne Nat kb b ∧ ∀ p ∈ X9 ++ Y, p.1 ≠ b) hr9 (by k_mem) (by k_mem) (by k_mem) (by k_mem) ⟨by k_ne, by k_ne, by k_ne, by k_ne, by k_ne, AllLt.ne (by assumption)⟩ ⟨by k_ne, by k_ne, by k_ne, by k_ne, by k_ne, AllLt.ne (by assumption)⟩ ⟨by k_ne, by k_ne, by k_ne, by k_ne, by k_ne, AllLt.ne (by assumption)⟩ ⟨by k_ne, by k_ne, by k_ne, by k_ne, by k_ne, AllLt.ne (by assumption)⟩
    have nb : NeAll [b, I, a, K, ka, kb] := ⟨⟨Ne.symm c1, Ne.symm c2, Ne.symm c3, Ne.symm c4, Ne.symm c5, trivial⟩, ⟨Ne.symm i1, Ne.symm i2, Ne.symm i3, Ne.symm i4, trivial⟩, nk⟩
    refine unhalt (turns_over (l := b) (vs := vs) (n := 0) (news := (b, listOf vs.toArray 0) :: (I, ito) :: (a, o9) :: (K, oK) :: (ka, oa9) :: (kb, ob9) :: (X9 ++ Y)) [Str.ofString "element"] (fun i _ nn => JN w a D K ka kb b I oK (listOf vs.toArray 0) ito o9 Y els n9 j i nn) rfl go_name F9 (news_sub N9 (List.forall_mem_cons.mpr ⟨hb, by k_extra "my subs"⟩)) (.head _) ?_ ?_ ?_ ?_)
    · exact ⟨dk, c, _, _, X9, rfl, ds9, by k_extra "my offr", ap9, by omega, fun el p hp => take_more (hm9 el p hp), fun el _ p hp => hmn p (hm9 el p hp)⟩
    · rintro i m nn ⟨dk, c, oa, ob, X, rfl, _⟩
      exact .head _
    · intro i v I2 ito2 h6 tk6 u6 nn6 hv6 hJ6 hlt6 hne6 F6 N6
      k_fold
      obtain ⟨dk6, c6, oa6, ob6, X6, rfl, ds6, off6, ap6, hc6, hm6, hd6⟩ := hJ6
      obtain ⟨el, te, rfl, hel, hel2⟩ := hels i v hv6
      obtain ⟨ke, oe, kz, oz, kv, hval, hoe, hkv, hkl, hcase⟩ := ds6.sel hel2
      dsimp only [over] at F6
      have hi6 : i < els.length := (List.getElem?_eq_some_iff.mp hel).1
      have hdr : el ∈ els.drop i := by
        rw [List.drop_eq_getElem_cons hi6, (List.getElem?_eq_some_iff.mp hel).2]; exact .head _
      have hkk := ds6.kk
      obtain ⟨DD6, k61, k62, k63, k64, rt6, e6, A6, nt6, n6, hD1, hD2⟩ := ds6.dt.inst
      have hvn : valueAt kv n9 = none := hkv.none (hd6 el hdr)
      have hkl' : kv.length ≤ 2 ^ 20 := by omega
      obtain ⟨N6', q1, q2, q3, q4, q5, q6, q8, b1, b2, b3, b4, q7, r6, b7⟩ := jn_open N6 hcase off6 hne6 nb
      clear N6
      k_steps
      rename Fr _ _ _ _ => F5
      rename News _ _ _ _ => N5
      rename AllLt _ (X6 ++ Y) => ldx
      refine' unhalt (use_ctM (front := [(I2, ito2), (b, listOf vs.toArray 0), (I, ito), (a, o9), (K, oK), (ke, ?oe), (kz, oz)] ++ Y) (decl_p w D dk6 c6 X6 el n9 k9 _ _ _ ?dx ?od ds6.dt ?ru (fun p hp => allLt_lt ldx p (List.mem_append_left _ hp)) ?hxd (hd6 el hdr) ?hc) (by k_asm) F5 (by k_asm) N5 (by k_asm) (by exact rfl) ?h1 ?h2 (off_decl ?h3 ap6 ?h4 ldx ?h5) trivial (by ktr_room) (by ktr_units) ?k)
      case h1 => exact List.forall_mem_append.mpr ⟨by k_extra "my tail", List.forall_mem_cons.mpr ⟨by k_mem, List.forall_mem_cons.mpr ⟨by k_mem, List.forall_mem_nil _⟩⟩⟩
      case h2 => exact List.forall_mem_append.mpr ⟨by k_extra "my sub", by k_extra "my tail"⟩
      case ru => exact ⟨_, _, _, _, _, _, _, _, _, rfl⟩
      case hxd => assumption
      case h5 => assumption
      case hc => omega
      case h3 => k_extra "my offr"
      case h4 => k_extra "my lts"
      case k =>
        intro r X' h' tk' F' N' off' R'
        obtain ⟨rfl, hd''⟩ := R'
        k_steps
        exact jn_close F' N' (by k_extra "my same") off' ds6 hcase hd'' hkv (by assumption) off6 hne6 hc6 hm6 hd6 hel hnd hmk
    · intro u6 nn6 h6 tk6 hJ6 F6 N6
      k_steps
      exact jo_close hJ6 (by omega) ho9 F6 N6 (by k_extra "my same") ⟨i1, i2, i3, i4⟩
  · intro u6 nn6 h6 tk6 hJ6 F6 N6
    obtain ⟨dk, c, o3, oa3, ob3, X3, rfl, hs3, ds3, off3, ap3, hc3, hm3⟩ := hJ6
    dsimp only [over] at F6
    k_steps
    refine' back_close2 hret (by assumption) (by assumption) kG (by assumption) (by assumption) ((?t, tupD D K) :: (a, o3) :: (K, oK) :: (ka, oa3) :: (kb, ob3) :: X3) ?sub ⟨_, D, K, ka, kb, oK, oa3, ob3, dk, c, X3, o3, rfl, hs3, rfl, ds3, ?off, hc3, fun el p hp => List.mem_of_mem_take (hm3 el p hp), by assumption, by assumption, by assumption, ?ne⟩
    case sub => k_extra "my subs"
    case ne => exact ⟨⟨by k_ne, by k_ne, by k_ne, by k_ne, trivial⟩, nk⟩
    case off => exact OffFr.cons (fun p hp => AllLt.ne (by assumption) p (List.mem_append_left Y hp)) fun q hq p hp => off3 q hq p (List.mem_append_left _ hp)
end

/-- a rule as it lies -/
inductive RuIn (P : Params) (l : Led) (x : Addr) (k : Str) : Prop
  | mk (dx od : _) (p1 : (x, instObj 106 dx) ∈ l) (p2 : (dx, od) ∈ l) (p3 : IsRu P od k) : RuIn P l x k
/-- the rules of an element as a dict -/
noncomputable def KR (P : Params) (l : Led) (kv : List (Str × Value)) (ks : List (Str × Str)) : Prop := All2 (fun p q => p.1 = q.1 ∧ ∃ x, p.2 = Value.ref x ∧ RuIn P l x q.2) kv ks
noncomputable def Dt.In (T : Dt) (h : Heap) : Prop := ∀ p ∈ T.led, h.get? p.1 = some p.2
theorem Dt.In.keep {T : Dt} {h h' : Heap} (S : T.In h) (k : ∀ b o, h.get? b = some o → h'.get? b = some o) : T.In h' := fun p hp => k _ _ (S p hp)
/-- what the rules of an element are -/
inductive RulesR (w : World) (T : Dt) (el : Str) (v : Value) (fp' : Led) : Prop
  | mk (R oR kv : _) (p1 : v = .ref R) (p2 : ((R, oR) ∈ fp' ∨ (R, oR) ∈ T.led)) (p3 : oR.IsDictOf (strKind PR w) kv) (p4 : (R == sysModules) = false) (p5 : KR w.params T.led kv (look T.es el)) : RulesR w T el v fp'
section
theorem rows19 : True := by
  k_with_none
  k_with "ktr_enter" =>
    (refine enter_cells (by k_asm) (by k_asm) (by k_asm) (by k_asm) (by k_asm) (by exact rfl) (by exact rfl) (by assumption) (by k_is) (by k_is) (by ktr_room) (by exact BindsTo.of_eq rfl) (by exact rfl) (by decide +kernel) ?_ (by exact rfl) (by exact rfl) (by exact rfl); k_whole; intro g' L' h' tk' cells' FG' F' N' Y' B' X' T' l1 kG'; (try k_lt l1); k_cells Y'; (try dsimp only [List.cons_append, List.nil_append] at N'); (try dsimp only); (try k_fold))
  k_with "ktr_enter" =>
    (refine code_defG (by k_asm) (by k_asm) (by k_asm) (by k_asm) (by k_asm) (by exact rfl) (by exact rfl) (by assumption) (by k_is) (by k_is) (by ktr_room) (by exact BindsTo.of_eq rfl) (by exact locs rfl) ?_ (by exact rfl) (by exact rfl) (by exact rfl) (by decide); k_whole; intro g' L' h' FG' F' N' B' X' T' kG'; (try dsimp only); (try k_fold))
  k_with "k_ne" =>
    (refine neN ?_; (try dsimp only); with_reducible first | assumption | exact Ne.symm (by assumption) | exact Nat.ne_of_gt (by assumption) | exact Nat.ne_of_lt (by assumption) | exact Nat.ne_of_gt (Nat.lt_succ_of_lt (by assumption)) | exact Nat.ne_of_lt (Nat.lt_succ_of_lt (by assumption)))
  k_with "k_lt" =>
    (intro l1; replace l1 := allLt_of l1; (try dsimp only [AllLt] at l1); (repeat (with_reducible (have O8 := And.left l1; replace l1 := And.right l1))))
  k_with "my pick" =>
    (first | (refine Pick1.head ?_; k_extra "k_all") | exact Pick1.tail (by k_ne) (by k_extra "my pick"))
  k_with "my sub" =>
    (first | exact List.forall_mem_nil _ | (refine List.forall_mem_cons.mpr ⟨by k_mem, ?_⟩; k_extra "my sub"))
  k_with "k_room" =>
    ((try simp only [depth_under_make, depth_under_kw, depth_in1, depth_deeper, depth_caller]); (try dsimp only [ktrTop]); omega)
  k_with "my and" =>
    (first | assumption | exact And.intro (by k_ne) (by k_extra "my and") | k_ne)
  k_with "my conj" =>
    (intro l1; (repeat (with_reducible (have O8 := And.left l1; replace l1 := And.right l1))))
  k_with "my off" =>
    ((rename OffL _ _ => O9); (try dsimp only [OffL, Off1, keys, nodeLed, List.map] at O9); revert O9; k_extra "my conj2")
  k_with "CompRest" =>
    (with_unfolding_all first | (refine LCg.CompRest.succ ?_; intro v' I' oI' C' oC' D' m' h' tk' E' hv' hC' hx' F' N' off' ne'; (first | lcg_open hv' | (obtain ⟨t9', hv9'⟩ := hv'; subst hv9')); (try dsimp only [LCg.Off3] at off'); revert off'; k_extra "my conj2"; revert ne'; k_extra "my conj") | refine LCg.CompRest.zero ?_)
  k_with "FinE" =>
    ((unfold LCg.FinE); intro D' h' tk' F' N' o1'; (try dsimp only [LCg.Off1] at o1'); (try dsimp only [List.nil_append, List.cons_append] at N'); (try dsimp only); revert o1'; k_extra "my conj")
  k_with "FinA" =>
    ((unfold LCg.FinA); intro D' h' tk' F' N' o1'; (try dsimp only [LCg.Off1] at o1'); (try dsimp only [List.nil_append, List.cons_append] at N'); (try dsimp only); revert o1'; k_extra "my conj")
  k_with "k_all" =>
    (first | exact List.forall_mem_nil _ | exact Off1.all (by with_reducible assumption) | exact AllLt.ne (by with_reducible assumption) | exact List.forall_mem_cons.mpr ⟨by k_ne, by k_extra "k_all"⟩)
  k_with "my conj2" =>
    (intro l2; (repeat (with_reducible (have l1 := And.left l2; replace l2 := And.right l2; revert l1; k_extra "my conj"))))
  k_with "my same" =>
    (intro z9 hz9; first | rfl | (refine same_step hz9 (by k_mem) ?_; k_extra "my same2") | ((simp only [List.mem_cons, List.not_mem_nil, or_false, not_or] at hz9); first | rfl | (simp only [hz9, if_false, if_neg, over, not_false_eq_true]; done) | (simp [hz9, over]; done)))
  k_with "my same2" =>
    (first | rfl | (refine same_step (by assumption) (by k_mem) ?_; k_extra "my same2"))
  k_with "TurnPost" =>
    (dsimp only [TurnPost])
  k_with "my for" =>
    (k_here; (rename Fr _ _ _ _ => lF'); (with_unfolding_all refine For_turns lF' ?_ (hE := by first | passes_own | assumption); k_whole))
  k_with "execs cons" =>
    (refine wpAny_execs_cons ?_; (try k_fold))
  k_with "room" =>
    (first | exact room2 (by assumption) (by exact rfl) | exact room3 (by assumption) (by exact rfl) | exact room1 (by assumption) (by exact rfl) | exact room0 (by assumption) | exact room4 (by assumption) (by exact rfl))
  k_with "k_room" =>
    (k_extra "room")
  k_with "k_inst" =>
    (exact inst_base (by k_asm) (by assumption) (by assumption))
  k_with "my dct" =>
    (first | exact dct_of (News.get (by k_asm) (by k_mem)) (by assumption) | exact dct_of (Fr.keep (by k_asm) _ _ (by assumption)) (by assumption))
  k_with "getMethod ref" =>
    (k_here; (with_reducible show wpAny _ _ (getMethod (Value.ref _) (Str.ofString "get") _) _ _ _); k_dflt (refine dget_m (by k_extra "my dct") ?_))
  k_with "call builtin:dict.get" =>
    (k_here; k_dflt (refine dget2 (by k_extra "my dct") (by assumption) (by exact rfl) ?_))
  trivial
theorem rules_m (w : World) (D DD A : Addr) (od oA : Obj) (kvs : List (Str × Value)) (el : Str) (te : Tok) (hdd : IsDD w.params od A) (hA : oA.IsDictOf (strKind PR w) kvs) (lo : (A == sysModules) = false) :
    Ct w 191 2 24 [.ref D, .str el te] [] (fun h => h.get? D = some (instObj 234 DD) ∧ h.get? DD = some od ∧ h.get? A = some oA)
      (fun v fp' => ∃ R oR, v = (valueAt kvs el).getD (.ref R) ∧ fp' = [(R, oR)] ∧ oR.IsDictOf (strKind PR w) [] ∧ (R == sysModules) = false) := by
  intro mean mg mb dp un gd cn cs ca ccd cl' outer A₀ base h₀ L m s Q E B F X N T hk hp hdp hun hret
  obtain ⟨k1, k2, k3, k4, rt, e, nn, n0, rfl⟩ := hdd
  obtain ⟨e1, e2, e3⟩ := hp
  refine wpAny_call ?_
  k_dflt ktr_enter
  rename GSub _ _ _ => kG
  rename Fr _ _ _ (fun y => List.lookup y _) => F1
  have F2 : Fr _ _ _ (frm [(Str.ofString "element", .str el te), (Str.ofString "self", .ref D)]) := F1
  clear F1
  generalize s.toks + List.length _ = tk0
  have g1 := kG _ _ e1 List.not_mem_nil
  have g2 := kG _ _ e2 List.not_mem_nil
  have g3 := kG _ _ e3 List.not_mem_nil
  k_steps
  refine back_close2 hret (by assumption) (by assumption) kG (by assumption) (by assumption) [(_, _)] (by k_extra "my sub") ⟨_, _, rfl, rfl, by assumption, by assumption⟩
end
theorem kr_of {w : World} {T : Dt} (hok : T.Ok w) {e : En} (he : e ∈ T.es) : KR w.params T.led e.kvs e.kinds := by
  have hr := hok.ru e he
  have hm : ∀ r ∈ e.rs, ∀ q ∈ r.2.led, q ∈ T.led := fun r hr q hq => .tail _ (.tail _ (.tail _ (List.mem_flatMap.mpr ⟨e, he, .tail _ (List.mem_flatMap.mpr ⟨r, hr, hq⟩)⟩)))
  unfold En.kvs En.kinds
  revert hr hm
  generalize e.rs = l
  intro hr hm
  induction l with
  | nil => exact .nil
  | cons r l ih => exact .cons ⟨rfl, r.2.x, rfl, r.2.dx, r.2.od, hm r (.head _) _ (.head _), hm r (.head _) _ (.tail _ (.head _)), (hr r (.head _)).1⟩ (ih (fun r hx => hr r (.tail _ hx)) fun r hx => hm r (.tail _ hx))
theorem rules_p (w : World) (T : Dt) (el : Str) (te : Tok) (hok : T.Ok w) : Ct w 191 2 24 [.ref T.D, .str el te] [] T.In (RulesR w T el) := by
  have hp : ∀ h, T.In h → h.get? T.D = some (instObj 234 T.DD) ∧ h.get? T.DD = some T.od ∧ h.get? T.A = some T.oA := fun h S => ⟨S _ (.head _), S _ (.tail _ (.head _)), S _ (.tail _ (.tail _ (.head _)))⟩
  refine ct_weak (rules_m w T.D T.DD T.A T.od T.oA _ el te hok.dd hok.aa hok.low) hp ?_
  rintro v fp' ⟨R, oR, rfl, rfl, hR, lo⟩
  rcases look_cases T.es el with ⟨hv, hl, _⟩ | ⟨l1, e, l2, he, _, _, hv, hl⟩
  · rw [hv]
    exact ⟨R, oR, [], rfl, .inl (.head _), hR, lo, by rw [hl]; exact .nil⟩
  · have hm : e ∈ T.es := by rw [he]; simp
    rw [hv]
    exact ⟨e.R, e.oR, e.kvs, rfl, .inr (.tail _ (.tail _ (.tail _ (List.mem_flatMap.mpr ⟨e, hm, .head _⟩)))), (hok.rr e hm).1, (hok.rr e hm).2, by rw [hl]; exact kr_of hok hm⟩
/-- what rule() hands back -/
noncomputable abbrev RuleR (w : World) (T : Dt) (el n : Str) (v : Value) : Prop := (v = .none ∧ (look T.es el).lookup n = none) ∨ ∃ x k, v = .ref x ∧ (look T.es el).lookup n = some k ∧ RuIn w.params T.led x k
theorem KR.at {P : Params} {l : Led} {kv : List (Str × Value)} {ks : List (Str × Str)} (h : KR P l kv ks) (n : Str) : (valueAt kv n = none ∧ ks.lookup n = none) ∨ ∃ x k, valueAt kv n = some (.ref x) ∧ ks.lookup n = some k ∧ RuIn P l x k := by
  induction h with
  | nil => exact .inl ⟨rfl, rfl⟩
  | @cons a b l m r _ ih =>
    obtain ⟨e, x, e2, hr⟩ := r
    obtain ⟨a1, a2⟩ := a
    obtain ⟨b1, b2⟩ := b
    dsimp only at e e2 hr
    subst e; subst e2
    by_cases h : a1 = n
    · subst h; exact .inr ⟨x, b2, by simp [valueAt], by simp [List.lookup], hr⟩
    · have h1 : valueAt ((a1, Value.ref x) :: l) n = valueAt l n := by simp [valueAt, h]
      have h2 : ((a1, b2) :: m).lookup n = m.lookup n := by
        rw [List.lookup_cons]
        rw [show (n == a1) = false from beq_eq_false_iff_ne.mpr fun e => h e.symm]
      rw [h1, h2]; exact ih
theorem rules_at {w : World} {T : Dt} {g h : Heap} {L : Addr} {m : Str → Option Value} {R : Addr} {oR : Obj} {fp' news : Led} {kv : List (Str × Value)} (S : T.In g) (F : Fr g L h m) (N : News g L h (fp' ++ news)) (hm : (R, oR) ∈ fp' ∨ (R, oR) ∈ T.led) (hd : oR.IsDictOf (strKind PR w) kv) : h.DictOf (strKind PR w) R kv := by
  rcases hm with hm | hm
  · exact dct_of (N _ (List.mem_append_left _ hm)).1 hd
  · exact dct_of (F.keep _ _ (S _ hm)) hd
section
theorem rows20 : True := by
  k_with_none
  k_with "ktr_enter" =>
    (refine enter_cells (by k_asm) (by k_asm) (by k_asm) (by k_asm) (by k_asm) (by exact rfl) (by exact rfl) (by assumption) (by k_is) (by k_is) (by ktr_room) (by exact BindsTo.of_eq rfl) (by exact rfl) (by decide +kernel) ?_ (by exact rfl) (by exact rfl) (by exact rfl); k_whole; intro g' L' h' tk' cells' FG' F' N' Y' B' X' T' l1 kG'; (try k_lt l1); k_cells Y'; (try dsimp only [List.cons_append, List.nil_append] at N'); (try dsimp only); (try k_fold))
  k_with "ktr_enter" =>
    (refine code_defG (by k_asm) (by k_asm) (by k_asm) (by k_asm) (by k_asm) (by exact rfl) (by exact rfl) (by assumption) (by k_is) (by k_is) (by ktr_room) (by exact BindsTo.of_eq rfl) (by exact locs rfl) ?_ (by exact rfl) (by exact rfl) (by exact rfl) (by decide); k_whole; intro g' L' h' FG' F' N' B' X' T' kG'; (try dsimp only); (try k_fold))
  k_with "k_ne" =>
    (refine neN ?_; (try dsimp only); with_reducible first | assumption | exact Ne.symm (by assumption) | exact Nat.ne_of_gt (by assumption) | exact Nat.ne_of_lt (by assumption) | exact Nat.ne_of_gt (Nat.lt_succ_of_lt (by assumption)) | exact Nat.ne_of_lt (Nat.lt_succ_of_lt (by assumption)))
  k_with "k_lt" =>
    (intro l1; replace l1 := allLt_of l1; (try dsimp only [AllLt] at l1); (repeat (with_reducible (have O8 := And.left l1; replace l1 := And.right l1))))
  k_with "my pick" =>
    (first | (refine Pick1.head ?_; k_extra "k_all") | exact Pick1.tail (by k_ne) (by k_extra "my pick"))
  k_with "my sub" =>
    (first | exact List.forall_mem_nil _ | (refine List.forall_mem_cons.mpr ⟨by k_mem, ?_⟩; k_extra "my sub"))
  k_with "k_room" =>
    ((try simp only [depth_under_make, depth_under_kw, depth_in1, depth_deeper, depth_caller]); (try dsimp only [ktrTop]); omega)
  k_with "my and" =>
    (first | assumption | exact And.intro (by k_ne) (by k_extra "my and") | k_ne)
  k_with "my conj" =>
    (intro l1; (repeat (with_reducible (have O8 := And.left l1; replace l1 := And.right l1))))
  k_with "my off" =>
    ((rename OffL _ _ => O9); (try dsimp only [OffL, Off1, keys, nodeLed, List.map] at O9); revert O9; k_extra "my conj2")
  k_with "CompRest" =>
    (with_unfolding_all first | (refine LCg.CompRest.succ ?_; intro v' I' oI' C' oC' D' m' h' tk' E' hv' hC' hx' F' N' off' ne'; (first | lcg_open hv' | (obtain ⟨t9', hv9'⟩ := hv'; subst hv9')); (try dsimp only [LCg.Off3] at off'); revert off'; k_extra "my conj2"; revert ne'; k_extra "my conj") | refine LCg.CompRest.zero ?_)
  k_with "FinE" =>
    ((unfold LCg.FinE); intro D' h' tk' F' N' o1'; (try dsimp only [LCg.Off1] at o1'); (try dsimp only [List.nil_append, List.cons_append] at N'); (try dsimp only); revert o1'; k_extra "my conj")
  k_with "FinA" =>
    ((unfold LCg.FinA); intro D' h' tk' F' N' o1'; (try dsimp only [LCg.Off1] at o1'); (try dsimp only [List.nil_append, List.cons_append] at N'); (try dsimp only); revert o1'; k_extra "my conj")
  k_with "k_all" =>
    (first | exact List.forall_mem_nil _ | exact Off1.all (by with_reducible assumption) | exact AllLt.ne (by with_reducible assumption) | exact List.forall_mem_cons.mpr ⟨by k_ne, by k_extra "k_all"⟩)
  k_with "my conj2" =>
    (intro l2; (repeat (with_reducible (have l1 := And.left l2; replace l2 := And.right l2; revert l1; k_extra "my conj"))))
  k_with "my same" =>
    (intro z9 hz9; first | rfl | (refine same_step hz9 (by k_mem) ?_; k_extra "my same2") | ((simp only [List.mem_cons, List.not_mem_nil, or_false, not_or] at hz9); first | rfl | (simp only [hz9, if_false, if_neg, over, not_false_eq_true]; done) | (simp [hz9, over]; done)))
  k_with "my same2" =>
    (first | rfl | (refine same_step (by assumption) (by k_mem) ?_; k_extra "my same2"))
  k_with "TurnPost" =>
    (dsimp only [TurnPost])
  k_with "my for" =>
    (k_here; (rename Fr _ _ _ _ => lF'); (with_unfolding_all refine For_turns lF' ?_ (hE := by first | passes_own | assumption); k_whole))
  k_with "execs cons" =>
    (refine wpAny_execs_cons ?_; (try k_fold))
  k_with "room" =>
    (first | exact room2 (by assumption) (by exact rfl) | exact room3 (by assumption) (by exact rfl) | exact room1 (by assumption) (by exact rfl) | exact room0 (by assumption) | exact room4 (by assumption) (by exact rfl))
  k_with "k_room" =>
    (k_extra "room")
  k_with "k_inst" =>
    (exact inst_base (by k_asm) (by assumption) (by assumption))
  k_with "getMethod ref" =>
    (k_here; (with_reducible show wpAny _ _ (getMethod (Value.ref _) (Str.ofString "get") _) _ _ _); k_dflt (refine dget_m (by assumption) ?_))
  k_with "call builtin:dict.get" =>
    (k_here; k_dflt (refine dget1 (by assumption) (by assumption) (by exact rfl) ?_))
  k_with "call ref" =>
    (k_here; (with_reducible show wpAny _ _ (call (Value.ref 191) _) _ _ _); k_dflt (refine use_ctE (rules_p _ _ _ _ (by assumption)) (by k_asm) (by k_asm) (by k_asm) (by k_asm) (by k_asm) (by exact rfl) (by exact Dt.In.keep (by assumption) (Fr.keep (by k_asm))) (by ktr_room) (by ktr_units) ?_); intro r9 fp9 h9 tk9 F9 N9 O9 R9; obtain ⟨R8, oR8, kv8, e9, hm8, hd8, lo8, kr8⟩ := R9; subst e9; (have D8 := rules_at (by assumption) F9 N9 hm8 hd8); (replace N9 := News.right N9); clear O9; (try dsimp only); (try k_fold))
  trivial
theorem rule_p (w : World) (T : Dt) (el n : Str) (te tn : Tok) (hok : T.Ok w) : Ct w 198 3 32 [.ref T.D, .str el te, .str n tn] [] T.In (fun v fp' => RuleR w T el n v ∧ fp' = []) := by
  intro mean mg mb dp un gd cn cs ca ccd cl' outer A₀ base h₀ L m s Q E B F X N T' hk hp hdp hun hret
  have hdd := hok.dd
  obtain ⟨k1, k2, k3, k4, rt, e, nn, n0, hod⟩ := hdd
  refine wpAny_call ?_
  k_dflt ktr_enter
  rename GSub _ _ _ => kG
  rename Fr _ _ _ (fun y => List.lookup y _) => F1
  have F2 : Fr _ _ _ (frm [(Str.ofString "name", .str n tn), (Str.ofString "element", .str el te), (Str.ofString "self", .ref T.D)]) := F1
  clear F1
  generalize s.toks + List.length _ = tk0
  have hpg := hp.keep fun b o e => kG b o e List.not_mem_nil
  have g1 := hpg _ (.head _)
  have g2 := hpg _ (.tail _ (.head _))
  dsimp only at g1 g2
  rw [hod] at g2
  k_steps
  rcases KR.at (by assumption) n with ⟨q1, q2⟩ | ⟨x, k, q1, q2, q3⟩
  · rw [q1]
    exact back_close2 hret (by assumption) (by assumption) kG (by assumption) (by assumption) [] (List.forall_mem_nil _) ⟨.inl ⟨rfl, q2⟩, rfl⟩
  · rw [q1]
    exact back_close2 hret (by assumption) (by assumption) kG (by assumption) (by assumption) [] (List.forall_mem_nil _) ⟨.inr ⟨x, k, rfl, q2, q3⟩, rfl⟩
end

section
variable {prog : Program} {w : World} {A : Around} {E : Value → Shared → Prop} {s : Shared} {h₀ : Heap} {L : Addr} {m : Str → Option Value} {env : Env}
theorem AsgOk.mono {target : Expr} {cenv : Env} {C : Addr} {v : Value} {h : Heap} {B B' : (Str → Option Value) → Prop} (a : AsgOk prog w A target cenv C v h B) (k : ∀ m', B m' → B' m') : AsgOk prog w A target cenv C v h B' :=
  fun s m₂ Q E he hn q => a s m₂ Q E he hn fun h' tk m' h1 h2 h3 => q h' tk m' h1 (k m' h2) h3
open LCg in
/-- a comprehension over a dict's names, with one test -/
theorem comp_dict {elt c iter : Expr} {x : Str} {px : Pos} {scope : Scope} {cl : List (Str × Addr)} {cp : Pos} {kvs : List (Str × Value)} {R : Addr} {news : Led} {Q : Value → Shared → Prop}
    (hh : A.handled = none) (lo : (R == sysModules) = false) (D8 : s.heap.DictOf (strKind prog w) R kvs) (hcell : ∀ y ∈ scope.names, y.2 ≠ .cell) (hkind : scope.kind = .function) (hx : scope.names.lookup x = some .local) (hz : kvs.length ≤ 2 ^ 20)
    (F : Fr h₀ L s.heap m) (N : News h₀ L s.heap news) (hLR : L ≠ R) (J : Nat → List Value → Led → Prop) (h0 : J 0 [] news)
    (step : ∀ I C D i oC m₂ ys nn h tk own (E' : Value → Shared → Prop), (@Ne Nat C D) → i < kvs.length → J i ys nn → NsObj oC m₂ → (∃ k y t, kvs[i]? = some (k, y) ∧ m₂ x = some (.str k t)) → (∀ p ∈ nn, p.1 ∉ [I] ∧ p.1 ≠ C ∧ p.1 ≠ D) → (∀ p ∈ own, p.1 ∈ [I, R] ∧ p.1 ≠ C ∧ p.1 ≠ D) → Fr h₀ L h m → News h₀ L h (own ++ (C, oC) :: (D, lst ys) :: nn) →
      wpAny (model prog w) A (isTrue c (compEnvC scope cl C env) (eval c (compEnvC scope cl C env))) (fun ok s₃ => if ok = true then wpAny (model prog w) A (eval elt (compEnvC scope cl C env)) (fun y s₄ => GEnd h₀ L m [I] own C D ys (J (i + 1) (ys ++ [y])) { s with heap := h, toks := tk } s₄) E' s₃
        else GEnd h₀ L m [I] own C D ys (J (i + 1) ys) { s with heap := h, toks := tk } s₃) E' { s with heap := h, toks := tk })
    (fin : ∀ h' tk D ys nn, Fr h₀ L h' m → News h₀ L h' ((D, lst ys) :: nn) → (∀ p ∈ nn, p.1 ≠ D) → J kvs.length ys nn → Q (.ref D) { s with heap := h', toks := tk }) :
    CompGo prog w A E env elt [⟨.Name x px, iter, [c], 0⟩] scope cl cp Q (.ref R) s := by
  obtain ⟨o, es, ep, ho, hr⟩ := id D8
  have DA : s.heap.DictAt (strKind prog w) R kvs ep := ⟨o, es, ho, hr⟩
  have hlt : R < s.heap.objs.size := Heap.lt_size ho
  refine wpAny_pyIter_dict lo DA ?_
  have up : ∀ b o, s.heap.get? b = some o → (s.heap.push { cls := .type "dict_keyiterator", data := .fields #[.ref R, .int 0 0, .int kvs.length 0, .int ep 0] }).get? b = some o := fun b o e => Heap.get?_push_of_some _ e
  have hne : R ≠ s.heap.objs.size := Nat.ne_of_lt hlt
  have hLlt := F.ns.lt
  refine comp_all (s := { s with heap := s.heap.push { cls := .type "dict_keyiterator", data := .fields #[.ref R, .int 0 0, .int kvs.length 0, .int ep 0] } }) (Bd := fun i m' => ∃ k y t, kvs[i]? = some (k, y) ∧ m' x = some (.str k t)) hcell hkind
    (KTurns.ofWalks (Walks.dictKeys (knd := strKind prog w) hh s.heap.objs.size R hne kvs ep) fun i v s Q E st q => wpAny_pure q) (fun s Q E' st q => wpAny_pyIter_keyiter st.1 q) hz ?_ ?_ ?_ ⟨⟨_, Heap.get?_push_size _ rfl, rfl, rfl⟩, DA.at' fun o e => up _ _ e⟩ ?_ (F.keeps up) (N.grown up) J h0 ?_ ?_ ?_
  · intro hm
    rcases List.mem_cons.mp hm with e | hm
    · exact absurd hLlt (e ▸ Nat.lt_irrefl _)
    · exact hLR (List.mem_singleton.mp hm)
  · intro b hb; rw [List.mem_singleton.mp hb]; exact next_is_new F
  · intro p hp hI
    exact absurd (Heap.lt_size (N p hp).1) ((List.mem_singleton.mp hI) ▸ Nat.lt_irrefl _)
  · intro b hb
    show b < (s.heap.push _).objs.size
    rw [Heap.size_push]
    rcases List.mem_cons.mp hb with rfl | hb
    · exact Nat.lt_succ_self _
    · rw [List.mem_singleton.mp hb]; exact Nat.lt_succ_of_lt hlt
  · rintro C i v h hi ⟨k, y, e, hk⟩
    refine (asg_name hx hkind).mono fun m' hm => ?_
    obtain ⟨t, rfl⟩ := Value.isStrOf_shape hk
    exact ⟨k, y, t, e, hm⟩
  · intro C D i oC m₂ ys nn h tk own E' h1 h2 _ h3 h4 h5 h6 h7 h8 h9
    exact wpAny_tests_one (step _ C D i oC m₂ ys nn h tk own E' h1 h2 h3 h4 h5 h6 h7 h8 h9)
  · intro h' tk D ys nn F' N' off' hJ
    exact fin h' tk D ys nn F' N' (fun p hp => (off' p hp).2) hJ
open LCg in
/-- a turn that leaves the ledger as it is -/
inductive KEnd (h₀ : Heap) (L : Addr) (m : Str → Option Value) (all : Led) (P : Prop) (s s' : Shared) : Prop
  | mk (h' tk : _) (p1 : s' = { s with heap := h', toks := tk }) (p2 : Fr h₀ L h' m) (p3 : News h₀ L h' all) (p4 : P) : KEnd h₀ L m all P s s'
open LCg in
theorem KEnd.g {wr : List Addr} {own news : Led} {C D : Addr} {oC : Obj} {ys ys' : List Value} {K : Nat → List Value → Prop} {j : Nat} {m₂ : Str → Option Value} {s s' : Shared} (hC : NsObj oC m₂) (off : ∀ p ∈ news, p.1 ∉ wr ∧ p.1 ≠ C ∧ p.1 ≠ D)
    (k : KEnd h₀ L m (own ++ (C, oC) :: (D, lst ys) :: news) (K j ys') s s') : GEnd h₀ L m wr own C D ys (fun nn => nn = news ∧ K j ys') s s' := by
  obtain ⟨h', tk, rfl, F, N, hK⟩ := k
  exact ⟨h', tk, oC, news, rfl, F, ⟨m₂, hC⟩, N, off, rfl, hK⟩
open LCg in
theorem comp_dict0 {elt c iter : Expr} {x : Str} {px : Pos} {scope : Scope} {cl : List (Str × Addr)} {cp : Pos} {kvs : List (Str × Value)} {R : Addr} {news : Led} {Q : Value → Shared → Prop} (K : Nat → List Value → Prop)
    (hh : A.handled = none) (lo : (R == sysModules) = false) (D8 : s.heap.DictOf (strKind prog w) R kvs) (hcell : ∀ y ∈ scope.names, y.2 ≠ .cell) (hkind : scope.kind = .function) (hx : scope.names.lookup x = some .local) (hz : kvs.length ≤ 2 ^ 20)
    (F : Fr h₀ L s.heap m) (N : News h₀ L s.heap news) (hLR : L ≠ R) (h0 : K 0 [])
    (step : ∀ I C D i oC m₂ ys h tk own (E' : Value → Shared → Prop) k y t, (@Ne Nat C D) → kvs[i]? = some (k, y) → K i ys → NsObj oC m₂ → m₂ x = some (.str k t) → (∀ p ∈ news, p.1 ∉ [I] ∧ p.1 ≠ C ∧ p.1 ≠ D) → (∀ p ∈ own, p.1 ∈ [I, R] ∧ p.1 ≠ C ∧ p.1 ≠ D) → Fr h₀ L h m → News h₀ L h (own ++ (C, oC) :: (D, lst ys) :: news) →
      wpAny (model prog w) A (isTrue c (compEnvC scope cl C env) (eval c (compEnvC scope cl C env))) (fun ok s₃ => if ok = true then wpAny (model prog w) A (eval elt (compEnvC scope cl C env)) (fun y s₄ => KEnd h₀ L m (own ++ (C, oC) :: (D, lst ys) :: news) (K (i + 1) (ys ++ [y])) { s with heap := h, toks := tk } s₄) E' s₃
        else KEnd h₀ L m (own ++ (C, oC) :: (D, lst ys) :: news) (K (i + 1) ys) { s with heap := h, toks := tk } s₃) E' { s with heap := h, toks := tk })
    (fin : ∀ h' tk D ys, Fr h₀ L h' m → News h₀ L h' ((D, lst ys) :: news) → (∀ p ∈ news, p.1 ≠ D) → K kvs.length ys → Q (.ref D) { s with heap := h', toks := tk }) :
    CompGo prog w A E env elt [⟨.Name x px, iter, [c], 0⟩] scope cl cp Q (.ref R) s :=
  comp_dict hh lo D8 hcell hkind hx hz F N hLR (fun i ys nn => nn = news ∧ K i ys) ⟨rfl, h0⟩
    (fun I C D i oC m₂ ys nn h tk own E' h1 h2 h3 h4 h5 h6 h7 h8 h9 => by
      obtain ⟨rfl, hK⟩ := h3
      obtain ⟨k, y, t, e, hm⟩ := h5
      refine wpAny_mono (step I C D i oC m₂ ys h tk own E' k y t h1 e hK h4 hm h6 h7 h8 h9) (fun ok s₃ h => ?_) fun _ _ e => e
      cases ok with
      | true => exact wpAny_mono h (fun y s₄ h => KEnd.g h4 h6 h) fun _ _ e => e
      | false => exact KEnd.g h4 h6 h)
    fun h' tk D ys nn F' N' off ⟨e, hK⟩ => fin h' tk D ys F' (e ▸ N') (e ▸ off) hK
end
theorem news_swap {h₀ h : Heap} {L : Addr} {a b : Led} (N : News h₀ L h (a ++ b)) : News h₀ L h (b ++ a) := fun p hp => N p (by rcases List.mem_append.mp hp with h | h; exact List.mem_append_right _ h; exact List.mem_append_left _ h)
theorem valueAt_get {kvs : List (Str × Value)} {i : Nat} {k : Str} {y : Value} (hn : (kvs.map (·.1)).Nodup) (h : kvs[i]? = some (k, y)) : valueAt kvs k = some y := by
  induction kvs generalizing i with
  | nil => simp at h
  | cons a r ih =>
    cases i with
    | zero => simp at h; subst h; simp [valueAt]
    | succ i =>
      have h : r[i]? = some (k, y) := by simpa using h
      have hm : k ∈ r.map (·.1) := List.mem_map_of_mem (f := (·.1)) (List.mem_of_getElem? h)
      have hne : ¬ a.1 = k := fun e => (List.nodup_cons.mp hn).1 (by show a.1 ∈ _; rw [e]; exact hm)
      have := ih (List.nodup_cons.mp hn).2 h
      simpa [valueAt, hne] using this
theorem dct_nodup {o : Obj} {kvs : List (Str × Value)} {w : World} (h : o.IsDictOf (strKind PR w) kvs) : (kvs.map (·.1)).Nodup := let ⟨_, _, _, _, _, _, r⟩ := h; r
theorem rules_in {w : World} {T : Dt} {g h : Heap} {L : Addr} {m : Str → Option Value} {R : Addr} {oR : Obj} {fp' news : Led} {kv : List (Str × Value)} (S : T.In g) (F : Fr g L h m) (N : News g L h news) (hs : ∀ p ∈ fp', p ∈ news) (hm : (R, oR) ∈ fp' ∨ (R, oR) ∈ T.led) (hd : oR.IsDictOf (strKind PR w) kv) : h.DictOf (strKind PR w) R kv := by
  rcases hm with hm | hm
  · exact dct_of (N _ (hs _ hm)).1 hd
  · exact dct_of (F.keep _ _ (S _ hm)) hd
theorem rules_ne {T : Dt} {g h : Heap} {L : Addr} {m : Str → Option Value} {R : Addr} {oR : Obj} {fp' news : Led} (S : T.In g) (F : Fr g L h m) (N : News g L h news) (hs : ∀ p ∈ fp', p ∈ news) (hm : (R, oR) ∈ fp' ∨ (R, oR) ∈ T.led) : L ≠ R := by
  rcases hm with hm | hm
  · exact Ne.symm (N _ (hs _ hm)).2.1
  · intro e
    have := Heap.lt_size (S _ hm)
    exact absurd (e ▸ this) (Nat.not_lt.mpr F.above)
theorem kind_yes {ks : List (Str × Str)} {i : Nat} {k kd : Str} {ys : List Value} {t : Tok} (h : ks[i]? = some (k, kd)) (h1 : allStr ys = true) (h2 : strsV ys = ((ks.take i).filter fun p => p.2 == kd).map (·.1)) :
    allStr (ys ++ [.str k t]) = true ∧ strsV (ys ++ [.str k t]) = ((ks.take (i + 1)).filter fun p => p.2 == kd).map (·.1) := by
  have e : ks.take (i + 1) = ks.take i ++ [(k, kd)] := by rw [List.take_add_one, h]; rfl
  have f : ∀ l : List Value, allStr l = true → allStr (l ++ [.str k t]) = true ∧ strsV (l ++ [.str k t]) = strsV l ++ [k] := by
    intro l hl
    induction l with
    | nil => exact ⟨rfl, rfl⟩
    | cons a r ih =>
      cases a with
      | str z tz => exact ⟨(ih hl).1, by show z :: strsV (r ++ _) = _; rw [(ih hl).2]; rfl⟩
      | _ => cases hl
  refine ⟨(f ys h1).1, ?_⟩
  rw [(f ys h1).2, h2, e]; simp
theorem kind_no {ks : List (Str × Str)} {i : Nat} {k k' kd : Str} (h : ks[i]? = some (k, k')) (hne : k' ≠ kd) : ((ks.take (i + 1)).filter fun p => p.2 == kd).map (·.1) = ((ks.take i).filter fun p => p.2 == kd).map (·.1) := by
  have e : ks.take (i + 1) = ks.take i ++ [(k, k')] := by rw [List.take_add_one, h]; rfl
  rw [e]; simp [hne]
/-- the names of a kind -/
noncomputable abbrev ofKind (ks : List (Str × Str)) (k : Str) : List Str := (ks.filter fun p => p.2 == k).map (·.1)
section
theorem rows21 : True := by
  k_with_none
  k_with "ktr_enter" =>
    (refine enter_cells (by k_asm) (by k_asm) (by k_asm) (by k_asm) (by k_asm) (by exact rfl) (by exact rfl) (by assumption) (by k_is) (by k_is) (by ktr_room) (by exact BindsTo.of_eq rfl) (by exact rfl) (by decide +kernel) ?_ (by exact rfl) (by exact rfl) (by exact rfl); k_whole; intro g' L' h' tk' cells' FG' F' N' Y' B' X' T' l1 kG'; (try k_lt l1); k_cells Y'; (try dsimp only [List.cons_append, List.nil_append] at N'); (try dsimp only); (try k_fold))
  k_with "ktr_enter" =>
    (refine code_defG (by k_asm) (by k_asm) (by k_asm) (by k_asm) (by k_asm) (by exact rfl) (by exact rfl) (by assumption) (by k_is) (by k_is) (by ktr_room) (by exact BindsTo.of_eq rfl) (by exact locs rfl) ?_ (by exact rfl) (by exact rfl) (by exact rfl) (by decide); k_whole; intro g' L' h' FG' F' N' B' X' T' kG'; (try dsimp only); (try k_fold))
  k_with "k_ne" =>
    (refine neN ?_; (try dsimp only); with_reducible first | assumption | exact Ne.symm (by assumption) | exact Nat.ne_of_gt (by assumption) | exact Nat.ne_of_lt (by assumption) | exact Nat.ne_of_gt (Nat.lt_succ_of_lt (by assumption)) | exact Nat.ne_of_lt (Nat.lt_succ_of_lt (by assumption)))
  k_with "k_lt" =>
    (intro l1; replace l1 := allLt_of l1; (try dsimp only [AllLt] at l1); (repeat (with_reducible (have O8 := And.left l1; replace l1 := And.right l1))))
  k_with "my pick" =>
    (first | (refine Pick1.head ?_; k_extra "k_all") | exact Pick1.tail (by k_ne) (by k_extra "my pick"))
  k_with "my sub" =>
    (first | exact List.forall_mem_nil _ | (refine List.forall_mem_cons.mpr ⟨by k_mem, ?_⟩; k_extra "my sub"))
  k_with "k_room" =>
    ((try simp only [depth_under_make, depth_under_kw, depth_in1, depth_deeper, depth_caller]); (try dsimp only [ktrTop]); omega)
  k_with "my and" =>
    (first | assumption | exact And.intro (by k_ne) (by k_extra "my and") | k_ne)
  k_with "my conj" =>
    (intro l1; (repeat (with_reducible (have O8 := And.left l1; replace l1 := And.right l1))))
  k_with "my off" =>
    ((rename OffL _ _ => O9); (try dsimp only [OffL, Off1, keys, nodeLed, List.map] at O9); revert O9; k_extra "my conj2")
  k_with "CompRest" =>
    (with_unfolding_all first | (refine LCg.CompRest.succ ?_; intro v' I' oI' C' oC' D' m' h' tk' E' hv' hC' hx' F' N' off' ne'; (first | lcg_open hv' | (obtain ⟨t9', hv9'⟩ := hv'; subst hv9')); (try dsimp only [LCg.Off3] at off'); revert off'; k_extra "my conj2"; revert ne'; k_extra "my conj") | refine LCg.CompRest.zero ?_)
  k_with "FinE" =>
    ((unfold LCg.FinE); intro D' h' tk' F' N' o1'; (try dsimp only [LCg.Off1] at o1'); (try dsimp only [List.nil_append, List.cons_append] at N'); (try dsimp only); revert o1'; k_extra "my conj")
  k_with "FinA" =>
    ((unfold LCg.FinA); intro D' h' tk' F' N' o1'; (try dsimp only [LCg.Off1] at o1'); (try dsimp only [List.nil_append, List.cons_append] at N'); (try dsimp only); revert o1'; k_extra "my conj")
  k_with "k_all" =>
    (first | exact List.forall_mem_nil _ | exact Off1.all (by with_reducible assumption) | exact AllLt.ne (by with_reducible assumption) | exact List.forall_mem_cons.mpr ⟨by k_ne, by k_extra "k_all"⟩)
  k_with "my conj2" =>
    (intro l2; (repeat (with_reducible (have l1 := And.left l2; replace l2 := And.right l2; revert l1; k_extra "my conj"))))
  k_with "my same" =>
    (intro z9 hz9; first | rfl | (refine same_step hz9 (by k_mem) ?_; k_extra "my same2") | ((simp only [List.mem_cons, List.not_mem_nil, or_false, not_or] at hz9); first | rfl | (simp only [hz9, if_false, if_neg, over, not_false_eq_true]; done) | (simp [hz9, over]; done)))
  k_with "my same2" =>
    (first | rfl | (refine same_step (by assumption) (by k_mem) ?_; k_extra "my same2"))
  k_with "TurnPost" =>
    (dsimp only [TurnPost])
  k_with "my for" =>
    (k_here; (rename Fr _ _ _ _ => lF'); (with_unfolding_all refine For_turns lF' ?_ (hE := by first | passes_own | assumption); k_whole))
  k_with "execs cons" =>
    (refine wpAny_execs_cons ?_; (try k_fold))
  k_with "room" =>
    (first | exact room2 (by assumption) (by exact rfl) | exact room3 (by assumption) (by exact rfl) | exact room1 (by assumption) (by exact rfl) | exact room0 (by assumption) | exact room4 (by assumption) (by exact rfl))
  k_with "k_room" =>
    (k_extra "room")
  k_with "k_inst" =>
    (exact inst_base (by k_asm) (by assumption) (by assumption))
  k_with "k_all" =>
    (first | (with_reducible assumption) | exact OffFr.all (by with_reducible assumption) (by k_mem))
  k_with "call ref" =>
    (k_here; (with_reducible show wpAny _ _ (call (Value.ref 191) _) _ _ _); k_dflt (refine use_ctM (rules_p _ _ _ _ (by assumption)) (by k_asm) (by k_asm) (by k_asm) (by k_asm) (by k_asm) (by exact rfl) (fun _ h => nomatch h) (fun _ h => h) (fun _ _ _ h => nomatch h) (by exact Dt.In.keep (by assumption) (Fr.keep (by k_asm))) (by ktr_room) (by ktr_units) ?_); intro r9 fp9 h9 tk9 F9 N9 O9 R9; obtain ⟨R8, oR8, kv8, e9, hm8, hd8, lo8, kr8⟩ := R9; subst e9; (try dsimp only [List.cons_append, List.nil_append] at N9); (try dsimp only); (try k_fold))
  k_with "my in" =>
    (with_reducible first | assumption | (refine List.mem_append_left _ ?_; assumption) | (refine List.mem_append_right _ ?_; assumption) | (refine List.mem_cons_of_mem _ ?_; k_extra "my in"))
  k_with "my tail" =>
    (intro p9 hp9; k_extra "my in")
  k_with "subscriptTail Name Name ref str" =>
    (k_here; k_dflt (refine ditem (by assumption) (by assumption) ?_))
  k_with "KEnd" =>
    (refine halt ?_)
  k_with "eval ListComp" =>
    (k_here; k_dflt (refine comp_eval (by k_asm) (by exact rfl) (by exact rfl) (by decide) ?_))
  k_with "CompGo" =>
    (refine halt ?_)
  trivial
theorem names_p (w : World) (T : Dt) (el kd : Str) (te tk : Tok) (hok : T.Ok w) (hks : (look T.es el).length ≤ 16) : Ct w 203 4 48 [.ref T.D, .str el te, .str kd tk] [] T.In (fun v fp' => ∃ D ys, v = .ref D ∧ fp' = [(D, LCg.lst ys)] ∧ allStr ys = true ∧ strsV ys = ofKind (look T.es el) kd) := by
  intro mean mg mb dp un gd cn cs ca ccd cl' outer A₀ base h₀ L m s Q E B F X N T' hk hp hdp hun hret
  have hdd := hok.dd
  obtain ⟨k1, k2, k3, k4, rt, e, nn, n0, hod⟩ := hdd
  refine wpAny_call ?_
  k_dflt ktr_enter
  rename GSub _ _ _ => kG
  rename Fr _ _ _ (bindL _ _ _) => F1
  have F2 : Fr _ _ _ (fun y => if y = Str.ofString "element" then some (.str el te) else if y = Str.ofString "self" then some (.ref T.D) else none) := F1
  clear F1
  rename _ = Data.cell _ => c1
  replace c1 : _ = Data.cell (some (Value.str kd tk)) := c1
  revert c1
  rename _ = Data.cell _ => c2
  replace c2 : _ = Data.cell none := c2
  intro c1
  have hpg := hp.keep fun b o e => kG b o e List.not_mem_nil
  have g1 := hpg _ (.head _)
  have g2 := hpg _ (.tail _ (.head _))
  dsimp only at g1 g2
  rw [hod] at g2
  k_steps
  have hkl : kv8.length ≤ 16 := by rw [All2.length kr8]; exact hks
  refine unhalt (comp_dict0 (fun i ys => allStr ys = true ∧ strsV ys = (((look T.es el).take i).filter fun p => p.2 == kd).map (·.1)) (by exact rfl) lo8 (rules_in hpg (by assumption) (by assumption) (by k_extra "my tail") hm8 hd8) (by decide) rfl rfl (by omega) (by assumption) (by assumption) (rules_ne (news := _) hpg (by assumption) (by assumption) (by k_extra "my tail") hm8) ⟨rfl, rfl⟩ ?_ ?_)
  · intro I C D i oC m₂ ys h tk own E' k y t hCD hky hK hC hmx off own' F5 N5
    obtain ⟨⟨k', kd'⟩, hb, e1, x, e2, dx, od, hx1, hx2, hru⟩ := All2.at kr8 hky
    dsimp only at e1 e2 hru
    subst e1; subst e2
    obtain ⟨u1, u2, u3, u4, u5, u6, u7, u8, u9, rfl⟩ := hru
    have hv := valueAt_get (dct_nodup hd8) hky
    have gx := hpg _ hx1
    have gdx := hpg _ hx2
    have D8 := rules_in hpg F5 N5 (fun p hp => List.mem_append_right _ (.tail _ (.tail _ (.tail _ (.tail _ hp))))) hm8 hd8
    have N6 := news_sub (l' := (C, oC) :: (D, LCg.lst ys) :: _ :: _ :: (fp9 ++ own)) N5 (fun p hp => by
      rcases List.mem_cons.mp hp with rfl | hp
      · exact List.mem_append_right _ (.head _)
      rcases List.mem_cons.mp hp with rfl | hp
      · exact List.mem_append_right _ (.tail _ (.head _))
      rcases List.mem_cons.mp hp with rfl | hp
      · exact List.mem_append_right _ (.tail _ (.tail _ (.head _)))
      rcases List.mem_cons.mp hp with rfl | hp
      · exact List.mem_append_right _ (.tail _ (.tail _ (.tail _ (.head _))))
      rcases List.mem_append.mp hp with hp | hp
      · exact List.mem_append_right _ (.tail _ (.tail _ (.tail _ (.tail _ hp))))
      · exact List.mem_append_left _ hp)
    k_steps
    · rename (kd' == kd) = true => hb'
      rw [eq_of_beq hb'] at hb
      exact ⟨h, _, rfl, F5, N5, kind_yes hb hK.1 hK.2⟩
    · rename (kd' == kd) = false => hb'
      exact ⟨h, _, rfl, F5, N5, hK.1, by rw [kind_no hb (ne_of_beq_false hb')]; exact hK.2⟩
  · intro h' tk D ys F5 N5 off hK
    k_steps
    rw [All2.length kr8, List.take_length] at hK
    exact back_close2 hret (by assumption) (by assumption) kG (by assumption) (by assumption) [(D, LCg.lst ys)] (by k_extra "my sub") ⟨D, ys, rfl, rfl, hK.1, hK.2⟩
end
theorem str_cons {ys : List Value} (h : ys.isEmpty = false) (ha : allStr ys = true) : ∃ n t r, ys = .str n t :: r := by
  cases ys with
  | nil => cases h
  | cons a r =>
    cases a with
    | str n t => exact ⟨n, t, r, rfl⟩
    | _ => cases ha
theorem ofKind_len {ks : List (Str × Str)} {k : Str} : (ofKind ks k).length ≤ ks.length := by
  unfold ofKind; rw [List.length_map]; exact List.length_filter_le ..
theorem strsV_length {ys : List Value} (h : allStr ys = true) : ys.length = (strsV ys).length := by
  induction ys with
  | nil => rfl
  | cons a r ih =>
    cases a with
    | str n t => show r.length + 1 = (strsV r).length + 1; rw [ih h]
    | _ => cases h
theorem names_len {ys : List Value} {ks : List (Str × Str)} {k : Str} (ha : allStr ys = true) (hb : strsV ys = ofKind ks k) (h : ks.length ≤ 16) : ys.length ≤ 16 := by
  rw [strsV_length ha, hb]; exact Nat.le_trans ofKind_len h
noncomputable abbrev sID : Str := Str.ofString "ID"
section
theorem rows22 : True := by
  k_with_none
  k_with "ktr_enter" =>
    (refine enter_cells (by k_asm) (by k_asm) (by k_asm) (by k_asm) (by k_asm) (by exact rfl) (by exact rfl) (by assumption) (by k_is) (by k_is) (by ktr_room) (by exact BindsTo.of_eq rfl) (by exact rfl) (by decide +kernel) ?_ (by exact rfl) (by exact rfl) (by exact rfl); k_whole; intro g' L' h' tk' cells' FG' F' N' Y' B' X' T' l1 kG'; (try k_lt l1); k_cells Y'; (try dsimp only [List.cons_append, List.nil_append] at N'); (try dsimp only); (try k_fold))
  k_with "ktr_enter" =>
    (refine code_defG (by k_asm) (by k_asm) (by k_asm) (by k_asm) (by k_asm) (by exact rfl) (by exact rfl) (by assumption) (by k_is) (by k_is) (by ktr_room) (by exact BindsTo.of_eq rfl) (by exact locs rfl) ?_ (by exact rfl) (by exact rfl) (by exact rfl) (by decide); k_whole; intro g' L' h' FG' F' N' B' X' T' kG'; (try dsimp only); (try k_fold))
  k_with "k_ne" =>
    (refine neN ?_; (try dsimp only); with_reducible first | assumption | exact Ne.symm (by assumption) | exact Nat.ne_of_gt (by assumption) | exact Nat.ne_of_lt (by assumption) | exact Nat.ne_of_gt (Nat.lt_succ_of_lt (by assumption)) | exact Nat.ne_of_lt (Nat.lt_succ_of_lt (by assumption)))
  k_with "k_lt" =>
    (intro l1; replace l1 := allLt_of l1; (try dsimp only [AllLt] at l1); (repeat (with_reducible (have O8 := And.left l1; replace l1 := And.right l1))))
  k_with "my pick" =>
    (first | (refine Pick1.head ?_; k_extra "k_all") | exact Pick1.tail (by k_ne) (by k_extra "my pick"))
  k_with "my sub" =>
    (first | exact List.forall_mem_nil _ | (refine List.forall_mem_cons.mpr ⟨by k_mem, ?_⟩; k_extra "my sub"))
  k_with "k_room" =>
    ((try simp only [depth_under_make, depth_under_kw, depth_in1, depth_deeper, depth_caller]); (try dsimp only [ktrTop]); omega)
  k_with "my and" =>
    (first | assumption | exact And.intro (by k_ne) (by k_extra "my and") | k_ne)
  k_with "my conj" =>
    (intro l1; (repeat (with_reducible (have O8 := And.left l1; replace l1 := And.right l1))))
  k_with "my off" =>
    ((rename OffL _ _ => O9); (try dsimp only [OffL, Off1, keys, nodeLed, List.map] at O9); revert O9; k_extra "my conj2")
  k_with "CompRest" =>
    (with_unfolding_all first | (refine LCg.CompRest.succ ?_; intro v' I' oI' C' oC' D' m' h' tk' E' hv' hC' hx' F' N' off' ne'; (first | lcg_open hv' | (obtain ⟨t9', hv9'⟩ := hv'; subst hv9')); (try dsimp only [LCg.Off3] at off'); revert off'; k_extra "my conj2"; revert ne'; k_extra "my conj") | refine LCg.CompRest.zero ?_)
  k_with "FinE" =>
    ((unfold LCg.FinE); intro D' h' tk' F' N' o1'; (try dsimp only [LCg.Off1] at o1'); (try dsimp only [List.nil_append, List.cons_append] at N'); (try dsimp only); revert o1'; k_extra "my conj")
  k_with "FinA" =>
    ((unfold LCg.FinA); intro D' h' tk' F' N' o1'; (try dsimp only [LCg.Off1] at o1'); (try dsimp only [List.nil_append, List.cons_append] at N'); (try dsimp only); revert o1'; k_extra "my conj")
  k_with "k_all" =>
    (first | exact List.forall_mem_nil _ | exact Off1.all (by with_reducible assumption) | exact AllLt.ne (by with_reducible assumption) | exact List.forall_mem_cons.mpr ⟨by k_ne, by k_extra "k_all"⟩)
  k_with "my conj2" =>
    (intro l2; (repeat (with_reducible (have l1 := And.left l2; replace l2 := And.right l2; revert l1; k_extra "my conj"))))
  k_with "my same" =>
    (intro z9 hz9; first | rfl | (refine same_step hz9 (by k_mem) ?_; k_extra "my same2") | ((simp only [List.mem_cons, List.not_mem_nil, or_false, not_or] at hz9); first | rfl | (simp only [hz9, if_false, if_neg, over, not_false_eq_true]; done) | (simp [hz9, over]; done)))
  k_with "my same2" =>
    (first | rfl | (refine same_step (by assumption) (by k_mem) ?_; k_extra "my same2"))
  k_with "TurnPost" =>
    (dsimp only [TurnPost])
  k_with "my for" =>
    (k_here; (rename Fr _ _ _ _ => lF'); (with_unfolding_all refine For_turns lF' ?_ (hE := by first | passes_own | assumption); k_whole))
  k_with "execs cons" =>
    (refine wpAny_execs_cons ?_; (try k_fold))
  k_with "room" =>
    (first | exact room2 (by assumption) (by exact rfl) | exact room3 (by assumption) (by exact rfl) | exact room1 (by assumption) (by exact rfl) | exact room0 (by assumption) | exact room4 (by assumption) (by exact rfl))
  k_with "k_room" =>
    (k_extra "room")
  k_with "k_inst" =>
    (exact inst_base (by k_asm) (by assumption) (by assumption))
  k_with "call ref" =>
    (k_here; (with_reducible show wpAny _ _ (call (Value.ref 203) _) _ _ _); k_dflt (refine use_ctE (names_p _ _ _ _ _ _ (by assumption) (by assumption)) (by k_asm) (by k_asm) (by k_asm) (by k_asm) (by k_asm) (by exact rfl) (by exact Dt.In.keep (by assumption) (Fr.keep (by k_asm))) (by ktr_room) (by ktr_units) ?_); intro r9 fp9 h9 tk9 F9 N9 O9 R9; obtain ⟨D8, ys8, e9, f9, a8, b8⟩ := R9; subst e9; subst f9; (have hl8 := names_len a8 b8 (by assumption)); clear O9; (try dsimp only [List.cons_append, List.nil_append] at N9); (try dsimp only); (try k_fold))
  k_with "compareOp NotEq ref ref" =>
    (k_here; (with_reducible show wpAny _ _ (compareOp CmpOp.NotEq (Value.ref _) (Value.ref _)) _ _ _); k_dflt (refine ne_nil_rule (News.isList (by k_asm) (by k_mem)) (News.isList (by k_asm) (by k_mem)) (by ke_room) ?_))
  k_with "subscriptTail Name Constant ref int" =>
    (k_here; k_dflt ((obtain ⟨n8, t8, q8, e8⟩ := str_cons (by assumption) (by assumption)); subst e8; (refine item_now (i := 0) (vs := Value.str n8 t8 :: q8) (News.isList (by k_asm) (by k_mem)) (Nat.le_trans (m := 16) (by assumption) (by decide)) rfl ?_)))
  trivial
theorem id_name_p (w : World) (T : Dt) (el : Str) (te : Tok) (hok : T.Ok w) (hks : (look T.es el).length ≤ 16) : Ct w 210 5 64 [.ref T.D, .str el te] [] T.In (fun v fp' => ((v = .none ∧ ofKind (look T.es el) sID = []) ∨ ∃ n t r, v = .str n t ∧ ofKind (look T.es el) sID = n :: r) ∧ fp' = []) := by
  intro mean mg mb dp un gd cn cs ca ccd cl' outer A₀ base h₀ L m s Q E B F X N T' hk hp hdp hun hret
  have hdd := hok.dd
  obtain ⟨k1, k2, k3, k4, rt, e, nn, n0, hod⟩ := hdd
  refine wpAny_call ?_
  k_dflt ktr_enter
  rename GSub _ _ _ => kG
  rename Fr _ _ _ (fun y => List.lookup y _) => F1
  have F2 : Fr _ _ _ (frm [(Str.ofString "element", .str el te), (Str.ofString "self", .ref T.D)]) := F1
  clear F1
  generalize s.toks + List.length _ = tk0
  have hpg := hp.keep fun b o e => kG b o e List.not_mem_nil
  have g1 := hpg _ (.head _)
  have g2 := hpg _ (.tail _ (.head _))
  dsimp only at g1 g2
  rw [hod] at g2
  k_steps
  · refine back_close2 hret (by assumption) (by assumption) kG (by assumption) (by assumption) [] (List.forall_mem_nil _) ⟨.inl ⟨rfl, ?_⟩, rfl⟩
    rename strsV _ = _ => hb
    rename List.isEmpty _ = true => he
    rw [← hb, List.isEmpty_iff.mp he]; rfl
  · rename strsV _ = _ => hb
    exact back_close2 hret (by assumption) (by assumption) kG (by assumption) (by assumption) [] (List.forall_mem_nil _) ⟨.inr ⟨_, _, _, rfl, hb.symm⟩, rfl⟩
end

/-- the value of the first attribute of a name, where it is one word -/
noncomputable def attFind (pt : List PN) (n : Str) : List Nat → Option Str
  | [] => none
  | a :: r => match pt[a]? with
    | some q => if q.name = n then (match splitS q.value with | [x] => some x | _ => none) else attFind pt n r
    | none => attFind pt n r
noncomputable def idOf (pt : List PN) (dk : Str → List (Str × Str)) (q : PN) : Option Str :=
  match ofKind (dk q.name) sID with
  | [] => none
  | n :: _ => attFind pt n q.atts
noncomputable def IsOpt (v : Value) : Option Str → Prop
  | none => v = .none
  | some x => ∃ t, v = .str x t
/-- the attributes of a node have short values -/
noncomputable def AttsOk (pt : List PN) (q : PN) : Prop := ∀ a ∈ q.atts, ∃ qa, pt[a]? = some qa ∧ qa.value.length ≤ 12
theorem nv_at {l : List (Nat × Tok)} {i : Nat} {v : Value} (h : (nv l)[i]? = some v) : ∃ z tz, l[i]? = some (z, tz) ∧ v = .int ((z : Nat) : Int) tz := by
  unfold nv at h
  rw [List.getElem?_map] at h
  cases e : l[i]? with
  | none => rw [e] at h; cases h
  | some p => rw [e] at h; cases h; exact ⟨p.1, p.2, rfl, rfl⟩
theorem dropN_at {l : List Nat} {i z : Nat} (h : l[i]? = some z) : l.drop i = z :: l.drop (i + 1) := by
  obtain ⟨h1, h2⟩ := List.getElem?_eq_some_iff.mp h
  rw [List.drop_eq_getElem_cons h1, h2]
theorem one_word {vs : List Value} {x : Str} (h : allStr vs = true) (h2 : strsV vs = splitS x) (h3 : (vs.length : Int) = 1) : ∃ y t, vs = [.str y t] ∧ splitS x = [y] := by
  match vs, h, h3 with
  | [.str y t], _, _ => exact ⟨y, t, rfl, h2.symm⟩
  | a :: b :: r, _, h3 => simp at h3; omega
theorem not_one {vs : List Value} {x : Str} (h : allStr vs = true) (h2 : strsV vs = splitS x) (h3 : (vs.length : Int) ≠ 1) : (match splitS x with | [y] => some y | _ => none) = none := by
  rw [← h2]
  have hl := strsV_length h
  match e : strsV vs with
  | [] => rfl
  | [y] => rw [e] at hl; simp at hl; omega
  | a :: b :: r => rfl
section
theorem rows23 : True := by
  k_with_none
  k_with "ktr_enter" =>
    (refine enter_cells (by k_asm) (by k_asm) (by k_asm) (by k_asm) (by k_asm) (by exact rfl) (by exact rfl) (by assumption) (by k_is) (by k_is) (by ktr_room) (by exact BindsTo.of_eq rfl) (by exact rfl) (by decide +kernel) ?_ (by exact rfl) (by exact rfl) (by exact rfl); k_whole; intro g' L' h' tk' cells' FG' F' N' Y' B' X' T' l1 kG'; (try k_lt l1); k_cells Y'; (try dsimp only [List.cons_append, List.nil_append] at N'); (try dsimp only); (try k_fold))
  k_with "ktr_enter" =>
    (refine code_defG (by k_asm) (by k_asm) (by k_asm) (by k_asm) (by k_asm) (by exact rfl) (by exact rfl) (by assumption) (by k_is) (by k_is) (by ktr_room) (by exact BindsTo.of_eq rfl) (by exact locs rfl) ?_ (by exact rfl) (by exact rfl) (by exact rfl) (by decide); k_whole; intro g' L' h' FG' F' N' B' X' T' kG'; (try dsimp only); (try k_fold))
  k_with "k_ne" =>
    (refine neN ?_; (try dsimp only); with_reducible first | assumption | exact Ne.symm (by assumption) | exact Nat.ne_of_gt (by assumption) | exact Nat.ne_of_lt (by assumption) | exact Nat.ne_of_gt (Nat.lt_succ_of_lt (by assumption)) | exact Nat.ne_of_lt (Nat.lt_succ_of_lt (by assumption)))
  k_with "k_lt" =>
    (intro l1; replace l1 := allLt_of l1; (try dsimp only [AllLt] at l1); (repeat (with_reducible (have O8 := And.left l1; replace l1 := And.right l1))))
  k_with "my pick" =>
    (first | (refine Pick1.head ?_; k_extra "k_all") | exact Pick1.tail (by k_ne) (by k_extra "my pick"))
  k_with "my sub" =>
    (first | exact List.forall_mem_nil _ | (refine List.forall_mem_cons.mpr ⟨by k_mem, ?_⟩; k_extra "my sub"))
  k_with "k_room" =>
    ((try simp only [depth_under_make, depth_under_kw, depth_in1, depth_deeper, depth_caller]); (try dsimp only [ktrTop]); omega)
  k_with "my and" =>
    (first | assumption | exact And.intro (by k_ne) (by k_extra "my and") | k_ne)
  k_with "my conj" =>
    (intro l1; (repeat (with_reducible (have O8 := And.left l1; replace l1 := And.right l1))))
  k_with "my off" =>
    ((rename OffL _ _ => O9); (try dsimp only [OffL, Off1, keys, nodeLed, List.map] at O9); revert O9; k_extra "my conj2")
  k_with "CompRest" =>
    (with_unfolding_all first | (refine LCg.CompRest.succ ?_; intro v' I' oI' C' oC' D' m' h' tk' E' hv' hC' hx' F' N' off' ne'; (first | lcg_open hv' | (obtain ⟨t9', hv9'⟩ := hv'; subst hv9')); (try dsimp only [LCg.Off3] at off'); revert off'; k_extra "my conj2"; revert ne'; k_extra "my conj") | refine LCg.CompRest.zero ?_)
  k_with "FinE" =>
    ((unfold LCg.FinE); intro D' h' tk' F' N' o1'; (try dsimp only [LCg.Off1] at o1'); (try dsimp only [List.nil_append, List.cons_append] at N'); (try dsimp only); revert o1'; k_extra "my conj")
  k_with "FinA" =>
    ((unfold LCg.FinA); intro D' h' tk' F' N' o1'; (try dsimp only [LCg.Off1] at o1'); (try dsimp only [List.nil_append, List.cons_append] at N'); (try dsimp only); revert o1'; k_extra "my conj")
  k_with "k_all" =>
    (first | exact List.forall_mem_nil _ | exact Off1.all (by with_reducible assumption) | exact AllLt.ne (by with_reducible assumption) | exact List.forall_mem_cons.mpr ⟨by k_ne, by k_extra "k_all"⟩)
  k_with "my conj2" =>
    (intro l2; (repeat (with_reducible (have l1 := And.left l2; replace l2 := And.right l2; revert l1; k_extra "my conj"))))
  k_with "my same" =>
    (intro z9 hz9; first | rfl | (refine same_step hz9 (by k_mem) ?_; k_extra "my same2") | ((simp only [List.mem_cons, List.not_mem_nil, or_false, not_or] at hz9); first | rfl | (simp only [hz9, if_false, if_neg, over, not_false_eq_true]; done) | (simp [hz9, over]; done)))
  k_with "my same2" =>
    (first | rfl | (refine same_step (by assumption) (by k_mem) ?_; k_extra "my same2"))
  k_with "TurnPost" =>
    (dsimp only [TurnPost])
  k_with "my for" =>
    (k_here; (rename Fr _ _ _ _ => lF'); (with_unfolding_all refine For_turns lF' ?_ (hE := by first | passes_own | assumption); k_whole))
  k_with "execs cons" =>
    (refine wpAny_execs_cons ?_; (try k_fold))
  k_with "room" =>
    (first | exact room2 (by assumption) (by exact rfl) | exact room3 (by assumption) (by exact rfl) | exact room1 (by assumption) (by exact rfl) | exact room0 (by assumption) | exact room4 (by assumption) (by exact rfl))
  k_with "k_room" =>
    (k_extra "room")
  k_with "k_all" =>
    (first | (with_reducible assumption) | exact OffFr.all (by with_reducible assumption) (by k_mem))
  k_with "k_inst" =>
    (exact sees_inst (by assumption) (Fr.keep (by k_asm)))
  k_with "k_inst" =>
    (exact inst_base (by k_asm) (by assumption) (by assumption))
  k_with "exec For Name Call cons nil" =>
    (k_extra "my for")
  k_with "pyIter" =>
    (refine halt ?_)
  k_with "pyIter ref" =>
    (refine halt ?_)
  k_with "call ref" =>
    (k_here; (with_reducible show wpAny _ _ (call (Value.ref 372) _) _ _ _); k_dflt (refine use_ctE (name_p (by assumption) (by assumption)) (by k_asm) (by k_asm) (by k_asm) (by k_asm) (by k_asm) (by exact rfl) (by exact Sees.keep (by assumption) (Fr.keep (by k_asm))) (by ktr_room) (by ktr_units) ?_); intro r9 fp9 h9 tk9 F9 N9 O9 R9; obtain ⟨tk9, e9, f9⟩ := R9; subst e9; subst f9; clear O9; (try dsimp only [List.nil_append] at N9); (try dsimp only); (try k_fold))
  k_with "call ref" =>
    (k_here; (with_reducible show wpAny _ _ (call (Value.ref 393) _) _ _ _); k_dflt (refine use_ctE (value_p (by assumption) (by assumption)) (by k_asm) (by k_asm) (by k_asm) (by k_asm) (by k_asm) (by exact rfl) (by exact Sees.keep (by assumption) (Fr.keep (by k_asm))) (by ktr_room) (by ktr_units) ?_); intro r9 fp9 h9 tk9 F9 N9 O9 R9; obtain ⟨tk9, e9, f9⟩ := R9; subst e9; subst f9; clear O9; (try dsimp only [List.nil_append] at N9); (try dsimp only); (try k_fold))
  k_with "call ref" =>
    (k_here; (with_reducible show wpAny _ _ (call (Value.ref 414) _) _ _ _); k_dflt (refine use_ctE (attributes_p (by assumption) (by assumption)) (by k_asm) (by k_asm) (by k_asm) (by k_asm) (by k_asm) (by exact rfl) (by exact Sees.keep (by assumption) (Fr.keep (by k_asm))) (by ktr_room) (by ktr_units) ?_); intro r9 fp9 h9 tk9 F9 N9 O9 R9; obtain ⟨D9, n9, l9, e9, f9, q9, z9⟩ := R9; subst e9; subst f9; clear O9; (try dsimp only [List.cons_append, List.nil_append] at N9); (try dsimp only); (try k_fold))
  k_with "call ref" =>
    (k_here; (with_reducible show wpAny _ _ (call (Value.ref 210) _) _ _ _); k_dflt (refine use_ctE (id_name_p _ _ _ _ (by assumption) (by assumption)) (by k_asm) (by k_asm) (by k_asm) (by k_asm) (by k_asm) (by exact rfl) (by exact Dt.In.keep (by assumption) (Fr.keep (by k_asm))) (by ktr_room) (by ktr_units) ?_); intro r9 fp9 h9 tk9 F9 N9 O9 R9; obtain ⟨R9, f9⟩ := R9; subst f9; clear O9; (try dsimp only [List.nil_append] at N9); rcases R9 with ⟨e9, w9⟩ | ⟨nm9, t9, r9, e9, w9⟩ <;> subst e9 <;> (try dsimp only) <;> (try k_fold))
  k_with "call ref" =>
    (k_here; (with_reducible show wpAny _ _ (call (Value.ref 35) _) _ _ _); k_dflt (refine use_ctE (space_split_m _ _ _ (by assumption)) (by k_asm) (by k_asm) (by k_asm) (by k_asm) (by k_asm) (by exact rfl) trivial (by ktr_room) (by ktr_units) ?_); intro r9 fp9 h9 tk9 F9 N9 O9 R9; obtain ⟨D8, vs8, n8, e9, f9, a8, b8, c8⟩ := R9; subst e9; subst f9; k_extra "my off"; (try dsimp only [List.cons_append, List.nil_append] at N9); (try dsimp only); (try k_fold))
  k_with "call builtin:len" =>
    (k_here; k_dflt (refine len_now (News.isList (by k_asm) (by k_mem)) (Nat.le_trans (m := 13) (by assumption) (by decide)) ?_))
  k_with "subscriptTail Name Constant ref int" =>
    (k_here; k_dflt ((obtain ⟨y8, t8, e8, s8⟩ := one_word (by assumption) (by assumption) (by assumption)); subst e8; (refine item_now (i := 0) (vs := [Value.str y8 t8]) (News.isList (by k_asm) (by k_mem)) (Nat.le_of_ble_eq_true rfl) rfl ?_)))
  trivial
theorem id_of_p (w : World) (H : TH) (pt : List PN) (T : Dt) (i : Nat) (q : PN) (ti : Tok) (hok : T.Ok w) (hq : pt[i]? = some q) (hz : pt.length ≤ 2 ^ 20) (hks : (look T.es q.name).length ≤ 16) (hat : AttsOk pt q) :
    Ct w 49 6 96 [.ref H.t, .int i ti, .ref T.D] [] (fun h => Sees w.params H pt h ∧ T.In h) (fun v fp' => IsOpt v (idOf pt (look T.es) q) ∧ fp' = []) := by
  intro mean mg mb dp un gd cn cs ca ccd cl' outer A₀ base h₀ L m s Q E B F X N T' hk hp hdp hun hret
  have hdd := hok.dd
  obtain ⟨k1, k2, k3, k4, rt, e, nn, n0, hod⟩ := hdd
  obtain ⟨hp1, hp2⟩ := hp
  refine wpAny_call ?_
  k_dflt ktr_enter
  rename GSub _ _ _ => kG
  rename Fr _ _ _ (fun y => List.lookup y _) => F1
  have F2 : Fr _ _ _ (frm [(Str.ofString "dtd", .ref T.D), (Str.ofString "element", .int i ti), (Str.ofString "tree", .ref H.t)]) := F1
  clear F1
  generalize s.toks + List.length _ = tk0
  have hpg := hp2.keep fun b o e => kG b o e List.not_mem_nil
  have hpt := hp1.keep fun b o e => kG b o e List.not_mem_nil
  clear hp1 hp2
  have g1 := hpg _ (.head _)
  have g2 := hpg _ (.tail _ (.head _))
  dsimp only at g1 g2
  rw [hod] at g2
  k_steps
  · exact back_close2 hret (by assumption) (by assumption) kG (by assumption) (by assumption) [] (List.forall_mem_nil _) ⟨by unfold idOf; rw [w9]; rfl, rfl⟩
  · have hid : idOf pt (look T.es) q = attFind pt nm9 q.atts := by unfold idOf; rw [w9]
    rw [hid] at hret
    clear hid w9
    refine unhalt (turns_over (l := D9) (vs := nv l9) (n := n9) [Str.ofString "attribute", Str.ofString "parts"] (fun j _ nn => nn = [(D9, listOf (nv l9).toArray n9)] ∧ attFind pt nm9 q.atts = attFind pt nm9 (q.atts.drop j)) rfl go_name F9 N9 (.head _) ⟨rfl, rfl⟩ (fun j m nn h => by rw [h.1]; exact .head _) ?_ ?_)
    · intro j v I ito h1 tk1 u nn1 hv hJ hlt hne F1 N1
      k_fold
      obtain ⟨rfl, hJ⟩ := hJ
      obtain ⟨z, tz, hz1, rfl⟩ := nv_at hv
      have hza : q.atts[j]? = some z := by rw [← q9, List.getElem?_map, hz1]; rfl
      obtain ⟨qa, hqa, hlen⟩ := hat z (List.mem_of_getElem? hza)
      rw [dropN_at hza] at hJ
      dsimp only [over] at F1
      have i1 := hne _ (.head _)
      dsimp only at i1
      k_steps
      · rename (qa.name == nm9) = true => hn
        rename splitS qa.value = [_] => hs
        refine back_close2 hret (by assumption) (by assumption) kG (by assumption) (by assumption) [] (List.forall_mem_nil _) ⟨?_, rfl⟩
        rw [hJ, attFind, hqa]
        dsimp only
        rw [if_pos (eq_of_beq hn), hs]
        exact ⟨_, rfl⟩
      · rename (qa.name == nm9) = true => hn
        rename strsV _ = splitS qa.value => hs
        rename allStr _ = true => ha
        refine back_close2 hret (by assumption) (by assumption) kG (by assumption) (by assumption) [] (List.forall_mem_nil _) ⟨?_, rfl⟩
        rw [hJ, attFind, hqa]
        dsimp only
        rw [if_pos (eq_of_beq hn), not_one ha hs (by assumption)]
        rfl
      · rename (qa.name == nm9) = false => hn
        refine TurnEnd.intro (by assumption) (by assumption) (by k_mem) (by k_extra "my sub") hne ⟨by k_extra "my same", rfl, ?_⟩
        rw [hJ, attFind, hqa]
        dsimp only
        rw [if_neg (ne_of_beq_false hn)]
    · intro u nn1 h1 tk1 hJ F1 N1
      obtain ⟨rfl, hJ⟩ := hJ
      dsimp only [over] at F1
      k_steps
      rw [show (nv l9).length = q.atts.length by rw [nv_len, ← q9, List.length_map], List.drop_length] at hJ
      exact back_close2 hret (by assumption) (by assumption) kG (by assumption) (by assumption) [] (List.forall_mem_nil _) ⟨by rw [hJ]; rfl, rfl⟩
end

noncomputable def idAt (pt : List PN) (dk : Str → List (Str × Str)) (i : Nat) : Option Str := match pt[i]? with
  | some q => idOf pt dk q
  | none => none
/-- a table of names, the first of each -/
noncomputable def tabStep (acc : List (Str × Nat)) (p : Nat × Option Str) : List (Str × Nat) := match p.2 with
  | none => acc
  | some x => if acc.any (fun a => a.1 == x) = true then acc else acc ++ [(x, p.1)]
noncomputable def tabOf (l : List (Nat × Option Str)) : List (Str × Nat) := l.foldl tabStep []
noncomputable def TabIs (kv : List (Str × Value)) (l : List (Str × Nat)) : Prop := All2 (fun p q => p.1 = q.1 ∧ ∃ t, p.2 = Value.int ((q.2 : Nat) : Int) t) kv l
theorem TabIs.has {kv : List (Str × Value)} {l : List (Str × Nat)} (h : TabIs kv l) (x : Str) : (valueAt kv x).isSome = l.any (fun a => a.1 == x) := by
  induction h with
  | nil => rfl
  | @cons a b l m r _ ih =>
    rw [List.any_cons, ← ih, ← r.1]
    by_cases h : a.1 = x
    · simp [valueAt, h]
    · have : (a.1 == x) = false := beq_eq_false_iff_ne.mpr h
      rw [this, Bool.false_or]
      simp [valueAt, h]
theorem IsOpt.cases {v : Value} {o : Option Str} (h : IsOpt v o) : (v = .none ∧ o = none) ∨ ∃ x t, v = .str x t ∧ o = some x := by
  cases o with
  | none => exact .inl ⟨h, rfl⟩
  | some x => obtain ⟨t, e⟩ := h; exact .inr ⟨x, t, e, rfl⟩
theorem tab_snoc (l : List (Nat × Option Str)) (p : Nat × Option Str) : tabOf (l ++ [p]) = tabStep (tabOf l) p := by simp [tabOf]
theorem tab_len (l : List (Nat × Option Str)) : (tabOf l).length ≤ l.length := by
  suffices h : ∀ (l : List (Nat × Option Str)) (acc : List (Str × Nat)), (l.foldl tabStep acc).length ≤ acc.length + l.length by
    have := h l []; simpa [tabOf] using this
  intro l
  induction l with
  | nil => intro acc; simp
  | cons p r ih =>
    intro acc
    refine Nat.le_trans (ih (tabStep acc p)) ?_
    have : (tabStep acc p).length ≤ acc.length + 1 := by
      unfold tabStep
      split
      · omega
      · split
        · omega
        · simp
    simp only [List.length_cons]; omega
theorem not_some {o : Option Value} (h : o.isSome = false) : o = none := by cases o with
  | none => rfl
  | some _ => cases h
/-- the elements of a tree, fit for the readers -/
noncomputable def OutOk (T : Dt) (pt : List PN) (out : List Nat) : Prop := ∀ i ∈ out, ∃ q, pt[i]? = some q ∧ AttsOk pt q ∧ (look T.es q.name).length ≤ 16
structure PtOk (pt : List PN) (out : List Nat) : Prop where
  root : ∃ q, pt[0]? = some q ∧ WL pt q.kids out
  size : pt.length ≤ 40
  few : out.length ≤ 10
  kids : ∀ q ∈ pt, q.kids.length ≤ 40
theorem walk_p (w : World) (H : TH) (pt : List PN) (t0 : Tok) (out : List Nat) (h : PtOk pt out) :
    Ct w 42 4 48 [.ref H.t, .int ((0 : Nat) : Int) t0] [] (Sees w.params H pt) (fun r fp' => ∃ D n l, r = .ref D ∧ fp' = [(D, listOf (nv l).toArray n)] ∧ l.map (·.1) = out) :=
  let ⟨q, hq, hw⟩ := h.root; walk_elements_p w H pt t0 q out hq hw h.size h.few h.kids
theorem off_two {a b : Addr} {oa ob : Obj} {r s : Led} (h : OffFr ((a, oa) :: r) ((b, ob) :: s)) : @Ne Nat b a := h _ (.head _) _ (.head _)
noncomputable abbrev idRow (pt : List PN) (dk : Str → List (Str × Str)) (i : Nat) : Nat × Option Str := (i, idAt pt dk i)
section
theorem rows24 : True := by
  k_with_none
  k_with "ktr_enter" =>
    (refine enter_cells (by k_asm) (by k_asm) (by k_asm) (by k_asm) (by k_asm) (by exact rfl) (by exact rfl) (by assumption) (by k_is) (by k_is) (by ktr_room) (by exact BindsTo.of_eq rfl) (by exact rfl) (by decide +kernel) ?_ (by exact rfl) (by exact rfl) (by exact rfl); k_whole; intro g' L' h' tk' cells' FG' F' N' Y' B' X' T' l1 kG'; (try k_lt l1); k_cells Y'; (try dsimp only [List.cons_append, List.nil_append] at N'); (try dsimp only); (try k_fold))
  k_with "ktr_enter" =>
    (refine code_defG (by k_asm) (by k_asm) (by k_asm) (by k_asm) (by k_asm) (by exact rfl) (by exact rfl) (by assumption) (by k_is) (by k_is) (by ktr_room) (by exact BindsTo.of_eq rfl) (by exact locs rfl) ?_ (by exact rfl) (by exact rfl) (by exact rfl) (by decide); k_whole; intro g' L' h' FG' F' N' B' X' T' kG'; (try dsimp only); (try k_fold))
  k_with "k_ne" =>
    (refine neN ?_; (try dsimp only); with_reducible first | assumption | exact Ne.symm (by assumption) | exact Nat.ne_of_gt (by assumption) | exact Nat.ne_of_lt (by assumption) | exact Nat.ne_of_gt (Nat.lt_succ_of_lt (by assumption)) | exact Nat.ne_of_lt (Nat.lt_succ_of_lt (by assumption)))
  k_with "k_lt" =>
    (intro l1; replace l1 := allLt_of l1; (try dsimp only [AllLt] at l1); (repeat (with_reducible (have O8 := And.left l1; replace l1 := And.right l1))))
  k_with "my pick" =>
    (first | (refine Pick1.head ?_; k_extra "k_all") | exact Pick1.tail (by k_ne) (by k_extra "my pick"))
  k_with "my sub" =>
    (first | exact List.forall_mem_nil _ | (refine List.forall_mem_cons.mpr ⟨by k_mem, ?_⟩; k_extra "my sub"))
  k_with "k_room" =>
    ((try simp only [depth_under_make, depth_under_kw, depth_in1, depth_deeper, depth_caller]); (try dsimp only [ktrTop]); omega)
  k_with "my and" =>
    (first | assumption | exact And.intro (by k_ne) (by k_extra "my and") | k_ne)
  k_with "my conj" =>
    (intro l1; (repeat (with_reducible (have O8 := And.left l1; replace l1 := And.right l1))))
  k_with "my off" =>
    ((rename OffL _ _ => O9); (try dsimp only [OffL, Off1, keys, nodeLed, List.map] at O9); revert O9; k_extra "my conj2")
  k_with "CompRest" =>
    (with_unfolding_all first | (refine LCg.CompRest.succ ?_; intro v' I' oI' C' oC' D' m' h' tk' E' hv' hC' hx' F' N' off' ne'; (first | lcg_open hv' | (obtain ⟨t9', hv9'⟩ := hv'; subst hv9')); (try dsimp only [LCg.Off3] at off'); revert off'; k_extra "my conj2"; revert ne'; k_extra "my conj") | refine LCg.CompRest.zero ?_)
  k_with "FinE" =>
    ((unfold LCg.FinE); intro D' h' tk' F' N' o1'; (try dsimp only [LCg.Off1] at o1'); (try dsimp only [List.nil_append, List.cons_append] at N'); (try dsimp only); revert o1'; k_extra "my conj")
  k_with "FinA" =>
    ((unfold LCg.FinA); intro D' h' tk' F' N' o1'; (try dsimp only [LCg.Off1] at o1'); (try dsimp only [List.nil_append, List.cons_append] at N'); (try dsimp only); revert o1'; k_extra "my conj")
  k_with "k_all" =>
    (first | exact List.forall_mem_nil _ | exact Off1.all (by with_reducible assumption) | exact AllLt.ne (by with_reducible assumption) | exact List.forall_mem_cons.mpr ⟨by k_ne, by k_extra "k_all"⟩)
  k_with "my conj2" =>
    (intro l2; (repeat (with_reducible (have l1 := And.left l2; replace l2 := And.right l2; revert l1; k_extra "my conj"))))
  k_with "my same" =>
    (intro z9 hz9; first | rfl | (refine same_step hz9 (by k_mem) ?_; k_extra "my same2") | ((simp only [List.mem_cons, List.not_mem_nil, or_false, not_or] at hz9); first | rfl | (simp only [hz9, if_false, if_neg, over, not_false_eq_true]; done) | (simp [hz9, over]; done)))
  k_with "my same2" =>
    (first | rfl | (refine same_step (by assumption) (by k_mem) ?_; k_extra "my same2"))
  k_with "TurnPost" =>
    (dsimp only [TurnPost])
  k_with "my for" =>
    (k_here; (rename Fr _ _ _ _ => lF'); (with_unfolding_all refine For_turns lF' ?_ (hE := by first | passes_own | assumption); k_whole))
  k_with "execs cons" =>
    (refine wpAny_execs_cons ?_; (try k_fold))
  k_with "room" =>
    (first | exact room2 (by assumption) (by exact rfl) | exact room3 (by assumption) (by exact rfl) | exact room1 (by assumption) (by exact rfl) | exact room0 (by assumption) | exact room4 (by assumption) (by exact rfl))
  k_with "k_room" =>
    (k_extra "room")
  k_with "exec For Name Call cons nil" =>
    (k_extra "my for")
  k_with "pyIter" =>
    (refine halt ?_)
  k_with "pyIter ref" =>
    (refine halt ?_)
  k_with "call ref" =>
    (k_here; (with_reducible show wpAny _ _ (call (Value.ref 42) _) _ _ _); k_dflt (refine use_ctM (walk_p _ _ _ _ _ (by assumption)) (by k_asm) (by k_asm) (by k_asm) (by k_asm) (by k_asm) (by exact rfl) (fun _ h => nomatch h) (fun _ h => h) (fun _ _ _ h => nomatch h) (by exact Sees.keep (by assumption) (Fr.keep (by k_asm))) (by ktr_room) (by ktr_units) ?_); intro r9 fp9 h9 tk9 F9 N9 O9 R9; obtain ⟨D9, n9, l9, e9, f9, q9⟩ := R9; subst e9; subst f9; (have O8 := off_two O9); (try dsimp only [List.cons_append, List.nil_append] at N9); (try dsimp only); (try k_fold))
  k_with "call ref" =>
    (k_here; (with_reducible show wpAny _ _ (call (Value.ref 49) _) _ _ _); k_dflt (refine use_ctE (id_of_p _ _ _ _ _ _ _ (by assumption) (by assumption) (Nat.le_trans (m := 40) (by assumption) (by decide)) (by assumption) (by assumption)) (by k_asm) (by k_asm) (by k_asm) (by k_asm) (by k_asm) (by exact rfl) (by exact ⟨Sees.keep (by assumption) (Fr.keep (by k_asm)), Dt.In.keep (by assumption) (Fr.keep (by k_asm))⟩) (by ktr_room) (by ktr_units) ?_); intro r9 fp9 h9 tk9 F9 N9 O9 R9; obtain ⟨R9, f9⟩ := R9; subst f9; clear O9; (try dsimp only [List.nil_append] at N9); rcases IsOpt.cases R9 with ⟨e9, w9⟩ | ⟨nm9, t9, e9, w9⟩ <;> subst e9 <;> clear R9 <;> (try dsimp only) <;> (try k_fold))
  k_with "compareOp NotIn str ref" =>
    (k_here; k_dflt (refine dnotin (by exact dct_of (News.get (by k_asm) (by k_mem)) (by assumption)) (by assumption) (by exact rfl) ?_))
  k_with "setItem ref str" =>
    (k_here; k_dflt (refine dset (by k_asm) (by k_asm) (by k_extra "my pick") (by assumption) (by exact not_some (by assumption)) (by assumption) ?_); intro h' o' F' N' hd')
  trivial
theorem id_table_p (w : World) (H : TH) (pt : List PN) (T : Dt) (t0 : Tok) (out : List Nat) (hok : T.Ok w) (hpt : PtOk pt out) (hout : OutOk T pt out) :
    Ct w 56 7 128 [.ref H.t, .int ((0 : Nat) : Int) t0, .ref T.D] [] (fun h => Sees w.params H pt h ∧ T.In h) (fun v fp' => ∃ D o kv, v = .ref D ∧ fp' = [(D, o)] ∧ o.IsDictOf (strKind PR w) kv ∧ (D == sysModules) = false ∧ TabIs kv (tabOf (out.map (idRow pt (look T.es))))) := by
  intro mean mg mb dp un gd cn cs ca ccd cl' outer A₀ base h₀ L m s Q E B F X N T' hk hp hdp hun hret
  obtain ⟨hp1, hp2⟩ := hp
  refine wpAny_call ?_
  k_dflt ktr_enter
  rename GSub _ _ _ => kG
  rename Fr _ _ _ (fun y => List.lookup y _) => F1
  have F2 : Fr _ _ _ (frm [(Str.ofString "dtd", .ref T.D), (Str.ofString "root", .int ((0 : Nat) : Int) t0), (Str.ofString "tree", .ref H.t)]) := F1
  clear F1
  generalize s.toks + List.length _ = tk0
  have hpg := hp2.keep fun b o e => kG b o e List.not_mem_nil
  have hpt2 := hp1.keep fun b o e => kG b o e List.not_mem_nil
  have hsz := hpt.size
  clear hp1 hp2
  k_steps
  rename Obj.IsDictOf (strKind _ _) _ _ => hd8
  refine unhalt (turns_over (l := D9) (vs := nv l9) (n := n9) [Str.ofString "element", Str.ofString "told"] (fun j _ nn => ∃ o kv, nn = [(_, o), (D9, listOf (nv l9).toArray n9)] ∧ o.IsDictOf (strKind PR w) kv ∧ TabIs kv (tabOf ((out.take j).map (idRow pt (look T.es))))) rfl go_name F9 (news_sub (l' := [(_, _), (D9, listOf (nv l9).toArray n9)]) N9 (by k_extra "my sub")) (.tail _ (.head _)) ⟨_, _, rfl, hd8, .nil⟩ (fun j m nn h => by obtain ⟨o, kv, rfl, _⟩ := h; exact .tail _ (.head _)) ?_ ?_)
  · intro j v I ito h1 tk1 u nn1 hv hJ hlt hne F1 N1
    k_fold
    obtain ⟨o, kv, rfl, hd, hT⟩ := hJ
    obtain ⟨z, tz, hz1, rfl⟩ := nv_at hv
    have hza : out[j]? = some z := by rw [← q9, List.getElem?_map, hz1]; rfl
    obtain ⟨q, hq, hat, hks⟩ := hout z (List.mem_of_getElem? hza)
    have hrow : idRow pt (look T.es) z = (z, idOf pt (look T.es) q) := by simp [idRow, idAt, hq]
    have htk : (out.take (j + 1)).map (idRow pt (look T.es)) = (out.take j).map (idRow pt (look T.es)) ++ [(z, idOf pt (look T.es) q)] := by rw [List.take_add_one, hza, List.map_append]; simp [hrow]
    have hkl : kv.length ≤ 2 ^ 20 := by
      rw [All2.length hT]
      refine Nat.le_trans (tab_len _) ?_
      rw [List.length_map, List.length_take]
      have := hpt.few; omega
    dsimp only [over] at F1
    have hoff := off1_of hne
    simp only [Off1, and_true] at hoff
    have i1 := hoff.1
    have i2 := hoff.2
    k_steps
    · refine TurnEnd.intro (by assumption) (by assumption) (by k_mem) (by k_extra "my sub") hne ⟨by k_extra "my same", o, kv, rfl, hd, ?_⟩
      rw [htk, tab_snoc, w9]; exact hT
    · refine TurnEnd.intro (by assumption) (by assumption) (by k_mem) (by k_extra "my sub") hne ⟨by k_extra "my same", o, kv, rfl, hd, ?_⟩
      rename Option.isSome _ = true => hs
      rename Str => nm9
      rw [htk, tab_snoc, w9]
      unfold tabStep
      dsimp only
      rw [if_pos (by rw [← hT.has]; exact hs)]; exact hT
    · rename Option.isSome _ = false => hs
      rename Obj.IsDictOf (strKind _ _) _ (_ ++ _) => hd'
      refine TurnEnd.intro (news' := [(_, _), (D9, listOf (nv l9).toArray n9)]) (by assumption) (by assumption) (by k_mem) (by k_extra "my sub") (List.forall_mem_cons.mpr ⟨i1, List.forall_mem_cons.mpr ⟨i2, List.forall_mem_nil _⟩⟩) ⟨by k_extra "my same", _, _, rfl, hd', ?_⟩
      rename Str => nm9
      rw [htk, tab_snoc, w9]
      unfold tabStep
      dsimp only
      rw [if_neg (by rw [← hT.has, hs]; exact Bool.false_ne_true)]
      exact All2.push hT ⟨rfl, tz, rfl⟩
  · intro u nn1 h1 tk1 hJ F1 N1
    obtain ⟨o, kv, rfl, hd, hT⟩ := hJ
    dsimp only [over] at F1
    k_steps
    rw [show (nv l9).length = out.length by rw [nv_len, ← q9, List.length_map], List.take_length] at hT
    exact back_close2 hret (by assumption) (by assumption) kG (by assumption) (by assumption) [(_, o)] (by k_extra "my sub") ⟨_, o, kv, rfl, rfl, hd, by assumption, hT⟩
end

noncomputable abbrev sRef : Str := Str.ofString "IDREF"
noncomputable abbrev sRefs : Str := Str.ofString "IDREFS"
/-- does an attribute refer? -/
noncomputable def isRef (ks : List (Str × Str)) (n : Str) : Bool := match ks.lookup n with
  | some k => decide (k ∈ [sRef, sRefs])
  | none => false
noncomputable def refsAtt (pt : List PN) (ks : List (Str × Str)) (a : Nat) : List (Nat × Str) := match pt[a]? with
  | some q => if isRef ks q.name = true then (splitS q.value).map fun x => (a, x) else []
  | none => []
noncomputable def refsOf (pt : List PN) (dk : Str → List (Str × Str)) (q : PN) : List (Nat × Str) := q.atts.flatMap (refsAtt pt (dk q.name))
/-- a pair as it lies -/
noncomputable abbrev tupP (a : Nat) (x : Str) (ta tx : Tok) : Obj := { cls := .type "tuple", data := .seq #[.int ((a : Nat) : Int) ta, .str x tx] }
inductive PairAt (G : Addr → Obj → Prop) (v : Value) (p : Nat × Str) : Prop
  | mk (t ta tx : _) (p1 : v = .ref t) (p2 : G t (tupP p.1 p.2 ta tx)) : PairAt G v p
theorem rule_cases {w : World} {T : Dt} {el n : Str} {v : Value} (h : RuleR w T el n v) : (v = .none ∧ (look T.es el).lookup n = none) ∨
    ∃ x k dx k1 k2 k3 k4 tk ch mode value nn, v = .ref x ∧ (look T.es el).lookup n = some k ∧ (x, instObj 106 dx) ∈ T.led ∧ (dx, ruObj w.params k1 k2 k3 k4 tk k ch mode value nn) ∈ T.led := by
  rcases h with h | ⟨x, k, e, h, dx, od, m1, m2, k1, k2, k3, k4, tk, ch, mode, value, nn, rfl⟩
  · exact .inl h
  · exact .inr ⟨x, k, dx, k1, k2, k3, k4, tk, ch, mode, value, nn, e, h, m1, m2⟩
theorem Dt.In.at {T : Dt} {g : Heap} {a : Addr} {o : Obj} (S : T.In g) (m : (a, o) ∈ T.led) : g.get? a = some o := S _ m
/-- references, between its turns -/
inductive JR (pt : List PN) (ks : List (Str × Str)) (atts : List Nat) (Df D9 : Addr) (o9 : Obj) (j : Nat) (nn : Led) : Prop
  | mk (vs : List Value) (n : Nat) (Y : Led) (p1 : nn = (Df, listOf vs.toArray n) :: (D9, o9) :: Y) (p2 : OffFr [(Df, listOf vs.toArray n), (D9, o9)] Y) (p3 : All2 (PairAt (InL Y)) vs ((atts.take j).flatMap (refsAtt pt ks))) (p4 : vs.length ≤ 13 * j) : JR pt ks atts Df D9 o9 j nn
/-- references, between the turns of its inner loop -/
inductive JR2 (Df D8 I D9 : Addr) (o8 ito o9 : Obj) (ps : List (Nat × Str)) (z : Nat) (words : List Str) (c i : Nat) (nn : Led) : Prop
  | mk (us : List Value) (n : Nat) (Y : Led) (p1 : nn = (D8, o8) :: (I, ito) :: (Df, listOf us.toArray n) :: (D9, o9) :: Y) (p2 : OffFr [(D8, o8), (I, ito), (Df, listOf us.toArray n), (D9, o9)] Y) (p3 : All2 (PairAt (InL Y)) us (ps ++ (words.take i).map fun x => (z, x))) (p4 : us.length ≤ c + i) : JR2 Df D8 I D9 o8 ito o9 ps z words c i nn
theorem PairAt.mono {G G' : Addr → Obj → Prop} {v : Value} {p : Nat × Str} (h : PairAt G v p) (k : ∀ a o, G a o → G' a o) : PairAt G' v p := let ⟨t, ta, tx, e, m⟩ := h; ⟨t, ta, tx, e, k _ _ m⟩
theorem str_at {vs : List Value} {i : Nat} {v : Value} (h : allStr vs = true) (hv : vs[i]? = some v) : ∃ x t, v = .str x t ∧ (strsV vs)[i]? = some x := by
  induction vs generalizing i with
  | nil => simp at hv
  | cons a r ih =>
    cases a with
    | str n t =>
      cases i with
      | zero => simp at hv; subst hv; exact ⟨n, t, rfl, rfl⟩
      | succ i => exact ih h (by simpa using hv)
    | _ => cases h
theorem jr2_close {Df D8 I D9 I2 t : Addr} {o8 ito o9 ito2 : Obj} {ps : List (Nat × Str)} {z : Nat} {words : List Str} {x : Str} {c i n : Nat} {us : List Value} {Y : Led} {ta tx : Tok} {g h' : Heap} {L' : Addr} {m' m₀ : Str → Option Value} {ys : List Str} {s₁ : Shared} {tk' : Nat} {full : Led}
    (F : Fr g L' h' m') (N : News g L' h' full) (hs : ∀ p ∈ (I2, ito2) :: (t, tupP z x ta tx) :: (D8, o8) :: (I, ito) :: (Df, listOf (us.toArray.push (.ref t)) (n + 1)) :: (D9, o9) :: Y, p ∈ full) (hm : ∀ y, y ∉ ys → m' y = m₀ y)
    (off : OffFr [(D8, o8), (I, ito), (Df, listOf us.toArray n), (D9, o9)] Y) (hT : All2 (PairAt (InL Y)) us (ps ++ (words.take i).map fun x => (z, x))) (hu : us.length ≤ c + i) (hx : words[i]? = some x)
    (hne : ∀ p ∈ (D8, o8) :: (I, ito) :: (Df, listOf us.toArray n) :: (D9, o9) :: Y, p.1 ≠ I2) (h1 : @LT.lt Nat _ I2 t) (h2 : @LT.lt Nat _ D8 t) (h3 : @LT.lt Nat _ I t) (h4 : @LT.lt Nat _ Df t) (h5 : @LT.lt Nat _ D9 t) :
    TurnEnd g L' I2 ito2 (fun m nn => (∀ y, y ∉ ys → m y = m₀ y) ∧ JR2 Df D8 I D9 o8 ito o9 ps z words c (i + 1) nn) s₁ { s₁ with heap := h', toks := tk' } := by
  have e : us.toArray.push (Value.ref t) = (us ++ [Value.ref t]).toArray := by simp
  rw [e] at hs
  have hp2 : ∀ p ∈ (D8, o8) :: (I, ito) :: (Df, listOf (us ++ [Value.ref t]).toArray (n + 1)) :: (D9, o9) :: ((t, tupP z x ta tx) :: Y), p ∈ full := by
    refine List.forall_mem_cons.mpr ⟨hs _ (.tail _ (.tail _ (.head _))), List.forall_mem_cons.mpr ⟨hs _ (.tail _ (.tail _ (.tail _ (.head _)))), List.forall_mem_cons.mpr ⟨hs _ (.tail _ (.tail _ (.tail _ (.tail _ (.head _))))), List.forall_mem_cons.mpr ⟨hs _ (.tail _ (.tail _ (.tail _ (.tail _ (.tail _ (.head _)))))), List.forall_mem_cons.mpr ⟨hs _ (.tail _ (.head _)), fun p hp => hs p (.tail _ (.tail _ (.tail _ (.tail _ (.tail _ (.tail _ hp)))))) ⟩⟩⟩⟩⟩
  refine TurnEnd.intro F N (hs _ (.head _)) hp2 ?_ ⟨hm, us ++ [.ref t], n + 1, (t, tupP z x ta tx) :: Y, rfl, ?_, ?_, by simp; omega⟩
  · refine List.forall_mem_cons.mpr ⟨hne (D8, o8) (.head _), List.forall_mem_cons.mpr ⟨hne (I, ito) (.tail _ (.head _)), List.forall_mem_cons.mpr ⟨hne (Df, listOf us.toArray n) (.tail _ (.tail _ (.head _))), List.forall_mem_cons.mpr ⟨hne (D9, o9) (.tail _ (.tail _ (.tail _ (.head _)))), List.forall_mem_cons.mpr ⟨Nat.ne_of_gt h1, fun p hp => hne p (.tail _ (.tail _ (.tail _ (.tail _ hp))))⟩⟩⟩⟩⟩
  · have hY : OffFr [(D8, o8), (I, ito), (Df, listOf (us ++ [Value.ref t]).toArray (n + 1)), (D9, o9)] Y := off.rep rfl
    refine OffFr.cons ?_ (OffFr.cons ?_ (OffFr.cons ?_ (OffFr.cons ?_ OffFr.nil)))
    · exact List.forall_mem_cons.mpr ⟨Nat.ne_of_gt h2, hY _ (.head _)⟩
    · exact List.forall_mem_cons.mpr ⟨Nat.ne_of_gt h3, hY _ (.tail _ (.head _))⟩
    · exact List.forall_mem_cons.mpr ⟨Nat.ne_of_gt h4, hY _ (.tail _ (.tail _ (.head _)))⟩
    · exact List.forall_mem_cons.mpr ⟨Nat.ne_of_gt h5, hY _ (.tail _ (.tail _ (.tail _ (.head _))))⟩
  · have e2 : ps ++ (words.take (i + 1)).map (fun x => (z, x)) = (ps ++ (words.take i).map fun x => (z, x)) ++ [(z, x)] := by
      rw [List.take_add_one, hx, List.map_append, List.append_assoc]; rfl
    rw [e2]
    exact (hT.mono fun _ _ h => h.mono fun a o m => .tail _ m).push ⟨t, ta, tx, rfl, .head _⟩
theorem isRef_of {ks : List (Str × Str)} {n k : Str} {b : Bool} (h : ks.lookup n = some k) (hk : ([sRef, sRefs].any fun x => x == k) = b) : isRef ks n = b := by
  unfold isRef
  rw [h, ← hk]
  dsimp only
  rw [Bool.eq_iff_iff, decide_eq_true_iff]
  simp only [List.any_cons, List.any_nil, Bool.or_false, Bool.or_eq_true, beq_iff_eq, List.mem_cons, List.not_mem_nil, or_false]
  constructor
  · rintro (h | h)
    · exact .inl h.symm
    · exact .inr h.symm
  · rintro (h | h)
    · exact .inl h.symm
    · exact .inr h.symm
theorem name_front {g h : Heap} {L a : Addr} {o : Obj} {r : Led} (_N : News g L h ((a, o) :: r)) : ∃ b, b = a := ⟨a, rfl⟩
theorem app_p {prog : Program} {w : World} {A : Around} {E : Value → Shared → Prop} {s : Shared} {h₀ : Heap} {L D : Addr} {m : Str → Option Value} {news rest : Led} {us : List Value} {n : Nat} {y : Value} {Q : Value → Shared → Prop}
    (F : Fr h₀ L s.heap m) (N : News h₀ L s.heap news) (P : Pick1 D (listOf us.toArray n) news rest) (hz : us.length ≤ 2 ^ 20)
    (h : ∀ h', Fr h₀ L h' m → News h₀ L h' ((D, listOf (us.toArray.push y) (n + 1)) :: rest) → Q .none { s with heap := h' }) : wpAny (model prog w) A (call (.builtin "list.append") [.ref D, y]) Q E s := by
  obtain ⟨pre, post, rfl, rfl, a, b⟩ := P.split
  have hm := N (D, listOf us.toArray n) (List.mem_append_right _ (.head _))
  refine append_at (hsz := by rw [List.size_toArray, sizeLine_eq]; omega) hm.1 fun h' hs ho => h h' (F.change hs hm.2.1 hm.2.2) (news_sub (N.setIn a b hs ho) fun p hp => ?_)
  rcases List.mem_cons.mp hp with rfl | hp
  · exact List.mem_append_right _ (.head _)
  · rcases List.mem_append.mp hp with hp | hp
    · exact List.mem_append_left _ hp
    · exact List.mem_append_right _ (.tail _ hp)
theorem sz3 {a j i b : Nat} (h : a ≤ 13 * j + i) (h1 : j ≤ 40) (h2 : i < b) (h3 : b ≤ 13) : a ≤ 2 ^ 20 := by omega
theorem sz5 {a j : Nat} (h : a ≤ 13 * j) (h1 : j ≤ 40) : a ≤ 520 := by omega
theorem sz1 {a j : Nat} (h : a ≤ 13 * j) : a ≤ 13 * (j + 1) := by omega
theorem sz2 {a b j : Nat} (h : a ≤ 13 * j + b) (h2 : b ≤ 13) : a ≤ 13 * (j + 1) := by omega
theorem take_flat {atts : List Nat} {j z : Nat} (h : atts[j]? = some z) (f : Nat → List (Nat × Str)) : (atts.take (j + 1)).flatMap f = (atts.take j).flatMap f ++ f z := by
  rw [List.take_add_one, h, List.flatMap_append]; simp
section
theorem rows25 : True := by
  k_with_none
  k_with "ktr_enter" =>
    (refine enter_cells (by k_asm) (by k_asm) (by k_asm) (by k_asm) (by k_asm) (by exact rfl) (by exact rfl) (by assumption) (by k_is) (by k_is) (by ktr_room) (by exact BindsTo.of_eq rfl) (by exact rfl) (by decide +kernel) ?_ (by exact rfl) (by exact rfl) (by exact rfl); k_whole; intro g' L' h' tk' cells' FG' F' N' Y' B' X' T' l1 kG'; (try k_lt l1); k_cells Y'; (try dsimp only [List.cons_append, List.nil_append] at N'); (try dsimp only); (try k_fold))
  k_with "ktr_enter" =>
    (refine code_defG (by k_asm) (by k_asm) (by k_asm) (by k_asm) (by k_asm) (by exact rfl) (by exact rfl) (by assumption) (by k_is) (by k_is) (by ktr_room) (by exact BindsTo.of_eq rfl) (by exact locs rfl) ?_ (by exact rfl) (by exact rfl) (by exact rfl) (by decide); k_whole; intro g' L' h' FG' F' N' B' X' T' kG'; (try dsimp only); (try k_fold))
  k_with "k_ne" =>
    (refine neN ?_; (try dsimp only); with_reducible first | assumption | exact Ne.symm (by assumption) | exact Nat.ne_of_gt (by assumption) | exact Nat.ne_of_lt (by assumption) | exact Nat.ne_of_gt (Nat.lt_succ_of_lt (by assumption)) | exact Nat.ne_of_lt (Nat.lt_succ_of_lt (by assumption)))
  k_with "k_lt" =>
    (intro l1; replace l1 := allLt_of l1; (try dsimp only [AllLt] at l1); (repeat (with_reducible (have O8 := And.left l1; replace l1 := And.right l1))))
  k_with "my pick" =>
    (first | (refine Pick1.head ?_; k_extra "k_all") | exact Pick1.tail (by k_ne) (by k_extra "my pick"))
  k_with "my sub" =>
    (first | exact List.forall_mem_nil _ | (refine List.forall_mem_cons.mpr ⟨by k_mem, ?_⟩; k_extra "my sub"))
  k_with "k_room" =>
    ((try simp only [depth_under_make, depth_under_kw, depth_in1, depth_deeper, depth_caller]); (try dsimp only [ktrTop]); omega)
  k_with "my and" =>
    (first | assumption | exact And.intro (by k_ne) (by k_extra "my and") | k_ne)
  k_with "my conj" =>
    (intro l1; (repeat (with_reducible (have O8 := And.left l1; replace l1 := And.right l1))))
  k_with "my off" =>
    ((rename OffL _ _ => O9); (try dsimp only [OffL, Off1, keys, nodeLed, List.map] at O9); revert O9; k_extra "my conj2")
  k_with "CompRest" =>
    (with_unfolding_all first | (refine LCg.CompRest.succ ?_; intro v' I' oI' C' oC' D' m' h' tk' E' hv' hC' hx' F' N' off' ne'; (first | lcg_open hv' | (obtain ⟨t9', hv9'⟩ := hv'; subst hv9')); (try dsimp only [LCg.Off3] at off'); revert off'; k_extra "my conj2"; revert ne'; k_extra "my conj") | refine LCg.CompRest.zero ?_)
  k_with "FinE" =>
    ((unfold LCg.FinE); intro D' h' tk' F' N' o1'; (try dsimp only [LCg.Off1] at o1'); (try dsimp only [List.nil_append, List.cons_append] at N'); (try dsimp only); revert o1'; k_extra "my conj")
  k_with "FinA" =>
    ((unfold LCg.FinA); intro D' h' tk' F' N' o1'; (try dsimp only [LCg.Off1] at o1'); (try dsimp only [List.nil_append, List.cons_append] at N'); (try dsimp only); revert o1'; k_extra "my conj")
  k_with "k_all" =>
    (first | exact List.forall_mem_nil _ | exact Off1.all (by with_reducible assumption) | exact AllLt.ne (by with_reducible assumption) | exact List.forall_mem_cons.mpr ⟨by k_ne, by k_extra "k_all"⟩)
  k_with "my conj2" =>
    (intro l2; (repeat (with_reducible (have l1 := And.left l2; replace l2 := And.right l2; revert l1; k_extra "my conj"))))
  k_with "my same" =>
    (intro z9 hz9; first | rfl | (refine same_step hz9 (by k_mem) ?_; k_extra "my same2") | ((simp only [List.mem_cons, List.not_mem_nil, or_false, not_or] at hz9); first | rfl | (simp only [hz9, if_false, if_neg, over, not_false_eq_true]; done) | (simp [hz9, over]; done)))
  k_with "my same2" =>
    (first | rfl | (refine same_step (by assumption) (by k_mem) ?_; k_extra "my same2"))
  k_with "TurnPost" =>
    (dsimp only [TurnPost])
  k_with "my for" =>
    (k_here; (rename Fr _ _ _ _ => lF'); (with_unfolding_all refine For_turns lF' ?_ (hE := by first | passes_own | assumption); k_whole))
  k_with "execs cons" =>
    (refine wpAny_execs_cons ?_; (try k_fold))
  k_with "room" =>
    (first | exact room2 (by assumption) (by exact rfl) | exact room3 (by assumption) (by exact rfl) | exact room1 (by assumption) (by exact rfl) | exact room0 (by assumption) | exact room4 (by assumption) (by exact rfl))
  k_with "k_room" =>
    (k_extra "room")
  k_with "k_all" =>
    (first | (with_reducible assumption) | exact OffFr.all (by with_reducible assumption) (by k_mem))
  k_with "exec For Name Call cons nil" =>
    (k_extra "my for")
  k_with "my in" =>
    (with_reducible first | assumption | (refine List.mem_append_left _ ?_; assumption) | (refine List.mem_append_right _ ?_; assumption) | (refine List.mem_cons_of_mem _ ?_; k_extra "my in"))
  k_with "my tail" =>
    (intro p9 hp9; k_extra "my in")
  k_with "my subs" =>
    (first | exact List.forall_mem_nil _ | k_extra "my tail" | (refine List.forall_mem_cons.mpr ⟨by k_mem, ?_⟩; k_extra "my subs") | with_reducible (refine List.forall_mem_append.mpr ⟨?_, ?_⟩ <;> k_extra "my subs"))
  k_with "call builtin:list.append" =>
    (k_here; k_dflt (refine app_p (by k_asm) (by k_asm) (by k_extra "my pick") (by assumption) ?_); intro h' F' N')
  k_with "pyIter" =>
    (refine halt ?_)
  k_with "pyIter ref" =>
    (refine halt ?_)
  k_with "k_inst" =>
    (exact sees_inst (by assumption) (Fr.keep (by k_asm)))
  k_with "k_inst" =>
    (exact inst_base (by k_asm) (by assumption) (by assumption))
  k_with "call ref" =>
    (k_here; (with_reducible show wpAny _ _ (call (Value.ref 372) _) _ _ _); k_dflt (refine use_ctE (name_p (by assumption) (by assumption)) (by k_asm) (by k_asm) (by k_asm) (by k_asm) (by k_asm) (by exact rfl) (by exact Sees.keep (by assumption) (Fr.keep (by k_asm))) (by ktr_room) (by ktr_units) ?_); intro r9 fp9 h9 tk9 F9 N9 O9 R9; obtain ⟨tk9, e9, f9⟩ := R9; subst e9; subst f9; clear O9; (try dsimp only [List.nil_append] at N9); (try dsimp only); (try k_fold))
  k_with "call ref" =>
    (k_here; (with_reducible show wpAny _ _ (call (Value.ref 393) _) _ _ _); k_dflt (refine use_ctE (value_p (by assumption) (by assumption)) (by k_asm) (by k_asm) (by k_asm) (by k_asm) (by k_asm) (by exact rfl) (by exact Sees.keep (by assumption) (Fr.keep (by k_asm))) (by ktr_room) (by ktr_units) ?_); intro r9 fp9 h9 tk9 F9 N9 O9 R9; obtain ⟨tk9, e9, f9⟩ := R9; subst e9; subst f9; clear O9; (try dsimp only [List.nil_append] at N9); (try dsimp only); (try k_fold))
  k_with "call ref" =>
    (k_here; (with_reducible show wpAny _ _ (call (Value.ref 414) _) _ _ _); k_dflt (refine use_ctM (attributes_p (by assumption) (by assumption)) (by k_asm) (by k_asm) (by k_asm) (by k_asm) (by k_asm) (by exact rfl) (fun _ h => nomatch h) (fun _ h => h) (fun _ _ _ h => nomatch h) (by exact Sees.keep (by assumption) (Fr.keep (by k_asm))) (by ktr_room) (by ktr_units) ?_); intro r9 fp9 h9 tk9 F9 N9 O9 R9; obtain ⟨D9, n9, l9, e9, f9, q9, z9⟩ := R9; subst e9; subst f9; (have O8 := off_two O9); (try dsimp only [List.cons_append, List.nil_append] at N9); (try dsimp only); (try k_fold))
  k_with "call ref" =>
    (k_here; (with_reducible show wpAny _ _ (call (Value.ref 35) _) _ _ _); k_dflt (refine use_ctM (space_split_m _ _ _ (by assumption)) (by k_asm) (by k_asm) (by k_asm) (by k_asm) (by k_asm) (by exact rfl) (fun _ h => nomatch h) (fun _ h => h) (fun _ _ _ h => nomatch h) trivial (by ktr_room) (by ktr_units) ?_); intro r9 fp9 h9 tk9 F9 N9 P9 R9; obtain ⟨D8, vs8, n8, e9, f9, a8, b8, c8⟩ := R9; subst e9; subst f9; (replace N9 := news_swap N9); (try dsimp only [List.cons_append, List.nil_append] at N9); (try dsimp only); (try k_fold))
  k_with "call ref" =>
    (k_here; (with_reducible show wpAny _ _ (call (Value.ref 198) _) _ _ _); k_dflt (refine use_ctE (rule_p _ _ _ _ _ _ (by assumption)) (by k_asm) (by k_asm) (by k_asm) (by k_asm) (by k_asm) (by exact rfl) (by exact Dt.In.keep (by assumption) (Fr.keep (by k_asm))) (by ktr_room) (by ktr_units) ?_); intro r9 fp9 h9 tk9 F9 N9 O9 R9; obtain ⟨R9, f9⟩ := R9; subst f9; clear O9; (try dsimp only [List.nil_append] at N9); rcases rule_cases R9 with ⟨e9, w9⟩ | ⟨x9, k9, dx9, u1, u2, u3, u4, u5, u6, u7, u8, u9, e9, w9, m1, m2⟩ <;> clear R9 <;> subst e9 <;> (try (have gx9 := Dt.In.at hpg m1)) <;> (try (have gd9 := Dt.In.at hpg m2)) <;> (try dsimp only) <;> (try k_fold))
  trivial
theorem references_p (w : World) (H : TH) (pt : List PN) (T : Dt) (i : Nat) (q : PN) (ti : Tok) (hok : T.Ok w) (hq : pt[i]? = some q) (hz4 : pt.length ≤ 40) (hks : (look T.es q.name).length ≤ 16) (hat : AttsOk pt q) :
    Ct w 63 6 96 [.ref H.t, .int i ti, .ref T.D] [] (fun h => Sees w.params H pt h ∧ T.In h) (fun v fp' => ∃ D n vs Y, v = .ref D ∧ fp' = (D, listOf vs.toArray n) :: Y ∧ All2 (PairAt (InL Y)) vs (refsOf pt (look T.es) q) ∧ vs.length ≤ 520) := by
  intro mean mg mb dp un gd cn cs ca ccd cl' outer A₀ base h₀ L m s Q E B F X N T' hk hp hdp hun hret
  have hz : pt.length ≤ 2 ^ 20 := Nat.le_trans hz4 (by decide)
  have hdd := hok.dd
  obtain ⟨k1, k2, k3, k4, rt, e, nn, n0, hod⟩ := hdd
  obtain ⟨hp1, hp2⟩ := hp
  refine wpAny_call ?_
  k_dflt ktr_enter
  rename GSub _ _ _ => kG
  rename Fr _ _ _ (fun y => List.lookup y _) => F1
  have F2 : Fr _ _ _ (frm [(Str.ofString "dtd", .ref T.D), (Str.ofString "element", .int i ti), (Str.ofString "tree", .ref H.t)]) := F1
  clear F1
  generalize s.toks + List.length _ = tk0
  have hpg := hp2.keep fun b o e => kG b o e List.not_mem_nil
  have hpt := hp1.keep fun b o e => kG b o e List.not_mem_nil
  clear hp1 hp2
  have g1 := hpg _ (.head _)
  have g2 := hpg _ (.tail _ (.head _))
  dsimp only at g1 g2
  rw [hod] at g2
  k_steps
  obtain ⟨Df, rfl⟩ := name_front N9
  refine unhalt (turns_over (l := D9) (vs := nv l9) (n := n9) [Str.ofString "attribute", Str.ofString "rule", Str.ofString "name"] (fun j _ nn => JR pt (look T.es q.name) q.atts Df D9 (listOf (nv l9).toArray n9) j nn) rfl go_name F9 N9 (.tail _ (.head _)) ⟨[], _, [], rfl, (fun _ _ _ h => nomatch h), .nil, Nat.le_refl _⟩ (fun j m nn h => by obtain ⟨vs, n, Y, rfl, _⟩ := h; exact .tail _ (.head _)) ?_ ?_)
  · intro j v I ito h1 tk1 u nn1 hv hJ hlt hne F1 N1
    k_fold
    obtain ⟨vs, n, Y, rfl, hoff, hT, hvl⟩ := hJ
    obtain ⟨z, tz, hz1, rfl⟩ := nv_at hv
    have hza : q.atts[j]? = some z := by rw [← q9, List.getElem?_map, hz1]; rfl
    obtain ⟨qa, hqa, hlen⟩ := hat z (List.mem_of_getElem? hza)
    have hj40 : j ≤ 40 := Nat.le_trans (Nat.le_of_lt (List.getElem?_eq_some_iff.mp hz1).1) (Nat.le_trans z9 hz4)
    dsimp only [over] at F1
    have hoff1 := off1_of hne
    dsimp only [Off1] at hoff1
    have i1 := hoff1.1
    have i2 := hoff1.2.1
    have i3 := hoff1.2.2
    k_steps
    · refine TurnEnd.intro (by assumption) (by assumption) (by k_mem) (fun p hp => .tail _ hp) hne ⟨by k_extra "my same", vs, n, Y, rfl, hoff, ?_, sz1 hvl⟩
      rename List.lookup _ _ = none => hl9
      have hi : isRef (look T.es q.name) qa.name = false := by unfold isRef; rw [hl9]
      have hr : refsAtt pt (look T.es q.name) z = [] := by simp [refsAtt, hqa, hi]
      rw [take_flat hza, hr, List.append_nil]; exact hT
    · rename List.any _ _ = true => hk9
      rename List.lookup _ _ = some _ => hl9
      have hr : refsAtt pt (look T.es q.name) z = (splitS qa.value).map fun x => (z, x) := by
        have hi : isRef (look T.es q.name) qa.name = true := isRef_of hl9 hk9
        simp [refsAtt, hqa, hi]
      have o1 := P9 _ (.head _) _ (.head _)
      have o2 := P9 _ (.tail _ (.head _)) _ (.head _)
      have o3 := P9 _ (.tail _ (.tail _ (.head _))) _ (.head _)
      have o4 := P9 _ (.tail _ (.tail _ (.tail _ (.head _)))) _ (.head _)
      dsimp only at o1 o2 o3 o4
      have o5 : ∀ p ∈ Y, p.1 ≠ D8 := fun p hp e => P9 p (.tail _ (.tail _ (.tail _ (.tail _ hp)))) _ (.head _) e.symm
      refine unhalt (turns_over (l := D8) (vs := vs8) (n := n8) (news := (D8, listOf vs8.toArray n8) :: (I, ito) :: (Df, listOf vs.toArray n) :: (D9, listOf (nv l9).toArray n9) :: Y) [Str.ofString "name"] (fun i' _ nn => JR2 Df D8 I D9 (listOf vs8.toArray n8) ito (listOf (nv l9).toArray n9) ((q.atts.take j).flatMap (refsAtt pt (look T.es q.name))) z (splitS qa.value) (13 * j) i' nn) rfl go_name F9 (news_sub N9 ?_) (.head _) ⟨vs, n, Y, rfl, ?_, by rw [List.take_zero, List.map_nil, List.append_nil]; exact hT, hvl⟩ ?_ ?_ ?_)
      · refine List.forall_mem_cons.mpr ⟨.head _, fun p hp => .tail _ (.tail _ hp)⟩
      · exact OffFr.cons o5 (OffFr.cons (Off1.all i3) fun q hq p hp => hoff q hq p hp)
      · rintro i' m nn ⟨us, n, Y, rfl, _⟩
        exact .head _
      · intro i' v2 I2 ito2 h2 tk2 u2 nn2 hv2 hJ2 hlt2 hne2 F3 N3
        k_fold
        obtain ⟨us, n3, Y3, rfl, off3, hT3, hul⟩ := hJ2
        obtain ⟨x, tx, rfl, hx⟩ := str_at a8 hv2
        rw [b8] at hx
        have hoff2 := off1_of hne2
        dsimp only [Off1] at hoff2
        have j1 := hoff2.1
        have j2 := hoff2.2.1
        have j3 := hoff2.2.2.1
        have j4 := hoff2.2.2.2.1
        have j5 := hoff2.2.2.2.2
        dsimp only [over] at F3
        have hus : us.length ≤ 2 ^ 20 := sz3 hul hj40 (List.getElem?_eq_some_iff.mp hv2).1 c8
        k_steps
        exact jr2_close (by assumption) (by assumption) (by k_extra "my subs") (by k_extra "my same") off3 hT3 hul hx hne2 (by assumption) (by assumption) (by assumption) (by assumption) (by assumption)
      · intro u2 nn2 h2 tk2 hJ2 F3 N3
        obtain ⟨us, n3, Y3, rfl, off3, hT3, hul⟩ := hJ2
        k_steps
        have hw : (splitS qa.value).length = vs8.length := by rw [← b8, strsV_length a8]
        rw [← hw, List.take_length] at hT3
        refine TurnEnd.intro F3 N3 (.tail _ (.head _)) (fun p hp => .tail _ (.tail _ hp)) ?_ ⟨by k_extra "my same", us, n3, Y3, rfl, fun q hq p hp => off3 q (.tail _ (.tail _ hq)) p hp, by rw [take_flat hza, hr]; exact hT3, sz2 hul c8⟩
        refine List.forall_mem_cons.mpr ⟨i1, List.forall_mem_cons.mpr ⟨i2, fun p hp => off3 _ (.tail _ (.head _)) p hp⟩⟩
    · rename List.any _ _ = false => hk9
      rename List.lookup _ _ = some _ => hl9
      refine TurnEnd.intro (by assumption) (by assumption) (by k_mem) (fun p hp => .tail _ (.tail _ hp)) hne ⟨by k_extra "my same", vs, n, Y, rfl, hoff, ?_, sz1 hvl⟩
      have hi : isRef (look T.es q.name) qa.name = false := isRef_of hl9 hk9
      have hr : refsAtt pt (look T.es q.name) z = [] := by simp [refsAtt, hqa, hi]
      rw [take_flat hza, hr, List.append_nil]; exact hT
  · intro u nn1 h1 tk1 hJ F1 N1
    obtain ⟨vs, n, Y, rfl, hoff, hT, hvl⟩ := hJ
    dsimp only [over] at F1
    k_steps
    rw [show (nv l9).length = q.atts.length by rw [nv_len, ← q9, List.length_map], List.take_length] at hT
    exact back_close2 hret (by assumption) (by assumption) kG (by assumption) (by assumption) ((_, listOf vs.toArray n) :: Y) (List.forall_mem_cons.mpr ⟨.head _, fun p hp => .tail _ (.tail _ hp)⟩) ⟨_, n, vs, Y, rfl, rfl, hT, sz5 hvl (by rw [nv_len]; exact Nat.le_trans z9 hz4)⟩
end

noncomputable def refsAt (pt : List PN) (dk : Str → List (Str × Str)) (i : Nat) : List (Nat × Str) := match pt[i]? with
  | some q => refsOf pt dk q
  | none => []
noncomputable def brokenAt (pt : List PN) (dk : Str → List (Str × Str)) (tab : List (Str × Nat)) (i : Nat) : List (Nat × Str) := (refsAt pt dk i).filter fun p => !tab.any fun a => a.1 == p.2
/-- a list that grows by pairs, before a front and two tails -/
inductive JP (Df : Addr) (G : List Addr) (FR Yr : Led) (qs : List (Nat × Str)) (b : Nat) (nn : Led) : Prop
  | mk (us : List Value) (n : Nat) (Y : Led) (p1 : nn = (Df, listOf us.toArray n) :: (FR ++ (Y ++ Yr))) (p2 : (∀ p ∈ FR, @Ne Nat p.1 Df)) (p3 : (∀ a ∈ Df :: G, ∀ p ∈ Y ++ Yr, @Ne Nat p.1 a)) (p4 : All2 (PairAt (InL Y)) us qs) (p5 : us.length ≤ b) : JP Df G FR Yr qs b nn
section
variable {Df I2 t : Addr} {G : List Addr} {FR Yr Y full : Led} {ito2 : Obj} {qs qs' : List (Nat × Str)} {z b n : Nat} {x : Str} {us : List Value} {ta tx : Tok} {g h' : Heap} {L' : Addr} {m' m₀ : Str → Option Value} {ys : List Str} {s₁ : Shared} {tk' : Nat}
theorem jp_skip (F : Fr g L' h' m') (N : News g L' h' full) (hs : ∀ p ∈ (I2, ito2) :: (Df, listOf us.toArray n) :: (FR ++ (Y ++ Yr)), p ∈ full) (hm : ∀ y, y ∉ ys → m' y = m₀ y)
    (off1 : ∀ p ∈ FR, @Ne Nat p.1 Df) (off : ∀ a ∈ Df :: G, ∀ p ∈ Y ++ Yr, @Ne Nat p.1 a) (hT : All2 (PairAt (InL Y)) us qs) (hu : us.length ≤ b) (hq : qs' = qs) (hne : ∀ p ∈ (Df, listOf us.toArray n) :: (FR ++ (Y ++ Yr)), p.1 ≠ I2) :
    TurnEnd g L' I2 ito2 (fun m nn => (∀ y, y ∉ ys → m y = m₀ y) ∧ JP Df G FR Yr qs' (b + 1) nn) s₁ { s₁ with heap := h', toks := tk' } :=
  TurnEnd.intro F N (hs _ (.head _)) (fun p hp => hs p (.tail _ hp)) hne ⟨hm, us, n, Y, rfl, off1, off, hq ▸ hT, Nat.le_succ_of_le hu⟩
theorem jp_push (F : Fr g L' h' m') (N : News g L' h' full) (hs : ∀ p ∈ (I2, ito2) :: (t, tupP z x ta tx) :: (Df, listOf (us.toArray.push (.ref t)) (n + 1)) :: (FR ++ (Y ++ Yr)), p ∈ full) (hm : ∀ y, y ∉ ys → m' y = m₀ y)
    (off1 : ∀ p ∈ FR, @Ne Nat p.1 Df) (off : ∀ a ∈ Df :: G, ∀ p ∈ Y ++ Yr, @Ne Nat p.1 a) (hT : All2 (PairAt (InL Y)) us qs) (hu : us.length ≤ b) (hq : qs' = qs ++ [(z, x)]) (hne : ∀ p ∈ (Df, listOf us.toArray n) :: (FR ++ (Y ++ Yr)), p.1 ≠ I2)
    (h1 : @LT.lt Nat _ I2 t) (h2 : ∀ a ∈ Df :: G, @LT.lt Nat _ a t) :
    TurnEnd g L' I2 ito2 (fun m nn => (∀ y, y ∉ ys → m y = m₀ y) ∧ JP Df G FR Yr qs' (b + 1) nn) s₁ { s₁ with heap := h', toks := tk' } := by
  have e : us.toArray.push (Value.ref t) = (us ++ [Value.ref t]).toArray := by simp
  rw [e] at hs
  refine TurnEnd.intro (news' := (Df, listOf (us ++ [Value.ref t]).toArray (n + 1)) :: (FR ++ (((t, tupP z x ta tx) :: Y) ++ Yr))) F N (hs _ (.head _)) ?_ ?_ ⟨hm, us ++ [.ref t], n + 1, (t, tupP z x ta tx) :: Y, rfl, off1, ?_, ?_, by simp; omega⟩
  · intro p hp
    rcases List.mem_cons.mp hp with rfl | hp
    · exact hs _ (.tail _ (.tail _ (.head _)))
    rcases List.mem_append.mp hp with hp | hp
    · exact hs _ (.tail _ (.tail _ (.tail _ (List.mem_append_left _ hp))))
    rcases List.mem_cons.mp hp with rfl | hp
    · exact hs _ (.tail _ (.head _))
    · exact hs _ (.tail _ (.tail _ (.tail _ (List.mem_append_right _ hp))))
  · intro p hp
    rcases List.mem_cons.mp hp with rfl | hp
    · exact hne (Df, listOf us.toArray n) (.head _)
    rcases List.mem_append.mp hp with hp | hp
    · exact hne _ (.tail _ (List.mem_append_left _ hp))
    rcases List.mem_cons.mp hp with rfl | hp
    · exact Nat.ne_of_gt h1
    · exact hne _ (.tail _ (List.mem_append_right _ hp))
  · exact fun a ha => List.forall_mem_cons.mpr ⟨Nat.ne_of_gt (h2 a ha), off a ha⟩
  · rw [hq]
    exact (hT.mono fun _ _ h => h.mono fun a o m => .tail _ m).push ⟨t, ta, tx, rfl, .head _⟩
end
theorem sz6 {a j i b : Nat} (h : a ≤ 600 * j + i) (h1 : j ≤ 10) (h2 : i < b) (h3 : b ≤ 520) : a ≤ 2 ^ 20 := by omega
theorem sz7 {a j b : Nat} (h : a ≤ 600 * j + b) (h2 : b ≤ 520) : a ≤ 600 * (j + 1) := by omega
theorem filt_more {l base : List (Nat × Str)} {i : Nat} {p : Nat × Str} {f : Nat × Str → Bool} (h : l[i]? = some p) : base ++ (l.take (i + 1)).filter f = base ++ (l.take i).filter f ++ (if f p = true then [p] else []) := by
  rw [List.take_add_one, h, List.filter_append, List.append_assoc]
  congr 2
  cases hf : f p <;> simp [hf]
theorem two_names {a b : Addr} {m : Str → Option Value} {x y : Str} {g h : Heap} {L : Addr} (_F : Fr g L h m) (_h1 : m x = some (.ref a)) (_h2 : m y = some (.ref b)) : ∃ a' b', a' = a ∧ b' = b := ⟨a, b, rfl, rfl⟩
section
theorem rows26 : True := by
  k_with_none
  k_with "ktr_enter" =>
    (refine enter_cells (by k_asm) (by k_asm) (by k_asm) (by k_asm) (by k_asm) (by exact rfl) (by exact rfl) (by assumption) (by k_is) (by k_is) (by ktr_room) (by exact BindsTo.of_eq rfl) (by exact rfl) (by decide +kernel) ?_ (by exact rfl) (by exact rfl) (by exact rfl); k_whole; intro g' L' h' tk' cells' FG' F' N' Y' B' X' T' l1 kG'; (try k_lt l1); k_cells Y'; (try dsimp only [List.cons_append, List.nil_append] at N'); (try dsimp only); (try k_fold))
  k_with "ktr_enter" =>
    (refine code_defG (by k_asm) (by k_asm) (by k_asm) (by k_asm) (by k_asm) (by exact rfl) (by exact rfl) (by assumption) (by k_is) (by k_is) (by ktr_room) (by exact BindsTo.of_eq rfl) (by exact locs rfl) ?_ (by exact rfl) (by exact rfl) (by exact rfl) (by decide); k_whole; intro g' L' h' FG' F' N' B' X' T' kG'; (try dsimp only); (try k_fold))
  k_with "k_ne" =>
    (refine neN ?_; (try dsimp only); with_reducible first | assumption | exact Ne.symm (by assumption) | exact Nat.ne_of_gt (by assumption) | exact Nat.ne_of_lt (by assumption) | exact Nat.ne_of_gt (Nat.lt_succ_of_lt (by assumption)) | exact Nat.ne_of_lt (Nat.lt_succ_of_lt (by assumption)))
  k_with "k_lt" =>
    (intro l1; replace l1 := allLt_of l1; (try dsimp only [AllLt] at l1); (repeat (with_reducible (have O8 := And.left l1; replace l1 := And.right l1))))
  k_with "my pick" =>
    (first | (refine Pick1.head ?_; k_extra "k_all") | exact Pick1.tail (by k_ne) (by k_extra "my pick"))
  k_with "my sub" =>
    (first | exact List.forall_mem_nil _ | (refine List.forall_mem_cons.mpr ⟨by k_mem, ?_⟩; k_extra "my sub"))
  k_with "k_room" =>
    ((try simp only [depth_under_make, depth_under_kw, depth_in1, depth_deeper, depth_caller]); (try dsimp only [ktrTop]); omega)
  k_with "my and" =>
    (first | assumption | exact And.intro (by k_ne) (by k_extra "my and") | k_ne)
  k_with "my conj" =>
    (intro l1; (repeat (with_reducible (have O8 := And.left l1; replace l1 := And.right l1))))
  k_with "my off" =>
    ((rename OffL _ _ => O9); (try dsimp only [OffL, Off1, keys, nodeLed, List.map] at O9); revert O9; k_extra "my conj2")
  k_with "CompRest" =>
    (with_unfolding_all first | (refine LCg.CompRest.succ ?_; intro v' I' oI' C' oC' D' m' h' tk' E' hv' hC' hx' F' N' off' ne'; (first | lcg_open hv' | (obtain ⟨t9', hv9'⟩ := hv'; subst hv9')); (try dsimp only [LCg.Off3] at off'); revert off'; k_extra "my conj2"; revert ne'; k_extra "my conj") | refine LCg.CompRest.zero ?_)
  k_with "FinE" =>
    ((unfold LCg.FinE); intro D' h' tk' F' N' o1'; (try dsimp only [LCg.Off1] at o1'); (try dsimp only [List.nil_append, List.cons_append] at N'); (try dsimp only); revert o1'; k_extra "my conj")
  k_with "FinA" =>
    ((unfold LCg.FinA); intro D' h' tk' F' N' o1'; (try dsimp only [LCg.Off1] at o1'); (try dsimp only [List.nil_append, List.cons_append] at N'); (try dsimp only); revert o1'; k_extra "my conj")
  k_with "k_all" =>
    (first | exact List.forall_mem_nil _ | exact Off1.all (by with_reducible assumption) | exact AllLt.ne (by with_reducible assumption) | exact List.forall_mem_cons.mpr ⟨by k_ne, by k_extra "k_all"⟩)
  k_with "my conj2" =>
    (intro l2; (repeat (with_reducible (have l1 := And.left l2; replace l2 := And.right l2; revert l1; k_extra "my conj"))))
  k_with "my same" =>
    (intro z9 hz9; first | rfl | (refine same_step hz9 (by k_mem) ?_; k_extra "my same2") | ((simp only [List.mem_cons, List.not_mem_nil, or_false, not_or] at hz9); first | rfl | (simp only [hz9, if_false, if_neg, over, not_false_eq_true]; done) | (simp [hz9, over]; done)))
  k_with "my same2" =>
    (first | rfl | (refine same_step (by assumption) (by k_mem) ?_; k_extra "my same2"))
  k_with "TurnPost" =>
    (dsimp only [TurnPost])
  k_with "my for" =>
    (k_here; (rename Fr _ _ _ _ => lF'); (with_unfolding_all refine For_turns lF' ?_ (hE := by first | passes_own | assumption); k_whole))
  k_with "execs cons" =>
    (refine wpAny_execs_cons ?_; (try k_fold))
  k_with "room" =>
    (first | exact room2 (by assumption) (by exact rfl) | exact room3 (by assumption) (by exact rfl) | exact room1 (by assumption) (by exact rfl) | exact room0 (by assumption) | exact room4 (by assumption) (by exact rfl))
  k_with "k_room" =>
    (k_extra "room")
  k_with "k_all" =>
    (first | (with_reducible assumption) | exact OffFr.all (by with_reducible assumption) (by k_mem))
  k_with "exec For Name Call cons nil" =>
    (k_extra "my for")
  k_with "exec For Tuple Call cons nil" =>
    (k_extra "my for")
  k_with "my in" =>
    (with_reducible first | assumption | (refine List.mem_append_left _ ?_; assumption) | (refine List.mem_append_right _ ?_; assumption) | (refine List.mem_cons_of_mem _ ?_; k_extra "my in"))
  k_with "my tail" =>
    (intro p9 hp9; k_extra "my in")
  k_with "my subs" =>
    (first | exact List.forall_mem_nil _ | k_extra "my tail" | (refine List.forall_mem_cons.mpr ⟨by k_mem, ?_⟩; k_extra "my subs") | with_reducible (refine List.forall_mem_append.mpr ⟨?_, ?_⟩ <;> k_extra "my subs"))
  k_with "call builtin:list.append" =>
    (k_here; k_dflt (refine app_p (by k_asm) (by k_asm) (by k_extra "my pick") (by assumption) ?_); intro h' F' N')
  k_with "pyIter" =>
    (refine halt ?_)
  k_with "pyIter ref" =>
    (refine halt ?_)
  k_with "call ref" =>
    (k_here; (with_reducible show wpAny _ _ (call (Value.ref 42) _) _ _ _); k_dflt (refine use_ctM (walk_p _ _ _ _ _ (by assumption)) (by k_asm) (by k_asm) (by k_asm) (by k_asm) (by k_asm) (by exact rfl) (fun _ h => nomatch h) (fun _ h => h) (fun _ _ _ h => nomatch h) (by exact Sees.keep (by assumption) (Fr.keep (by k_asm))) (by ktr_room) (by ktr_units) ?_); intro r9 fp9 h9 tk9 F9 N9 P9 R9; obtain ⟨D9, n9, l9, e9, f9, q9⟩ := R9; subst e9; subst f9; (try dsimp only [List.cons_append, List.nil_append] at N9); (try dsimp only); (try k_fold))
  k_with "call ref" =>
    (k_here; (with_reducible show wpAny _ _ (call (Value.ref 56) _) _ _ _); k_dflt (refine use_ctE (id_table_p _ _ _ _ _ _ (by assumption) (by assumption) (by assumption)) (by k_asm) (by k_asm) (by k_asm) (by k_asm) (by k_asm) (by exact rfl) (by exact ⟨Sees.keep (by assumption) (Fr.keep (by k_asm)), Dt.In.keep (by assumption) (Fr.keep (by k_asm))⟩) (by ktr_room) (by ktr_units) ?_); intro r9 fp9 h9 tk9 F9 N9 O9 R9; obtain ⟨Dk, ok, kv, e9, f9, hdk, lok, htab⟩ := R9; subst e9; subst f9; clear O9; (try dsimp only [List.cons_append, List.nil_append] at N9); (try dsimp only); (try k_fold))
  k_with "call ref" =>
    (k_here; (with_reducible show wpAny _ _ (call (Value.ref 63) _) _ _ _); k_dflt (refine use_ctM (references_p _ _ _ _ _ _ _ (by assumption) (by assumption) (by assumption) (by assumption) (by assumption)) (by k_asm) (by k_asm) (by k_asm) (by k_asm) (by k_asm) (by exact rfl) (fun _ h => nomatch h) (fun _ h => h) (fun _ _ _ h => nomatch h) (by exact ⟨Sees.keep (by assumption) (Fr.keep (by k_asm)), Dt.In.keep (by assumption) (Fr.keep (by k_asm))⟩) (by ktr_room) (by ktr_units) ?_); intro r9 fp9 h9 tk9 F9 N9 P9 R9; obtain ⟨Dr, nr, vr, Yr, e9, f9, hTr, hvr⟩ := R9; subst e9; subst f9; (try dsimp only [List.cons_append, List.nil_append] at N9); (try dsimp only); (try k_fold))
  k_with "compareOp NotIn str ref" =>
    (k_here; k_dflt (refine dnotin (by exact dct_of (News.get (by k_asm) (by k_mem)) (by assumption)) (by assumption) (by exact rfl) ?_))
  trivial
theorem broken_p (w : World) (H : TH) (pt : List PN) (T : Dt) (t0 : Tok) (out : List Nat) (hok : T.Ok w) (hpt : PtOk pt out) (hout : OutOk T pt out) :
    Ct w 70 8 160 [.ref H.t, .int ((0 : Nat) : Int) t0, .ref T.D] [] (fun h => Sees w.params H pt h ∧ T.In h) (fun v fp' => ∃ D n vs Y, v = .ref D ∧ fp' = (D, listOf vs.toArray n) :: Y ∧ All2 (PairAt (InL Y)) vs (out.flatMap (brokenAt pt (look T.es) (tabOf (out.map (idRow pt (look T.es))))))) := by
  intro mean mg mb dp un gd cn cs ca ccd cl' outer A₀ base h₀ L m s Q E B F X N T' hk hp hdp hun hret
  obtain ⟨hp1, hp2⟩ := hp
  refine wpAny_call ?_
  k_dflt ktr_enter
  rename GSub _ _ _ => kG
  rename Fr _ _ _ (fun y => List.lookup y _) => F1
  have F2 : Fr _ _ _ (frm [(Str.ofString "dtd", .ref T.D), (Str.ofString "root", .int ((0 : Nat) : Int) t0), (Str.ofString "tree", .ref H.t)]) := F1
  clear F1
  generalize s.toks + List.length _ = tk0
  have hpg := hp2.keep fun b o e => kG b o e List.not_mem_nil
  have hpt2 := hp1.keep fun b o e => kG b o e List.not_mem_nil
  have hz4 := hpt.size
  clear hp1 hp2
  k_steps
  obtain ⟨Dk, Df, rfl, rfl⟩ := two_names F9 (x := Str.ofString "known") (y := Str.ofString "found") (by exact rfl) (by exact rfl)
  have o1 := P9 _ (.tail _ (.head _)) _ (.head _)
  have o2 := P9 _ (.tail _ (.tail _ (.head _))) _ (.head _)
  dsimp only at o1 o2
  refine unhalt (turns_over (l := D9) (vs := nv l9) (n := n9) (news := (Df, listOf [].toArray 0) :: ([(Dk, ok), (D9, listOf (nv l9).toArray n9)] ++ ([] ++ []))) [Str.ofString "element", Str.ofString "attribute", Str.ofString "name"] (fun j _ nn => JP Df [] [(Dk, ok), (D9, listOf (nv l9).toArray n9)] [] ((out.take j).flatMap (brokenAt pt (look T.es) (tabOf (out.map (idRow pt (look T.es)))))) (600 * j) nn) rfl go_name F9 (news_sub N9 (by k_extra "my sub")) (.tail _ (.tail _ (.head _))) ⟨[], 0, [], rfl, List.forall_mem_cons.mpr ⟨by k_ne, List.forall_mem_cons.mpr ⟨by k_ne, List.forall_mem_nil _⟩⟩, (fun _ _ _ h => nomatch h), .nil, Nat.zero_le _⟩ ?_ ?_ ?_)
  · rintro j m nn ⟨us, n, Y, rfl, _⟩
    exact .tail _ (.tail _ (.head _))
  · intro j v I ito h1 tk1 u nn1 hv hJ hlt hne F1 N1
    k_fold
    obtain ⟨us, n, Y, rfl, off1, off2', hT, hul⟩ := hJ
    have off2 := off2' _ (.head _)
    clear off2'
    obtain ⟨z, tz, hz1, rfl⟩ := nv_at hv
    have hza : out[j]? = some z := by rw [← q9, List.getElem?_map, hz1]; rfl
    obtain ⟨q, hq, hat, hks⟩ := hout z (List.mem_of_getElem? hza)
    simp only [List.cons_append, List.nil_append, List.append_nil] at N1 hne off2
    dsimp only [over] at F1
    have hoff1 := off1_of hne
    dsimp only [Off1] at hoff1
    have i1 := hoff1.1
    have i2 := hoff1.2.1
    have i3 := hoff1.2.2.1
    have i4 := hoff1.2.2.2
    k_steps
    have p1 := P9 _ (.tail _ (.head _)) _ (.head _)
    dsimp only at p1
    have offY : ∀ p ∈ Y ++ Yr, p.1 ≠ Df := fun p hp => (List.mem_append.mp hp).elim (off2 p) fun h => P9 _ (.tail _ (.head _)) p (.tail _ h)
    have offI : ∀ p ∈ Y ++ Yr, @Ne Nat p.1 I := fun p hp => (List.mem_append.mp hp).elim (Off1.all i4 p) fun h => P9 _ (.head _) p (.tail _ h)
    have f1 := off1 _ (.head _)
    have f2 := off1 _ (.tail _ (.head _))
    dsimp only at f1 f2
    have hat2 : refsAt pt (look T.es) z = refsOf pt (look T.es) q := by unfold refsAt; rw [hq]
    refine unhalt (turns_over (l := Dr) (vs := vr) (n := nr) (news := (Df, listOf us.toArray n) :: ([(Dr, listOf vr.toArray nr), (I, ito), (Dk, ok), (D9, listOf (nv l9).toArray n9)] ++ (Y ++ Yr))) [Str.ofString "attribute", Str.ofString "name"]
      (fun i _ nn => JP Df [I] [(Dr, listOf vr.toArray nr), (I, ito), (Dk, ok), (D9, listOf (nv l9).toArray n9)] Yr ((out.take j).flatMap (brokenAt pt (look T.es) (tabOf (out.map (idRow pt (look T.es))))) ++ ((refsOf pt (look T.es) q).take i).filter fun p => !(tabOf (out.map (idRow pt (look T.es)))).any fun a => a.1 == p.2) (600 * j + i) nn) rfl go_tuple F9 (news_sub N9 (fun p hp => ?_)) (.tail _ (.head _)) ⟨us, n, Y, rfl, List.forall_mem_cons.mpr ⟨p1, List.forall_mem_cons.mpr ⟨Ne.symm i1, List.forall_mem_cons.mpr ⟨f1, List.forall_mem_cons.mpr ⟨f2, List.forall_mem_nil _⟩⟩⟩⟩, List.forall_mem_cons.mpr ⟨offY, List.forall_mem_cons.mpr ⟨offI, List.forall_mem_nil _⟩⟩, by rw [List.take_zero, List.filter_nil, List.append_nil]; exact hT, hul⟩ ?_ ?_ ?_)
    · rcases List.mem_cons.mp hp with rfl | hp
      · exact .tail _ (.head _)
      rcases List.mem_cons.mp hp with rfl | hp
      · exact .tail _ (.tail _ (.tail _ (.tail _ (List.mem_append_right _ (.head _)))))
      rcases List.mem_cons.mp hp with rfl | hp
      · exact .head _
      rcases List.mem_cons.mp hp with rfl | hp
      · exact .tail _ (.tail _ (.head _))
      rcases List.mem_cons.mp hp with rfl | hp
      · exact .tail _ (.tail _ (.tail _ (.head _)))
      rcases List.mem_append.mp hp with hp | hp
      · cases hp
      rcases List.mem_append.mp hp with hp | hp
      · exact .tail _ (.tail _ (.tail _ (.tail _ (List.mem_append_left _ hp))))
      · exact .tail _ (.tail _ (.tail _ (.tail _ (List.mem_append_right _ (.tail _ hp)))))
    · rintro i m nn ⟨us, n, Y, rfl, _⟩
      exact .tail _ (.head _)
    · intro i v2 I2 ito2 h2 tk2 u2 nn2 hv2 hJ2 hlt2 hne2 F3 N3
      k_fold
      obtain ⟨us3, n3, Y3, rfl, off3a, off3, hT3, hul3⟩ := hJ2
      obtain ⟨pp, hpp, hP⟩ := All2.at hTr hv2
      obtain ⟨t, ta, tx, rfl, ht⟩ := hP
      have ht2 := List.mem_append_right Y3 ht
      have off4 := off3 _ (.head _)
      have t1 := off4 _ ht2
      have t2 := hne2 (Df, _) (.head _)
      have t3 := off3a _ (.head _)
      have t4 := off3a _ (.tail _ (.head _))
      dsimp only at t1 t2 t3 t4
      have hus : us3.length ≤ 2 ^ 20 := sz6 hul3 (Nat.le_trans (Nat.le_of_lt (List.getElem?_eq_some_iff.mp hza).1) hpt.few) (List.getElem?_eq_some_iff.mp hv2).1 hvr
      have N4 := news_sub (l' := (t, tupP pp.1 pp.2 ta tx) :: (I2, ito2) :: (Df, listOf us3.toArray n3) :: (Dr, listOf vr.toArray nr) :: (I, ito) :: (Dk, ok) :: (D9, listOf (nv l9).toArray n9) :: (Y3 ++ Yr)) N3 (fun p hp => (List.mem_cons.mp hp).elim (fun e => e ▸ .tail _ (.tail _ (.tail _ (.tail _ (.tail _ (.tail _ ht2)))))) id)
      clear N3
      dsimp only [over] at F3
      k_steps
      · rename Option.isSome _ = true => hs
        refine jp_skip (by assumption) (by assumption) (fun p hp => .tail _ hp) (by k_extra "my same") off3a off3 hT3 hul3 ?_ hne2
        rw [filt_more hpp, if_neg (by rw [← htab.has, hs]; decide), List.append_nil]
      · rename Option.isSome _ = false => hs
        refine jp_push (z := pp.1) (x := pp.2) (ta := ta) (tx := tx) (by assumption) (by assumption) ?_ (by k_extra "my same") off3a off3 hT3 hul3 ?_ hne2 (by assumption) (List.forall_mem_cons.mpr ⟨by assumption, List.forall_mem_cons.mpr ⟨by assumption, List.forall_mem_nil _⟩⟩)
        · simp only [List.cons_append, List.nil_append]
          k_extra "my subs"
        · rw [filt_more hpp, if_pos (by rw [← htab.has, hs]; rfl), List.append_assoc]
    · intro u2 nn2 h2 tk2 hJ2 F3 N3
      obtain ⟨us3, n3, Y3, rfl, off3a, off3, hT3, hul3⟩ := hJ2
      k_steps
      rw [show vr.length = (refsOf pt (look T.es) q).length from All2.length hTr, List.take_length] at hT3
      refine TurnEnd.intro (news' := (Df, listOf us3.toArray n3) :: ([(Dk, ok), (D9, listOf (nv l9).toArray n9)] ++ (Y3 ++ []))) F3 N3 (.tail _ (.tail _ (.head _))) (fun p hp => ?_) (fun p hp => ?_) ⟨by k_extra "my same", us3, n3, Y3, rfl, List.forall_mem_cons.mpr ⟨f1, List.forall_mem_cons.mpr ⟨f2, List.forall_mem_nil _⟩⟩, fun a ha p hp => off3 a (by rw [List.mem_singleton.mp ha]; exact .head _) p (List.mem_append_left _ (by rwa [List.append_nil] at hp)), ?_, sz7 hul3 hvr⟩
      · rcases List.mem_cons.mp hp with rfl | hp
        · exact .head _
        rcases List.mem_cons.mp hp with rfl | hp
        · exact .tail _ (.tail _ (.tail _ (.head _)))
        rcases List.mem_cons.mp hp with rfl | hp
        · exact .tail _ (.tail _ (.tail _ (.tail _ (.head _))))
        · have hp : p ∈ Y3 ++ [] := hp
          rw [List.append_nil] at hp
          exact .tail _ (.tail _ (.tail _ (.tail _ (.tail _ (List.mem_append_right [] (List.mem_append_left _ hp))))))
      · rcases List.mem_cons.mp hp with rfl | hp
        · exact i1
        rcases List.mem_cons.mp hp with rfl | hp
        · exact i2
        rcases List.mem_cons.mp hp with rfl | hp
        · exact i3
        · have hp : p ∈ Y3 ++ [] := hp
          rw [List.append_nil] at hp
          exact off3 I (.tail _ (.head _)) p (List.mem_append_left _ hp)
      · rw [take_flat hza]
        unfold brokenAt
        rw [hat2]
        exact hT3
  · intro u nn1 h1 tk1 hJ F1 N1
    obtain ⟨us, n, Y, rfl, off1, off2, hT, hul⟩ := hJ
    dsimp only [over] at F1
    simp only [List.cons_append, List.nil_append, List.append_nil] at N1
    k_steps
    rw [show (nv l9).length = out.length by rw [nv_len, ← q9, List.length_map], List.take_length] at hT
    exact back_close2 hret (by assumption) (by assumption) kG (by assumption) (by assumption) ((_, listOf us.toArray n) :: Y) (List.forall_mem_cons.mpr ⟨.head _, fun p hp => .tail _ (.tail _ (.tail _ hp))⟩) ⟨_, n, us, Y, rfl, rfl, hT⟩
end

section
variable {prog : Program} {w : World} {A : Around} {E : Value → Shared → Prop} {s : Shared} {h₀ : Heap} {L : Addr} {m : Str → Option Value} {env : Env}
open LCg in
/-- a comprehension over a list of pairs, with one test; the ledger stays as it is -/
theorem comp_pairs0 {elt c iter : Expr} {x x₂ : Str} {px px₂ tp : Pos} {tk : Nat} {scope : Scope} {cl : List (Str × Addr)} {cp : Pos} {vs : List Value} {n : Nat} {R : Addr} {news Y : Led} {ps : List (Nat × Str)} {Q : Value → Shared → Prop} (K : Nat → List Value → Prop)
    (hh : A.handled = none) (hcell : ∀ y ∈ scope.names, y.2 ≠ .cell) (hkind : scope.kind = .function) (hx : scope.names.lookup x = some .local) (hx₂ : scope.names.lookup x₂ = some .local) (hxx : x ≠ x₂) (hz : vs.length ≤ 2 ^ 20)
    (F : Fr h₀ L s.heap m) (N : News h₀ L s.heap news) (hl : (R, listOf vs.toArray n) ∈ news) (hT : All2 (PairAt (InL Y)) vs ps) (hY : ∀ p ∈ Y, p ∈ news) (h0 : K 0 [])
    (step : ∀ I C D i oC m₂ ys h tk own (E' : Value → Shared → Prop) p ta tx, (@Ne Nat C D) → ps[i]? = some p → K i ys → NsObj oC m₂ → m₂ x = some (.int ((p.1 : Nat) : Int) ta) → m₂ x₂ = some (.str p.2 tx) → (∀ p ∈ news, p.1 ∉ [I] ∧ p.1 ≠ C ∧ p.1 ≠ D) → Fr h₀ L h m → News h₀ L h (own ++ (C, oC) :: (D, lst ys) :: news) →
      wpAny (model prog w) A (isTrue c (compEnvC scope cl C env) (eval c (compEnvC scope cl C env))) (fun ok s₃ => if ok = true then wpAny (model prog w) A (eval elt (compEnvC scope cl C env)) (fun y s₄ => KEnd h₀ L m (own ++ (C, oC) :: (D, lst ys) :: news) (K (i + 1) (ys ++ [y])) { s with heap := h, toks := tk } s₄) E' s₃
        else KEnd h₀ L m (own ++ (C, oC) :: (D, lst ys) :: news) (K (i + 1) ys) { s with heap := h, toks := tk } s₃) E' { s with heap := h, toks := tk })
    (fin : ∀ h' tk D ys, Fr h₀ L h' m → News h₀ L h' ((D, lst ys) :: news) → (∀ p ∈ news, p.1 ≠ D) → K vs.length ys → Q (.ref D) { s with heap := h', toks := tk }) :
    CompGo prog w A E env elt [⟨.Tuple [.Name x px, .Name x₂ px₂] tk tp, iter, [c], 0⟩] scope cl cp Q (.ref R) s := by
  have hat : ∀ j : Nat, ∃ q : Addr × Tok × Tok, ∀ v : Value, vs[j]? = some v → ∃ p : Nat × Str, ps[j]? = some p ∧ v = Value.ref q.1 ∧ (q.1, tupP p.1 p.2 q.2.1 q.2.2) ∈ Y := fun j => by
    cases e : vs[j]? with
    | none => exact ⟨(R, 0, 0), fun v h => nomatch h⟩
    | some v =>
      obtain ⟨p, hp, t, ta, tx, rfl, ht⟩ := All2.at hT e
      exact ⟨(t, ta, tx), fun v h => by cases h; exact ⟨p, hp, rfl, ht⟩⟩
  obtain ⟨q, hq⟩ := Classical.axiomOfChoice hat
  let vals : Nat → Array Value := fun j => match ps[j]? with
    | some p => #[.int ((p.1 : Nat) : Int) (q j).2.1, .str p.2 (q j).2.2]
    | none => #[]
  have hat2 : ∀ j, j < vs.length → ∃ p, ps[j]? = some p ∧ vs[j]? = some (Value.ref (q j).1) ∧ ((q j).1, tupP p.1 p.2 (q j).2.1 (q j).2.2) ∈ Y := fun j hj => by
    obtain ⟨v, hv⟩ : ∃ v, vs[j]? = some v := ⟨vs[j], by simp [hj]⟩
    obtain ⟨p, h1, h2, h3⟩ := hq j v hv
    exact ⟨p, h1, h2 ▸ hv, h3⟩
  have hls : s.heap.IsList R vs.toArray := isList_of (N.get hl)
  have hlt : R < s.heap.objs.size := Heap.lt_size (N.get hl)
  have hne : R ≠ s.heap.objs.size := Nat.ne_of_lt hlt
  have hsz : vs.toArray.size = vs.length := List.size_toArray ..
  have tlt : ∀ j, j < vs.length → (q j).1 < s.heap.objs.size := fun j hj => by
    obtain ⟨p, _, _, h3⟩ := hat2 j hj
    exact Heap.lt_size (N _ (hY _ h3)).1
  have up : ∀ b o, s.heap.get? b = some o → (s.heap.push { cls := .type "list_iterator", data := .fields #[.ref R, .int 0 0] }).get? b = some o := fun b o e => Heap.get?_push_of_some _ e
  have W := WalksU.listOfTuples (prog := prog) (w := w) hh s.heap.objs.size R hne vs.toArray (fun j => (q j).1) vals (fun j hj => by
      rw [hsz] at hj
      obtain ⟨p, _, h2, _⟩ := hat2 j hj
      simpa using h2) (fun j hj => by rw [hsz] at hj; exact Nat.ne_of_lt (tlt j hj))
  have W2 := KTurns.ofWalksU (elts := [.Name x px, .Name x₂ px₂]) (k := tk) (pos := tp) W
  have hLlt := F.ns.lt
  have hfp : ∀ b ∈ s.heap.objs.size :: R :: (List.range vs.toArray.size).map (fun j => (q j).1), b = s.heap.objs.size ∨ (b ∈ news.map (·.1)) := fun b hb => by
    rcases List.mem_cons.mp hb with rfl | hb
    · exact .inl rfl
    rcases List.mem_cons.mp hb with rfl | hb
    · exact .inr (List.mem_map.mpr ⟨_, hl, rfl⟩)
    · obtain ⟨j, hj, rfl⟩ := List.mem_map.mp hb
      rw [List.mem_range, hsz] at hj
      obtain ⟨p, _, _, h3⟩ := hat2 j hj
      exact .inr (List.mem_map.mpr ⟨_, hY _ h3, rfl⟩)
  refine wpAny_pyIter_list hls ?_
  refine comp_all (s := { s with heap := s.heap.push { cls := .type "list_iterator", data := .fields #[.ref R, .int 0 0] } }) (Bd := fun i m' => ∃ p ta tx, ps[i]? = some p ∧ m' x = some (.int ((p.1 : Nat) : Int) ta) ∧ m' x₂ = some (.str p.2 tx)) hcell hkind W2 (fun s Q E' st q => W.self 0 s Q E' st q) (by rw [hsz]; exact hz) ?_ ?_ ?_ ?_ ?_ (F.keeps up) (N.grown up) (fun i ys nn => nn = news ∧ K i ys) ⟨rfl, h0⟩ ?_ ?_ ?_
  · intro hm
    rcases hfp _ hm with e | e
    · exact absurd hLlt (e ▸ Nat.lt_irrefl _)
    · obtain ⟨p, hp, e⟩ := List.mem_map.mp e
      exact (N p hp).2.1 e
  · intro b hb; rw [List.mem_singleton.mp hb]; exact next_is_new F
  · intro p hp hI
    exact absurd (Heap.lt_size (N p hp).1) ((List.mem_singleton.mp hI) ▸ Nat.lt_irrefl _)
  · refine ⟨⟨_, Heap.get?_push_size _ rfl, rfl, rfl⟩, hls.at fun o e => up _ _ e, fun k hk => ?_⟩
    rw [hsz] at hk
    obtain ⟨p, h1, _, h3⟩ := hat2 k hk
    exact ⟨_, up _ _ (N _ (hY _ h3)).1, rfl, 0, by show Data.seq _ _ = Data.seq (vals k) 0; simp only [vals, h1]⟩
  · intro b hb
    show b < (s.heap.push _).objs.size
    rw [Heap.size_push]
    rcases hfp b hb with rfl | e
    · exact Nat.lt_succ_self _
    · obtain ⟨p, hp, rfl⟩ := List.mem_map.mp e
      exact Nat.lt_succ_of_lt (Heap.lt_size (N p hp).1)
  · rintro C i v h hi ⟨t, va, rfl, hva, ht⟩
    rw [hsz] at hi
    obtain ⟨p, h1, _, _⟩ := hat2 i hi
    have hva : va = vals i := hva
    have hv2 : vals i = #[.int ((p.1 : Nat) : Int) (q i).2.1, .str p.2 (q i).2.2] := by simp only [vals, h1]
    rw [hva, hv2] at ht
    exact (asg_pair hh hx hx₂ hxx hkind ht).mono fun m' hm => ⟨p, _, _, h1, hm.1, hm.2⟩
  · intro C D i oC m₂ ys nn h tk' own E' h1 h2 _ h3 h4 h5 h6 h7 h8 h9
    obtain ⟨rfl, hK⟩ := h3
    obtain ⟨p, ta, tx, e, hm1, hm2⟩ := h5
    refine wpAny_tests_one ?_
    refine wpAny_mono (step _ C D i oC m₂ ys h tk' own E' p ta tx h1 e hK h4 hm1 hm2 h6 h8 h9) (fun ok s₃ h => ?_) fun _ _ e => e
    cases ok with
    | true => exact wpAny_mono h (fun y s₄ h => KEnd.g h4 h6 h) fun _ _ e => e
    | false => exact KEnd.g h4 h6 h
  · intro h' tk' D ys nn F' N' off' ⟨e, hK⟩
    subst e
    rw [hsz] at hK
    exact fin h' tk' D ys F' N' (fun p hp => (off' p hp).2) hK
end
noncomputable def refersTo (pt : List PN) (dk : Str → List (Str × Str)) (x : Str) (i : Nat) : Bool := (refsAt pt dk i).any fun p => p.2 == x
/-- referring, between its turns -/
inductive JF (pt : List PN) (dk : Str → List (Str × Str)) (x : Str) (out : List Nat) (Df c D9 : Addr) (oc o9 : Obj) (j : Nat) (nn : Led) : Prop
  | mk (fl : List (Nat × Tok)) (n : Nat) (p1 : nn = [(Df, listOf (nv fl).toArray n), (c, oc), (D9, o9)]) (p2 : fl.map (·.1) = (out.take j).filter (refersTo pt dk x)) (p3 : fl.length ≤ j) : JF pt dk x out Df c D9 oc o9 j nn
theorem cnt_yes {l : List (Nat × Str)} {i n : Nat} {p : Nat × Str} {f : Nat × Str → Bool} (h : l[i]? = some p) (hp : f p = true) (hK : n = ((l.take i).filter f).length) : n + 1 = ((l.take (i + 1)).filter f).length := by
  rw [List.take_add_one, h, List.filter_append, List.length_append, hK]; simp [hp]
theorem cnt_no {l : List (Nat × Str)} {i n : Nat} {p : Nat × Str} {f : Nat × Str → Bool} (h : l[i]? = some p) (hp : f p = false) (hK : n = ((l.take i).filter f).length) : n = ((l.take (i + 1)).filter f).length := by
  rw [List.take_add_one, h, List.filter_append, List.length_append, hK]; simp [hp]
theorem refers_of {pt : List PN} {dk : Str → List (Str × Str)} {x : Str} {z : Nat} {q : PN} {ys : List Value} (hq : pt[z]? = some q) (hK : ys.length = (((refsOf pt dk q).take (refsOf pt dk q).length).filter fun p => p.2 == x).length) : refersTo pt dk x z = !ys.isEmpty := by
  unfold refersTo refsAt
  rw [hq]
  rw [List.take_length] at hK
  cases ys with
  | nil =>
    have h0 := List.length_eq_zero_iff.mp hK.symm
    show _ = false
    rw [List.any_eq_false]
    intro p hp h2
    have : p ∈ (refsOf pt dk q).filter fun p => p.2 == x := List.mem_filter.mpr ⟨hp, h2⟩
    rw [h0] at this; cases this
  | cons y r =>
    show _ = true
    cases hf : (refsOf pt dk q).filter fun p => p.2 == x with
    | nil => rw [hf] at hK; cases hK
    | cons p l =>
      have hp : p ∈ (refsOf pt dk q).filter fun p => p.2 == x := by rw [hf]; exact .head _
      exact List.any_eq_true.mpr ⟨p, (List.mem_filter.mp hp).1, (List.mem_filter.mp hp).2⟩
theorem filt_step {out : List Nat} {f : Nat → Bool} {j z : Nat} {l : List Nat} (h : out[j]? = some z) (hl : l = (out.take j).filter f) : (if f z = true then l ++ [z] else l) = (out.take (j + 1)).filter f := by
  rw [List.take_add_one, h, List.filter_append, hl]
  cases hf : f z <;> simp [hf]
section
theorem rows27 : True := by
  k_with_none
  k_with "ktr_enter" =>
    (refine enter_cells (by k_asm) (by k_asm) (by k_asm) (by k_asm) (by k_asm) (by exact rfl) (by exact rfl) (by assumption) (by k_is) (by k_is) (by ktr_room) (by exact BindsTo.of_eq rfl) (by exact rfl) (by decide +kernel) ?_ (by exact rfl) (by exact rfl) (by exact rfl); k_whole; intro g' L' h' tk' cells' FG' F' N' Y' B' X' T' l1 kG'; (try k_lt l1); k_cells Y'; (try dsimp only [List.cons_append, List.nil_append] at N'); (try dsimp only); (try k_fold))
  k_with "ktr_enter" =>
    (refine code_defG (by k_asm) (by k_asm) (by k_asm) (by k_asm) (by k_asm) (by exact rfl) (by exact rfl) (by assumption) (by k_is) (by k_is) (by ktr_room) (by exact BindsTo.of_eq rfl) (by exact locs rfl) ?_ (by exact rfl) (by exact rfl) (by exact rfl) (by decide); k_whole; intro g' L' h' FG' F' N' B' X' T' kG'; (try dsimp only); (try k_fold))
  k_with "k_ne" =>
    (refine neN ?_; (try dsimp only); with_reducible first | assumption | exact Ne.symm (by assumption) | exact Nat.ne_of_gt (by assumption) | exact Nat.ne_of_lt (by assumption) | exact Nat.ne_of_gt (Nat.lt_succ_of_lt (by assumption)) | exact Nat.ne_of_lt (Nat.lt_succ_of_lt (by assumption)))
  k_with "k_lt" =>
    (intro l1; replace l1 := allLt_of l1; (try dsimp only [AllLt] at l1); (repeat (with_reducible (have O8 := And.left l1; replace l1 := And.right l1))))
  k_with "my pick" =>
    (first | (refine Pick1.head ?_; k_extra "k_all") | exact Pick1.tail (by k_ne) (by k_extra "my pick"))
  k_with "my sub" =>
    (first | exact List.forall_mem_nil _ | (refine List.forall_mem_cons.mpr ⟨by k_mem, ?_⟩; k_extra "my sub"))
  k_with "k_room" =>
    ((try simp only [depth_under_make, depth_under_kw, depth_in1, depth_deeper, depth_caller]); (try dsimp only [ktrTop]); omega)
  k_with "my and" =>
    (first | assumption | exact And.intro (by k_ne) (by k_extra "my and") | k_ne)
  k_with "my conj" =>
    (intro l1; (repeat (with_reducible (have O8 := And.left l1; replace l1 := And.right l1))))
  k_with "my off" =>
    ((rename OffL _ _ => O9); (try dsimp only [OffL, Off1, keys, nodeLed, List.map] at O9); revert O9; k_extra "my conj2")
  k_with "CompRest" =>
    (with_unfolding_all first | (refine LCg.CompRest.succ ?_; intro v' I' oI' C' oC' D' m' h' tk' E' hv' hC' hx' F' N' off' ne'; (first | lcg_open hv' | (obtain ⟨t9', hv9'⟩ := hv'; subst hv9')); (try dsimp only [LCg.Off3] at off'); revert off'; k_extra "my conj2"; revert ne'; k_extra "my conj") | refine LCg.CompRest.zero ?_)
  k_with "FinE" =>
    ((unfold LCg.FinE); intro D' h' tk' F' N' o1'; (try dsimp only [LCg.Off1] at o1'); (try dsimp only [List.nil_append, List.cons_append] at N'); (try dsimp only); revert o1'; k_extra "my conj")
  k_with "FinA" =>
    ((unfold LCg.FinA); intro D' h' tk' F' N' o1'; (try dsimp only [LCg.Off1] at o1'); (try dsimp only [List.nil_append, List.cons_append] at N'); (try dsimp only); revert o1'; k_extra "my conj")
  k_with "k_all" =>
    (first | exact List.forall_mem_nil _ | exact Off1.all (by with_reducible assumption) | exact AllLt.ne (by with_reducible assumption) | exact List.forall_mem_cons.mpr ⟨by k_ne, by k_extra "k_all"⟩)
  k_with "my conj2" =>
    (intro l2; (repeat (with_reducible (have l1 := And.left l2; replace l2 := And.right l2; revert l1; k_extra "my conj"))))
  k_with "my same" =>
    (intro z9 hz9; first | rfl | (refine same_step hz9 (by k_mem) ?_; k_extra "my same2") | ((simp only [List.mem_cons, List.not_mem_nil, or_false, not_or] at hz9); first | rfl | (simp only [hz9, if_false, if_neg, over, not_false_eq_true]; done) | (simp [hz9, over]; done)))
  k_with "my same2" =>
    (first | rfl | (refine same_step (by assumption) (by k_mem) ?_; k_extra "my same2"))
  k_with "TurnPost" =>
    (dsimp only [TurnPost])
  k_with "my for" =>
    (k_here; (rename Fr _ _ _ _ => lF'); (with_unfolding_all refine For_turns lF' ?_ (hE := by first | passes_own | assumption); k_whole))
  k_with "execs cons" =>
    (refine wpAny_execs_cons ?_; (try k_fold))
  k_with "room" =>
    (first | exact room2 (by assumption) (by exact rfl) | exact room3 (by assumption) (by exact rfl) | exact room1 (by assumption) (by exact rfl) | exact room0 (by assumption) | exact room4 (by assumption) (by exact rfl))
  k_with "k_room" =>
    (k_extra "room")
  k_with "k_all" =>
    (first | (with_reducible assumption) | exact OffFr.all (by with_reducible assumption) (by k_mem))
  k_with "exec For Name Call cons nil" =>
    (k_extra "my for")
  k_with "my in" =>
    (with_reducible first | assumption | (refine List.mem_append_left _ ?_; assumption) | (refine List.mem_append_right _ ?_; assumption) | (refine List.mem_cons_of_mem _ ?_; k_extra "my in"))
  k_with "my tail" =>
    (intro p9 hp9; k_extra "my in")
  k_with "call builtin:list.append" =>
    (k_here; k_dflt (refine app_p (by k_asm) (by k_asm) (by k_extra "my pick") (by assumption) ?_); intro h' F' N')
  k_with "pyIter" =>
    (refine halt ?_)
  k_with "pyIter ref" =>
    (refine halt ?_)
  k_with "eval ListComp" =>
    (k_here; k_dflt (refine comp_eval (by k_asm) (by exact rfl) (by exact rfl) (by decide) ?_))
  k_with "compareOp NotEq ref ref" =>
    (k_here; (with_reducible show wpAny _ _ (compareOp CmpOp.NotEq (Value.ref _) (Value.ref _)) _ _ _); k_dflt (refine ne_nil_rule (News.isList (by k_asm) (by k_mem)) (News.isList (by k_asm) (by k_mem)) (by ke_room) ?_))
  k_with "CompGo" =>
    (refine halt ?_)
  k_with "call ref" =>
    (k_here; (with_reducible show wpAny _ _ (call (Value.ref 42) _) _ _ _); k_dflt (refine use_ctM (walk_p _ _ _ _ _ (by assumption)) (by k_asm) (by k_asm) (by k_asm) (by k_asm) (by k_asm) (by exact rfl) (fun _ h => nomatch h) (fun _ h => h) (fun _ _ _ h => nomatch h) (by exact Sees.keep (by assumption) (Fr.keep (by k_asm))) (by ktr_room) (by ktr_units) ?_); intro r9 fp9 h9 tk9 F9 N9 P9 R9; obtain ⟨D9, n9, l9, e9, f9, q9⟩ := R9; subst e9; subst f9; (try dsimp only [List.cons_append, List.nil_append] at N9); (try dsimp only); (try k_fold))
  k_with "call ref" =>
    (k_here; (with_reducible show wpAny _ _ (call (Value.ref 63) _) _ _ _); k_dflt (refine use_ctM (references_p _ _ _ _ _ _ _ (by assumption) (by assumption) (by assumption) (by assumption) (by assumption)) (by k_asm) (by k_asm) (by k_asm) (by k_asm) (by k_asm) (by exact rfl) (fun _ h => nomatch h) (fun _ h => h) (fun _ _ _ h => nomatch h) (by exact ⟨Sees.keep (by assumption) (Fr.keep (by k_asm)), Dt.In.keep (by assumption) (Fr.keep (by k_asm))⟩) (by ktr_room) (by ktr_units) ?_); intro r9 fp9 h9 tk9 F9 N9 P9 R9; obtain ⟨Dr, nr, vr, Yr, e9, f9, hTr, hvr⟩ := R9; subst e9; subst f9; (try dsimp only [List.cons_append, List.nil_append] at N9); (try dsimp only); (try k_fold))
  trivial
theorem referring_p (w : World) (H : TH) (pt : List PN) (T : Dt) (t0 tx : Tok) (x : Str) (out : List Nat) (hok : T.Ok w) (hpt : PtOk pt out) (hout : OutOk T pt out) :
    Ct w 75 8 160 [.ref H.t, .int ((0 : Nat) : Int) t0, .ref T.D, .str x tx] [] (fun h => Sees w.params H pt h ∧ T.In h) (fun v fp' => ∃ D n l, v = .ref D ∧ fp' = [(D, listOf (nv l).toArray n)] ∧ l.map (·.1) = out.filter (refersTo pt (look T.es) x)) := by
  intro mean mg mb dp un gd cn cs ca ccd cl' outer A₀ base h₀ L m s Q E B F X N T' hk hp hdp hun hret
  obtain ⟨hp1, hp2⟩ := hp
  refine wpAny_call ?_
  k_dflt ktr_enter
  rename GSub _ _ _ => kG
  rename Fr _ _ _ (bindL _ _ _) => F1
  have F2 : Fr _ _ _ (fun y => if y = Str.ofString "dtd" then some (.ref T.D) else if y = Str.ofString "root" then some (.int ((0 : Nat) : Int) t0) else if y = Str.ofString "tree" then some (.ref H.t) else none) := F1
  clear F1
  rename _ = Data.cell _ => c1
  replace c1 : _ = Data.cell (some (Value.str x tx)) := c1
  have hpg := hp2.keep fun b o e => kG b o e List.not_mem_nil
  have hpt2 := hp1.keep fun b o e => kG b o e List.not_mem_nil
  have hz4 := hpt.size
  clear hp1 hp2
  k_steps
  obtain ⟨Df, rfl⟩ := name_front N9
  have o1 := P9 _ (.head _) _ (.head _)
  have o2 := P9 _ (.tail _ (.head _)) _ (.head _)
  dsimp only at o1 o2
  refine unhalt (turns_over (l := D9) (vs := nv l9) (n := n9) [Str.ofString "element"] (fun j _ nn => JF pt (look T.es) x out Df _ D9 _ (listOf (nv l9).toArray n9) j nn) rfl go_name F9 N9 (.tail _ (.tail _ (.head _))) ⟨[], 0, rfl, rfl, Nat.le_refl _⟩ ?_ ?_ ?_)
  · rintro j m nn ⟨fl, n, rfl, _⟩
    exact .tail _ (.tail _ (.head _))
  · intro j v I ito h1 tk1 u nn1 hv hJ hlt hne F1 N1
    k_fold
    obtain ⟨fl, n, rfl, hfl, hfn⟩ := hJ
    obtain ⟨z, tz, hz1, rfl⟩ := nv_at hv
    have hza : out[j]? = some z := by rw [← q9, List.getElem?_map, hz1]; rfl
    obtain ⟨q, hq, hat, hks⟩ := hout z (List.mem_of_getElem? hza)
    dsimp only [over] at F1
    have hoff1 := off1_of hne
    dsimp only [Off1] at hoff1
    have i1 := hoff1.1
    have i2 := hoff1.2.1
    have i3 := hoff1.2.2.1
    have i4 := hoff1.2.2.2
    k_steps
    refine unhalt (comp_pairs0 (R := Dr) (Y := Yr) (n := nr) (fun i ys => ys.length = (((refsOf pt (look T.es) q).take i).filter fun p => p.2 == x).length) (by exact rfl) (by decide) rfl rfl rfl (by decide) (Nat.le_trans hvr (by decide)) F9 N9 (by k_mem) hTr (by k_extra "my tail") rfl ?_ ?_)
    · intro I3 C D i oC m₂ ys h3 tk3 own E' p ta tx hCD hp hK hC hm1 hm2 off F3 N3
      have N4 := news_swap N3
      dsimp only [List.cons_append] at N4
      k_steps
      · rename (p.2 == x) = true => hb
        exact ⟨h3, _, rfl, F3, N3, by rw [List.length_append]; exact cnt_yes hp hb hK⟩
      · rename (p.2 == x) = false => hb
        exact ⟨h3, _, rfl, F3, N3, cnt_no hp hb hK⟩
    · intro h3 tk3 D ys F3 N3 off hK
      have d1 := P9 _ (.tail _ (.head _)) _ (.head _)
      have d2 : ∀ p ∈ Yr, p.1 ≠ Df := fun p hp => P9 _ (.tail _ (.head _)) p (.tail _ hp)
      have e1 := off (Df, _) (.tail _ (.head _))
      have hz5 : (nv fl).length ≤ 2 ^ 20 := by
        rw [nv_len]; exact Nat.le_trans hfn (Nat.le_trans (Nat.le_of_lt (List.getElem?_eq_some_iff.mp hza).1) (Nat.le_trans hpt.few (by decide)))
      dsimp only at d1 e1
      rw [All2.length hTr] at hK
      have hrf := refers_of hq hK
      have hst := filt_step (f := refersTo pt (look T.es) x) hza hfl
      k_steps
      · rename ys.isEmpty = true => hb
        rw [if_neg (by rw [hrf, hb]; decide)] at hst
        exact TurnEnd.intro (by assumption) (by assumption) (by k_mem) (by k_extra "my sub") hne ⟨by k_extra "my same", fl, n, rfl, hst, Nat.le_succ_of_le hfn⟩
      · rename ys.isEmpty = false => hb
        rw [if_pos (by rw [hrf, hb]; rfl)] at hst
        rename News _ _ _ ((Df, _) :: _) => N5
        rw [nv_push2] at N5
        exact TurnEnd.intro (news' := [(Df, listOf (nv (fl ++ [(z, tz)])).toArray (n + 1)), (_, _), (D9, _)]) (by assumption) N5 (by k_mem) (by k_extra "my sub") (List.forall_mem_cons.mpr ⟨i1, List.forall_mem_cons.mpr ⟨i2, List.forall_mem_cons.mpr ⟨i3, List.forall_mem_nil _⟩⟩⟩) ⟨by k_extra "my same", fl ++ [(z, tz)], n + 1, rfl, by rw [List.map_append]; exact hst, by rw [List.length_append]; exact Nat.succ_le_succ hfn⟩
  · intro u nn1 h1 tk1 hJ F1 N1
    obtain ⟨fl, n, rfl, hfl, hfn⟩ := hJ
    dsimp only [over] at F1
    k_steps
    rw [show (nv l9).length = out.length by rw [nv_len, ← q9, List.length_map], List.take_length] at hfl
    exact back_close2 hret (by assumption) (by assumption) kG (by assumption) (by assumption) [(_, listOf (nv fl).toArray n)] (List.forall_mem_cons.mpr ⟨.head _, List.forall_mem_nil _⟩) ⟨_, n, fl, rfl, rfl, hfl⟩
end

section
variable {prog : Program} {w : World} {A : Around} {E : Value → Shared → Prop} {s : Shared} {h₀ : Heap} {L : Addr} {m : Str → Option Value} {env : Env}
open LCg in
/-- a comprehension over a list of any values, its names told by an invariant -/
theorem comp_list {elt iter : Expr} {ifs : List Expr} {x : Str} {px : Pos} {scope : Scope} {cl : List (Str × Addr)} {cp : Pos} {l : Addr} {vs : List Value} {news : Led} {Q : Value → Shared → Prop} (J : Nat → List Value → Led → Prop)
    (hh : A.handled = none) (hcell : ∀ y ∈ scope.names, y.2 ≠ .cell) (hkind : scope.kind = .function) (hx : scope.names.lookup x = some .local) (hls : s.heap.IsList l vs.toArray) (hz : vs.length ≤ 2 ^ 20)
    (F : Fr h₀ L s.heap m) (N : News h₀ L s.heap news) (hL : L ≠ l) (h0 : J 0 [] news)
    (step : ∀ I C D i v oC m₂ ys nn h tk own (E' : Value → Shared → Prop), (@Ne Nat C D) → vs[i]? = some v → J i ys nn → NsObj oC m₂ → m₂ x = some v → (∀ p ∈ nn, p.1 ∉ [I] ∧ p.1 ≠ C ∧ p.1 ≠ D) → (∃ oI, (I, oI) ∈ own) → Fr h₀ L h m → News h₀ L h (own ++ (C, oC) :: (D, lst ys) :: nn) →
      wpAny (model prog w) A (testsC ifs (compEnvC scope cl C env)) (fun ok s₃ => if ok = true then wpAny (model prog w) A (eval elt (compEnvC scope cl C env)) (fun y s₄ => GEnd h₀ L m [I] own C D ys (J (i + 1) (ys ++ [y])) { s with heap := h, toks := tk } s₄) E' s₃
        else GEnd h₀ L m [I] own C D ys (J (i + 1) ys) { s with heap := h, toks := tk } s₃) E' { s with heap := h, toks := tk })
    (fin : ∀ h' tk D ys nn, Fr h₀ L h' m → News h₀ L h' ((D, lst ys) :: nn) → (∀ p ∈ nn, p.1 ≠ D) → J vs.length ys nn → Q (.ref D) { s with heap := h', toks := tk }) :
    CompGo prog w A E env elt [⟨.Name x px, iter, ifs, 0⟩] scope cl cp Q (.ref l) s := by
  have hlt : l < s.heap.objs.size := let ⟨o, e, _⟩ := hls; Heap.lt_size e
  have hne : l ≠ s.heap.objs.size := Nat.ne_of_lt hlt
  have hsz : vs.toArray.size = vs.length := List.size_toArray ..
  have W : Walks prog w A s.heap.objs.size [s.heap.objs.size, l] [s.heap.objs.size] vs.length _ _ := hsz ▸ Walks.list hh s.heap.objs.size l hne vs.toArray
  refine wpAny_pyIter_list hls (comp_all (s := { s with heap := s.heap.push { cls := .type "list_iterator", data := .fields #[.ref l, .int 0 0] } }) (Bd := fun i m' => ∃ v, vs[i]? = some v ∧ m' x = some v) hcell hkind
    (KTurns.ofWalks (target := .Name x px) W (fun i v s Q E st q => go_name (l := l) s v _ Q E i st.1 q)) (fun s Q E' st q => W.self 0 s Q E' st q) hz ?_ (fun b hb => List.mem_singleton.mp hb ▸ next_is_new F) (fun p hp hI => absurd (Heap.lt_size (N p hp).1) ((List.mem_singleton.mp hI) ▸ Nat.lt_irrefl _))
    ⟨⟨_, Heap.get?_push_size _ rfl, rfl, rfl⟩, hls.at fun o e => Heap.get?_push_of_some _ e⟩ ?_ (F.push _) (fun p hp => ⟨Heap.get?_push_of_some _ (N p hp).1, (N p hp).2⟩) J h0 ?_ ?_ fun h' tk D ys nn F' N' off => fin h' tk D ys nn F' N' fun p hp => (off p hp).2)
  · intro hm
    rcases List.mem_cons.mp hm with e | hm
    · exact absurd F.ns.lt (e ▸ Nat.lt_irrefl _)
    · exact hL (List.mem_singleton.mp hm)
  · intro b hb
    show b < (s.heap.push _).objs.size
    rw [Heap.size_push]
    rcases List.mem_cons.mp hb with rfl | hb
    · exact Nat.lt_succ_self _
    · rw [List.mem_singleton.mp hb]; exact Nat.lt_succ_of_lt hlt
  · intro C i v h hi hP
    exact (asg_name hx hkind).mono fun m' hm => ⟨v, by simpa using hP, hm⟩
  · rintro C D i oC m₂ ys nn h tk own E' h1 h2 ⟨h₁, st, hk⟩ h3 h4 ⟨v, hv, hm⟩ h6 _ F' N'
    obtain ⟨o, e, _⟩ := st.1
    exact step _ C D i v oC m₂ ys nn h tk own E' h1 hv h3 h4 hm h6 ⟨o, hk _ (.head _) (next_is_new F) o e⟩ F' N'
open LCg in
/-- a comprehension over a list, with no test -/
theorem comp_map {elt iter : Expr} {x : Str} {px : Pos} {scope : Scope} {cl : List (Str × Addr)} {cp : Pos} {l : Addr} {vs : List Value} {news : Led} {Q : Value → Shared → Prop} (J : Nat → List Value → Led → Prop)
    (hh : A.handled = none) (hcell : ∀ y ∈ scope.names, y.2 ≠ .cell) (hkind : scope.kind = .function) (hx : scope.names.lookup x = some .local) (hls : s.heap.IsList l vs.toArray) (hz : vs.length ≤ 2 ^ 20)
    (F : Fr h₀ L s.heap m) (N : News h₀ L s.heap news) (hL : L ≠ l) (h0 : J 0 [] news)
    (step : ∀ I C D i v oC m₂ ys nn h tk own (E' : Value → Shared → Prop), (@Ne Nat C D) → vs[i]? = some v → J i ys nn → NsObj oC m₂ → m₂ x = some v → (∀ p ∈ nn, p.1 ∉ [I] ∧ p.1 ≠ C ∧ p.1 ≠ D) → (∃ oI, (I, oI) ∈ own) → Fr h₀ L h m → News h₀ L h (own ++ (C, oC) :: (D, lst ys) :: nn) →
      wpAny (model prog w) A (eval elt (compEnvC scope cl C env)) (fun y s₄ => GEnd h₀ L m [I] own C D ys (J (i + 1) (ys ++ [y])) { s with heap := h, toks := tk } s₄) E' { s with heap := h, toks := tk })
    (fin : ∀ h' tk D ys nn, Fr h₀ L h' m → News h₀ L h' ((D, lst ys) :: nn) → (∀ p ∈ nn, p.1 ≠ D) → J vs.length ys nn → Q (.ref D) { s with heap := h', toks := tk }) :
    CompGo prog w A E env elt [⟨.Name x px, iter, [], 0⟩] scope cl cp Q (.ref l) s :=
  comp_list J hh hcell hkind hx hls hz F N hL h0 (fun I C D i v oC m₂ ys nn h tk own E' a b c d e f g F' N' => wpAny_tests_nil (step I C D i v oC m₂ ys nn h tk own E' a b c d e f g F' N')) fin
end
/-- an element's kinds as they lie -/
inductive Kinds (w : World) (h : Heap) (K : Addr) (ks : List (Str × Str)) (el : Str) : Prop
  | mk (oK oe : Obj) (kvs kv : List (Str × Value)) (ke : Addr) (p1 : h.get? K = some oK) (p2 : oK.IsDictOf (strKind PR w) kvs) (p3 : valueAt kvs el = some (.ref ke)) (p4 : h.get? ke = some oe) (p5 : oe.IsDictOf (strKind PR w) kv) (p6 : (ke == sysModules) = false) (p7 : KV kv ks) : Kinds w h K ks el
theorem Kinds.keep {w : World} {h g : Heap} {K : Addr} {ks : List (Str × Str)} {el : Str} (x : Kinds w h K ks el) (k : ∀ b o, h.get? b = some o → g.get? b = some o) : Kinds w g K ks el := by
  obtain ⟨oK, oe, kvs, kv, ke, p1, p2, p3, p4, p5, p6, p7⟩ := x
  exact ⟨oK, oe, kvs, kv, ke, k _ _ p1, p2, p3, k _ _ p4, p5, p6, p7⟩
theorem kv_cases {kv : List (Str × Value)} {ks : List (Str × Str)} (h : KV kv ks) (n : Str) : (valueAt kv n = none ∧ ks.lookup n = none) ∨ ∃ k t, valueAt kv n = some (.str k t) ∧ ks.lookup n = some k := by
  induction h with
  | nil => exact .inl ⟨rfl, rfl⟩
  | @cons p q kv ks r _ ih =>
    obtain ⟨a, b⟩ := p
    obtain ⟨k, z⟩ := q
    obtain ⟨e, t, e2⟩ := r
    dsimp only at e e2
    subst e; subst e2
    by_cases hq : n = a
    · subst hq
      exact .inr ⟨z, t, by simp [valueAt], by simp [List.lookup_cons]⟩
    · have h1 : valueAt ((a, Value.str z t) :: kv) n = valueAt kv n := by
        unfold valueAt
        rw [List.find?_cons_of_neg (by simp; exact fun e => hq e.symm)]
      have h2 : List.lookup n ((a, z) :: ks) = List.lookup n ks := by
        rw [List.lookup_cons, (by simpa using hq : (n == a) = false)]
      rw [h1, h2]; exact ih
theorem isRef_none {ks : List (Str × Str)} {n : Str} (h : ks.lookup n = none) : isRef ks n = false := by unfold isRef; rw [h]
/-- a row's pairs -/
noncomputable def attPairs (ks : List (Str × Str)) (a : At) : List (Nat × Str) := if isRef ks a.name = true then a.words.map fun x => (a.idx, x) else []
noncomputable def rowPairs (ks : List (Str × Str)) (atts : List At) : List (Nat × Str) := atts.flatMap (attPairs ks)
/-- _law_pairs, between its turns -/
inductive JQ (ks : List (Str × Str)) (atts : List At) (Df c : Addr) (j : Nat) : Led → Prop
  | mk (vs : List Value) (n : Nat) (Y : Led) (oc : Obj) (cv : Option Value) (hc : oc.data = .cell cv) (ne : @Ne Nat Df c) (off : OffFr [(Df, listOf vs.toArray n), (c, oc)] Y) (hT : All2 (PairAt (InL Y)) vs (rowPairs ks (atts.take j))) (hz : vs.length ≤ 13 * j) : JQ ks atts Df c j ((Df, listOf vs.toArray n) :: (c, oc) :: Y)
/-- the pairs of a list of words, being made -/
inductive JT (FR : Led) (z : Nat) (words : List Str) (i : Nat) (ys : List Value) : Led → Prop
  | mk (Z : Led) (off : OffFr FR Z) (hT : All2 (PairAt (InL Z)) ys ((words.take i).map fun x => (z, x))) : JT FR z words i ys (Z ++ FR)
theorem jt_start {FR : Led} {z : Nat} {words : List Str} : JT FR z words 0 [] FR := .mk [] (fun _ _ _ h => nomatch h) .nil
theorem jt_close {g h' : Heap} {L C D I t : Addr} {m m₂ : Str → Option Value} {FR own Z full : Led} {oC oI : Obj} {ys : List Value} {z i : Nat} {words : List Str} {x : Str} {ta tx : Tok} {s : Shared} {tk : Nat} (F : Fr g L h' m) (N : News g L h' full) (k0 : (t, tupP z x ta tx) ∈ full) (k1 : (C, oC) ∈ full) (k2 : (D, LCg.lst ys) ∈ full) (k3 : ∀ p ∈ own ++ (Z ++ FR), p ∈ full)
    (hC : LCg.NsObj oC m₂) (off : ∀ p ∈ Z ++ FR, p.1 ∉ [I] ∧ p.1 ≠ C ∧ p.1 ≠ D) (hI : (I, oI) ∈ own) (lt : AllLt t (own ++ (Z ++ FR))) (h1 : @LT.lt Nat _ C t) (h2 : @LT.lt Nat _ D t) (offZ : OffFr FR Z) (hT : All2 (PairAt (InL Z)) ys ((words.take i).map fun x => (z, x))) (hx : words[i]? = some x) :
    GEnd g L m [I] own C D ys (JT FR z words (i + 1) (ys ++ [.ref t])) s { s with heap := h', toks := tk } := by
  have lt' := allLt_lt lt
  refine ⟨h', tk, oC, ((t, tupP z x ta tx) :: Z) ++ FR, rfl, F, ⟨m₂, hC⟩, fun p hp => ?_, fun p hp => ?_, .mk ((t, tupP z x ta tx) :: Z) (fun q hq p hp => ?_) ?_⟩
  · rcases List.mem_append.mp hp with hp | hp
    · exact N p (k3 p (List.mem_append_left _ hp))
    rcases List.mem_cons.mp hp with rfl | hp
    · exact N _ k1
    rcases List.mem_cons.mp hp with rfl | hp
    · exact N _ k2
    rcases List.mem_cons.mp hp with rfl | hp
    · exact N _ k0
    · exact N p (k3 p (List.mem_append_right _ hp))
  · rcases List.mem_cons.mp hp with rfl | hp
    · exact ⟨fun h => Nat.ne_of_gt (lt' _ (List.mem_append_left _ hI)) (List.mem_singleton.mp h), Nat.ne_of_gt h1, Nat.ne_of_gt h2⟩
    · exact off p hp
  · rcases List.mem_cons.mp hp with rfl | hp
    · exact Nat.ne_of_gt (lt' q (List.mem_append_right _ (List.mem_append_right _ hq)))
    · exact offZ q hq p hp
  · have e2 : (words.take (i + 1)).map (fun x => (z, x)) = ((words.take i).map fun x => (z, x)) ++ [(z, x)] := by
      rw [List.take_add_one, hx, List.map_append]; rfl
    rw [e2]
    exact (hT.mono fun _ _ h => h.mono fun a o m => .tail _ m).push ⟨t, ta, tx, rfl, .head _⟩
theorem jq_close {ks : List (Str × Str)} {atts : List At} {Df c I L : Addr} {ito oc oc' : Obj} {cv : Value} {vs vs' : List Value} {n n' j : Nat} {Y full : Led} {g h' : Heap} {m' m₀ : Str → Option Value} {ys : List Str} {s₁ : Shared} {tk : Nat}
    (F : Fr g L h' m') (N : News g L h' full) (hc : oc.data = .cell (some cv)) (i1 : @Ne Nat Df I) (i2 : @Ne Nat c I) (i3 : ∀ p ∈ Y, p.1 ≠ I) (dc : @Ne Nat Df c) (off : OffFr [(Df, listOf vs'.toArray n'), (c, oc')] Y) (hI : (I, ito) ∈ full) (h0 : (Df, listOf vs.toArray n) ∈ full) (h1 : (c, oc) ∈ full) (h2 : ∀ p ∈ Y, p ∈ full)
    (hm : ∀ y, y ∉ ys → m' y = m₀ y) (hT : All2 (PairAt (InL Y)) vs (rowPairs ks (atts.take (j + 1)))) (hz : vs.length ≤ 13 * (j + 1)) :
    TurnEnd g L I ito (fun m nn => (∀ y, y ∉ ys → m y = m₀ y) ∧ JQ ks atts Df c (j + 1) nn) s₁ { s₁ with heap := h', toks := tk } :=
  TurnEnd.intro (news' := (Df, listOf vs.toArray n) :: (c, oc) :: Y) F N hI (List.forall_mem_cons.mpr ⟨h0, List.forall_mem_cons.mpr ⟨h1, h2⟩⟩) (List.forall_mem_cons.mpr ⟨i1, List.forall_mem_cons.mpr ⟨i2, i3⟩⟩) ⟨hm, JQ.mk vs n Y oc _ hc dc (off.rep rfl) hT hz⟩
theorem All2.append {α β : Type} {R : α → β → Prop} {l l' : List α} {r r' : List β} (h : All2 R l r) (h' : All2 R l' r') : All2 R (l ++ l') (r ++ r') := by
  induction h with
  | nil => exact h'
  | cons x _ ih => exact .cons x ih
theorem pairs_more {ks : List (Str × Str)} {atts : List At} {j : Nat} {a : At} (h : atts[j]? = some a) : rowPairs ks (atts.take (j + 1)) = rowPairs ks (atts.take j) ++ attPairs ks a := by
  unfold rowPairs
  rw [List.take_add_one, h, List.flatMap_append]; simp
section
variable {prog : Program} {w : World} {A : Around} {E : Value → Shared → Prop} {s : Shared}
theorem eqGives_none (a : Str) (t : Tok) : MeetsSeq.EqGives (.str a t) .none false := fun prog w A E s Q h => by
  unfold eqBool
  refine wpAny_holding ?_
  rw [if_neg (fun e => by have := eq_of_beq e; cases this)]
  exact wpAny_bind (EqNone.eq_str_none (wpAny_truthy_bool h))
theorem none_in_strs {l : Addr} {a b : Str} {ta tb : Tok} {Q : Value → Shared → Prop} (hl : s.heap.IsList l #[.str a ta, .str b tb]) (h : Q (.bool false) s) : wpAny (model prog w) A (compareOp .In .none (.ref l)) Q E s := by
  refine SeqInW.in_listW (fun _ => false) (fun y hy => ?_) hl (by simpa using h)
  rcases List.mem_cons.mp (Array.mem_toList_iff.mpr hy) with rfl | hy
  · exact eqGives_none _ _
  · rw [List.mem_singleton.mp hy]; exact eqGives_none _ _
theorem kv_in {kv : List (Str × Value)} {ks : List (Str × Str)} {n : Str} {l : Addr} {ta tb : Tok} {Q : Value → Shared → Prop} (h : KV kv ks) (hl : s.heap.IsList l #[.str (Str.ofString "IDREF") ta, .str (Str.ofString "IDREFS") tb]) (hQ : Q (.bool (isRef ks n)) s) :
    wpAny (model prog w) A (compareOp .In ((valueAt kv n).getD .none) (.ref l)) Q E s := by
  rcases kv_cases h n with ⟨h1, h2⟩ | ⟨k, t, h1, h2⟩
  · rw [h1]; rw [isRef_none h2] at hQ
    exact none_in_strs hl hQ
  · rw [h1]; rw [isRef_of h2 rfl] at hQ
    exact in_list_strs (vs := [.str (Str.ofString "IDREF") ta, .str (Str.ofString "IDREFS") tb]) hl (.cons _ _ (.cons _ _ .nil)) hQ
end
section
theorem rows28 : True := by
  k_with_none
  k_with "ktr_enter" =>
    (refine enter_cells (by k_asm) (by k_asm) (by k_asm) (by k_asm) (by k_asm) (by exact rfl) (by exact rfl) (by assumption) (by k_is) (by k_is) (by ktr_room) (by exact BindsTo.of_eq rfl) (by exact rfl) (by decide +kernel) ?_ (by exact rfl) (by exact rfl) (by exact rfl); k_whole; intro g' L' h' tk' cells' FG' F' N' Y' B' X' T' l1 kG'; (try k_lt l1); k_cells Y'; (try dsimp only [List.cons_append, List.nil_append] at N'); (try dsimp only); (try k_fold))
  k_with "ktr_enter" =>
    (refine code_defG (by k_asm) (by k_asm) (by k_asm) (by k_asm) (by k_asm) (by exact rfl) (by exact rfl) (by assumption) (by k_is) (by k_is) (by ktr_room) (by exact BindsTo.of_eq rfl) (by exact locs rfl) ?_ (by exact rfl) (by exact rfl) (by exact rfl) (by decide); k_whole; intro g' L' h' FG' F' N' B' X' T' kG'; (try dsimp only); (try k_fold))
  k_with "k_ne" =>
    (refine neN ?_; (try dsimp only); with_reducible first | assumption | exact Ne.symm (by assumption) | exact Nat.ne_of_gt (by assumption) | exact Nat.ne_of_lt (by assumption) | exact Nat.ne_of_gt (Nat.lt_succ_of_lt (by assumption)) | exact Nat.ne_of_lt (Nat.lt_succ_of_lt (by assumption)))
  k_with "k_lt" =>
    (intro l1; replace l1 := allLt_of l1; (try dsimp only [AllLt] at l1); (repeat (with_reducible (have O8 := And.left l1; replace l1 := And.right l1))))
  k_with "my pick" =>
    (first | (refine Pick1.head ?_; k_extra "k_all") | exact Pick1.tail (by k_ne) (by k_extra "my pick"))
  k_with "my sub" =>
    (first | exact List.forall_mem_nil _ | (refine List.forall_mem_cons.mpr ⟨by k_mem, ?_⟩; k_extra "my sub"))
  k_with "k_room" =>
    ((try simp only [depth_under_make, depth_under_kw, depth_in1, depth_deeper, depth_caller]); (try dsimp only [ktrTop]); omega)
  k_with "my and" =>
    (first | assumption | exact And.intro (by k_ne) (by k_extra "my and") | k_ne)
  k_with "my conj" =>
    (intro l1; (repeat (with_reducible (have O8 := And.left l1; replace l1 := And.right l1))))
  k_with "my off" =>
    ((rename OffL _ _ => O9); (try dsimp only [OffL, Off1, keys, nodeLed, List.map] at O9); revert O9; k_extra "my conj2")
  k_with "CompRest" =>
    (with_unfolding_all first | (refine LCg.CompRest.succ ?_; intro v' I' oI' C' oC' D' m' h' tk' E' hv' hC' hx' F' N' off' ne'; (first | lcg_open hv' | (obtain ⟨t9', hv9'⟩ := hv'; subst hv9')); (try dsimp only [LCg.Off3] at off'); revert off'; k_extra "my conj2"; revert ne'; k_extra "my conj") | refine LCg.CompRest.zero ?_)
  k_with "FinE" =>
    ((unfold LCg.FinE); intro D' h' tk' F' N' o1'; (try dsimp only [LCg.Off1] at o1'); (try dsimp only [List.nil_append, List.cons_append] at N'); (try dsimp only); revert o1'; k_extra "my conj")
  k_with "FinA" =>
    ((unfold LCg.FinA); intro D' h' tk' F' N' o1'; (try dsimp only [LCg.Off1] at o1'); (try dsimp only [List.nil_append, List.cons_append] at N'); (try dsimp only); revert o1'; k_extra "my conj")
  k_with "k_all" =>
    (first | exact List.forall_mem_nil _ | exact Off1.all (by with_reducible assumption) | exact AllLt.ne (by with_reducible assumption) | exact List.forall_mem_cons.mpr ⟨by k_ne, by k_extra "k_all"⟩)
  k_with "my conj2" =>
    (intro l2; (repeat (with_reducible (have l1 := And.left l2; replace l2 := And.right l2; revert l1; k_extra "my conj"))))
  k_with "my same" =>
    (intro z9 hz9; first | rfl | (refine same_step hz9 (by k_mem) ?_; k_extra "my same2") | ((simp only [List.mem_cons, List.not_mem_nil, or_false, not_or] at hz9); first | rfl | (simp only [hz9, if_false, if_neg, over, not_false_eq_true]; done) | (simp [hz9, over]; done)))
  k_with "my same2" =>
    (first | rfl | (refine same_step (by assumption) (by k_mem) ?_; k_extra "my same2"))
  k_with "TurnPost" =>
    (dsimp only [TurnPost])
  k_with "my for" =>
    (k_here; (rename Fr _ _ _ _ => lF'); (with_unfolding_all refine For_turns lF' ?_ (hE := by first | passes_own | assumption); k_whole))
  k_with "execs cons" =>
    (refine wpAny_execs_cons ?_; (try k_fold))
  k_with "room" =>
    (first | exact room2 (by assumption) (by exact rfl) | exact room3 (by assumption) (by exact rfl) | exact room1 (by assumption) (by exact rfl) | exact room0 (by assumption) | exact room4 (by assumption) (by exact rfl))
  k_with "k_room" =>
    (k_extra "room")
  k_with "compareOp In" =>
    (k_here; k_dflt (refine kv_in (by assumption) (News.isList (by k_asm) (by k_mem)) ?_))
  k_with "eval ListComp" =>
    (k_here; k_dflt (refine comp_eval (by k_asm) (by exact rfl) (by exact rfl) (by decide) ?_))
  k_with "CompGo" =>
    (refine halt ?_)
  k_with "call builtin:list.extend" =>
    (k_here; k_dflt (refine ext_p (n2 := List.length _) (by k_asm) (by k_asm) (by k_extra "my pick") (by k_mem) (by assumption) ?_); intro h' n' F' N')
  k_with "k_all" =>
    (first | (with_reducible assumption) | exact OffFr.all (by with_reducible assumption) (by k_mem))
  k_with "exec For Tuple Subscript cons nil" =>
    (k_extra "my for")
  k_with "my in" =>
    (with_reducible first | assumption | (refine List.mem_append_left _ ?_; assumption) | (refine List.mem_append_right _ ?_; assumption) | (refine List.mem_cons_of_mem _ ?_; k_extra "my in"))
  k_with "my tail" =>
    (intro p9 hp9; k_extra "my in")
  k_with "my subs" =>
    (first | exact List.forall_mem_nil _ | k_extra "my tail" | (refine List.forall_mem_cons.mpr ⟨by k_mem, ?_⟩; k_extra "my subs") | with_reducible (refine List.forall_mem_append.mpr ⟨?_, ?_⟩ <;> k_extra "my subs"))
  k_with "pyIter" =>
    (refine halt ?_)
  k_with "pyIter ref" =>
    (refine halt ?_)
  k_with "subscriptTail Name Constant ref int" =>
    (k_here; k_dflt (first | refine item_tupleT (j := 2) (isTup_of (Fr.keep (by k_asm) _ _ (by assumption)) (by assumption)) (by decide) (by decide) rfl rfl ?_ | refine item_tupleT (j := 1) (isTup_of (Fr.keep (by k_asm) _ _ (by assumption)) (by assumption)) (by decide) (by decide) rfl rfl ?_))
  k_with "subscriptTail Name Subscript ref str" =>
    (k_here; k_dflt (refine ditem (dct_of (Fr.keep (by k_asm) _ _ (by assumption)) (by assumption)) (by assumption) ?_))
  k_with "assign Tuple" =>
    (k_here; k_dflt (refine unpackN_ (by k_asm) (by k_asm) (isTup_of (Fr.keep (by k_asm) _ _ (by assumption)) (by assumption)) (by exact rfl) (by exact rfl) (by exact rfl) ?_); intro h' F' N'; (try k_sweep))
  k_with "getMethod ref" =>
    (k_here; k_dflt (refine dget_m (dct_of (Fr.keep (by k_asm) _ _ (by assumption)) (by assumption)) ?_))
  k_with "call builtin:dict.get" =>
    (k_here; k_dflt (refine dget1 (dct_of (Fr.keep (by k_asm) _ _ (by assumption)) (by assumption)) (by assumption) (by exact rfl) ?_))
  trivial
theorem pairs_p (w : World) (K row : Addr) (ks : List (Str × Str)) (r : Rw) (hb : ∀ a ∈ r.atts, a.words.length ≤ 13) (hn : r.atts.length ≤ 40) :
    Ct w 494 3 48 [.ref row, .ref K] [] (fun h => RowAt (fun a o => h.get? a = some o) (.ref row) r ∧ Kinds w h K ks r.name) (fun v fp' => ∃ D n vs Y, v = .ref D ∧ fp' = (D, listOf vs.toArray n) :: Y ∧ All2 (PairAt (InL Y)) vs (rowPairs ks r.atts) ∧ vs.length ≤ 520) := by
  intro mean mg mb dp un gd cn cs ca ccd cl' outer A₀ base h₀ L m s Q E B F X N T' hk hp hdp hun hret
  obtain ⟨hp1, hp2⟩ := hp
  refine wpAny_call ?_
  k_dflt ktr_enter
  rename GSub _ _ _ => kG
  rename Fr _ _ _ (bindL _ _ _) => F1
  have F2 : Fr _ _ _ (fun y => if y = Str.ofString "kinds" then some (.ref K) else if y = Str.ofString "row" then some (.ref row) else none) := F1
  clear F1
  rename _ = Data.cell _ => c1
  replace c1 : _ = Data.cell none := c1
  have kk : ∀ b o, s.heap.get? b = some o → _ := fun b o e => kG b o e List.not_mem_nil
  replace hp1 := hp1.mono kk
  replace hp2 := hp2.keep kk
  clear kk
  obtain ⟨t, ot, ti, tn, hl, oh, hvs, e1, g1, it1, g2, il1, hrow⟩ := hp1
  obtain ⟨oK, oe, kvs, kv, ke, g3, d3, v3, g4, d4, lo4, hkv⟩ := hp2
  cases e1
  k_steps
  rename News _ _ _ [_, _] => N8
  rename Fr _ _ _ _ => lF8
  obtain ⟨Df, rfl⟩ := name_front N8
  refine unhalt (turns_any (l := hl) (vs := hvs) [Str.ofString "attribute", Str.ofString "words"] (fun j _ nn => JQ ks r.atts Df _ j nn) rfl go_tuple lF8 N8 ⟨oh, Fr.keep lF8 _ _ g2, il1.1, il1.2⟩ (Nat.ne_of_gt (Nat.lt_of_lt_of_le (Heap.lt_size g2) lF8.above)) (.inl (by rw [g2]; exact fun h => nomatch h))
    (JQ.mk [] _ [] _ _ c1 (by k_ne) (fun _ _ _ h => nomatch h) .nil (Nat.zero_le _)) ?_ ?_)
  · intro j v I ito h9 tk9 u9 nn9 hv hJ hlt hne F9 N9
    k_fold
    obtain ⟨vs, n, Y, oc, cv, hc, dc, off, hT, hz⟩ := hJ
    obtain ⟨a, ha, hat⟩ := All2.at hrow hv
    obtain ⟨t2, ot2, ti2, tn2, wl, ow, ws, e2, h1, it2, h2, il2, hs, hw⟩ := hat
    try dsimp only at h1 h2
    subst e2
    dsimp only [over] at F9
    have hoff := off1_of hne
    dsimp only [Off1] at hoff
    have i1 := hoff.1
    have i2 := hoff.2.1
    have i3 := hoff.2.2
    have d1 := off _ (.head _)
    have d2 := off _ (.tail _ (.head _))
    k_steps
    · rename Fr _ _ _ _ => F3
      rename News _ _ _ (_ :: _ :: _) => N3
      rename _ = Data.cell (some _) => c3
      rename isRef ks a.name = true => hr
      have hwn := hb a (List.mem_of_getElem? ha)
      have hwl : ws.length = a.words.length := by rw [← hw]; exact strsV_length hs
      refine unhalt (comp_map (l := wl) (vs := ws) (JT _ a.idx a.words) rfl (by decide) rfl rfl ⟨ow, Fr.keep F3 _ _ h2, il2.1, il2.2⟩ (Nat.le_trans (Nat.le_trans (Nat.le_of_eq hwl) hwn) (by decide)) F3 N3 (Nat.ne_of_gt (Nat.lt_of_lt_of_le (Heap.lt_size h2) F3.above)) jt_start ?_ ?_)
      · intro I3 C D i v oC m₂ ys nn h3 tk3 own E' hCD hv hJ hC hm off3 hI3 F4 N4
        obtain ⟨Z, offZ, hT3⟩ := hJ
        obtain ⟨oI3, hI3⟩ := hI3
        obtain ⟨x, tx, rfl, hx⟩ := str_at hs hv
        rw [hw] at hx
        have N5 := news_sub (l' := (C, oC) :: (D, LCg.lst ys) :: (_, _) :: (own ++ (Z ++ _))) N4 (List.forall_mem_cons.mpr ⟨List.mem_append_right _ (.head _), List.forall_mem_cons.mpr ⟨List.mem_append_right _ (.tail _ (.head _)), List.forall_mem_cons.mpr ⟨List.mem_append_right _ (.tail _ (.tail _ (List.mem_append_right _ (.tail _ (.tail _ (.tail _ (.head _))))))), fun p hp => (List.mem_append.mp hp).elim (fun h => List.mem_append_left _ h) fun h => List.mem_append_right _ (.tail _ (.tail _ h))⟩⟩⟩)
        clear N4
        k_steps
        exact jt_close (by assumption) (by assumption) (by k_mem) (by k_mem) (by k_mem) (by k_extra "my tail") hC off3 hI3 (by assumption) (by assumption) (by assumption) offZ hT3 hx
      · intro h3 tk3 D ys nn F4 N4 off3 hJ
        obtain ⟨Z, offZ, hT3⟩ := hJ
        have z1 := offZ _ (.tail _ (.tail _ (.head _)))
        have z2 := offZ _ (.tail _ (.tail _ (.tail _ (.head _))))
        have z3 := offZ _ (.tail _ (.head _))
        have e1 := off3 _ (List.mem_append_right _ (.tail _ (.tail _ (.head _))))
        have zY : ∀ p ∈ Z ++ Y, p.1 ≠ Df := fun p hp => (List.mem_append.mp hp).elim (z1 p) (d1 p)
        dsimp only at e1
        have hl3 : ys.length = a.words.length := by rw [All2.length hT3, List.length_map, hwl, List.take_length]
        rw [hwl, List.take_length] at hT3
        have hsz : vs.length + ys.length ≤ 13 * (j + 1) := by rw [hl3, Nat.mul_add]; exact Nat.add_le_add hz hwn
        have hsz2 : vs.length + ys.length ≤ 2 ^ 20 := Nat.le_trans hsz (Nat.le_trans (Nat.mul_le_mul_left 13 (List.getElem?_eq_some_iff.mp ha).1) (Nat.le_trans (Nat.mul_le_mul_left 13 hn) (by decide)))
        have N5 := news_sub (l' := (Df, listOf vs.toArray n) :: (D, LCg.lst ys) :: (I, ito) :: (_, _) :: (Z ++ Y)) N4 (List.forall_mem_cons.mpr ⟨.tail _ (List.mem_append_right _ (.tail _ (.tail _ (.head _)))), List.forall_mem_cons.mpr ⟨.head _, List.forall_mem_cons.mpr ⟨.tail _ (List.mem_append_right _ (.tail _ (.head _))), List.forall_mem_cons.mpr ⟨.tail _ (List.mem_append_right _ (.tail _ (.tail _ (.tail _ (.head _))))), fun p hp => (List.mem_append.mp hp).elim (fun h => .tail _ (List.mem_append_left _ h)) fun h => .tail _ (List.mem_append_right _ (.tail _ (.tail _ (.tail _ (.tail _ h)))))⟩⟩⟩⟩)
        clear N4
        k_steps
        refine jq_close (vs' := vs) (n' := n) (oc' := oc) (by assumption) (by assumption) c3 i1 i2 (fun p hp => (List.mem_append.mp hp).elim (z3 p) (Off1.all i3 p)) dc (OffFr.cons zY (OffFr.cons (fun p hp => (List.mem_append.mp hp).elim (z2 p) (d2 p)) OffFr.nil)) (by k_mem) (by k_mem) (by k_mem) (by k_extra "my tail") (by k_extra "my same") ?_ (by rw [List.length_append]; exact hsz)
        rw [pairs_more ha, attPairs, if_pos hr]
        exact (hT.mono fun _ _ h => h.mono fun a o m => List.mem_append_right _ m).append (hT3.mono fun _ _ h => h.mono fun a o m => List.mem_append_left _ m)
    · rename isRef ks a.name = false => hr
      refine jq_close (by assumption) (by assumption) (by assumption) i1 i2 (Off1.all i3) dc off (by k_mem) (by k_mem) (by k_mem) (by k_extra "my tail") (by k_extra "my same") ?_ (Nat.le_trans hz (Nat.mul_le_mul_left _ (Nat.le_succ _)))
      rw [pairs_more ha, attPairs, if_neg (by rw [hr]; decide), List.append_nil]; exact hT
  · intro u5 nn5 h5 tk5 J5 F5 N5
    obtain ⟨vs, n, Y, oc, cv, hc, dc, off, hT, hz⟩ := J5
    dsimp only [over] at F5
    k_steps
    rw [All2.length hrow, List.take_length] at hT
    exact back_close2 hret (by assumption) (by assumption) kG (by assumption) (by assumption) ((Df, listOf vs.toArray n) :: Y) (List.forall_mem_cons.mpr ⟨.head _, fun p hp => .tail _ (.tail _ hp)⟩) ⟨Df, n, vs, Y, rfl, rfl, hT, by rw [All2.length hrow] at hz; exact Nat.le_trans hz (Nat.le_trans (Nat.mul_le_mul_left _ hn) (by decide))⟩
end

noncomputable def oneW : List Str → Option Str
  | [x] => some x
  | _ => none
/-- a row's own ID -/
noncomputable def ownId (ks : List (Str × Str)) : List At → Option Str
  | [] => none
  | a :: r => if ks.lookup a.name = some sID then oneW a.words else ownId ks r
theorem dropA {α : Type} {l : List α} {i : Nat} {z : α} (h : l[i]? = some z) : l.drop i = z :: l.drop (i + 1) := by
  obtain ⟨h1, h2⟩ := List.getElem?_eq_some_iff.mp h
  rw [List.drop_eq_getElem_cons h1, h2]
section
variable {prog : Program} {w : World} {A : Around} {E : Value → Shared → Prop} {s : Shared}
theorem kv_eq {kv : List (Str × Value)} {ks : List (Str × Str)} {n b : Str} {t : Tok} {Q : Value → Shared → Prop} (h : KV kv ks) (hQ : Q (.bool (decide (ks.lookup n = some b))) s) : wpAny (model prog w) A (compareOp .Eq ((valueAt kv n).getD .none) (.str b t)) Q E s := by
  rcases kv_cases h n with ⟨h1, h2⟩ | ⟨k, u, h1, h2⟩
  · rw [h1]
    rw [h2] at hQ
    exact EqNone.eq_none_str hQ
  · rw [h1]
    rw [h2] at hQ
    refine PyProof.Rows.eq_str ?_
    have e : (k == b) = decide (some k = some b) := by
      by_cases hb : k = b
      · subst hb; simp
      · rw [decide_eq_false (fun e => hb (Option.some.inj e))]; simpa using hb
    rw [e]; exact hQ
end
theorem words_one {ws : List Value} {l : List Str} (h : allStr ws = true) (h2 : strsV ws = l) (h3 : (ws.length : Int) = 1) : ∃ y t, ws = [.str y t] ∧ l = [y] := by
  match ws, h, h3 with
  | [.str y t], _, _ => exact ⟨y, t, rfl, h2.symm⟩
  | a :: b :: r, _, h3 => simp at h3; omega
theorem words_not {ws : List Value} {l : List Str} (h : allStr ws = true) (h2 : strsV ws = l) (h3 : ¬((ws.length : Int) = 1)) : oneW l = none := by
  have h1 := strsV_length h
  rw [h2] at h1
  match l, h1 with
  | [], _ => rfl
  | [y], h1 => exact absurd (by rw [h1]; rfl) h3
  | a :: b :: r, _ => rfl
section
theorem rows29 : True := by
  k_with_none
  k_with "ktr_enter" =>
    (refine enter_cells (by k_asm) (by k_asm) (by k_asm) (by k_asm) (by k_asm) (by exact rfl) (by exact rfl) (by assumption) (by k_is) (by k_is) (by ktr_room) (by exact BindsTo.of_eq rfl) (by exact rfl) (by decide +kernel) ?_ (by exact rfl) (by exact rfl) (by exact rfl); k_whole; intro g' L' h' tk' cells' FG' F' N' Y' B' X' T' l1 kG'; (try k_lt l1); k_cells Y'; (try dsimp only [List.cons_append, List.nil_append] at N'); (try dsimp only); (try k_fold))
  k_with "ktr_enter" =>
    (refine code_defG (by k_asm) (by k_asm) (by k_asm) (by k_asm) (by k_asm) (by exact rfl) (by exact rfl) (by assumption) (by k_is) (by k_is) (by ktr_room) (by exact BindsTo.of_eq rfl) (by exact locs rfl) ?_ (by exact rfl) (by exact rfl) (by exact rfl) (by decide); k_whole; intro g' L' h' FG' F' N' B' X' T' kG'; (try dsimp only); (try k_fold))
  k_with "k_ne" =>
    (refine neN ?_; (try dsimp only); with_reducible first | assumption | exact Ne.symm (by assumption) | exact Nat.ne_of_gt (by assumption) | exact Nat.ne_of_lt (by assumption) | exact Nat.ne_of_gt (Nat.lt_succ_of_lt (by assumption)) | exact Nat.ne_of_lt (Nat.lt_succ_of_lt (by assumption)))
  k_with "k_lt" =>
    (intro l1; replace l1 := allLt_of l1; (try dsimp only [AllLt] at l1); (repeat (with_reducible (have O8 := And.left l1; replace l1 := And.right l1))))
  k_with "my pick" =>
    (first | (refine Pick1.head ?_; k_extra "k_all") | exact Pick1.tail (by k_ne) (by k_extra "my pick"))
  k_with "my sub" =>
    (first | exact List.forall_mem_nil _ | (refine List.forall_mem_cons.mpr ⟨by k_mem, ?_⟩; k_extra "my sub"))
  k_with "k_room" =>
    ((try simp only [depth_under_make, depth_under_kw, depth_in1, depth_deeper, depth_caller]); (try dsimp only [ktrTop]); omega)
  k_with "my and" =>
    (first | assumption | exact And.intro (by k_ne) (by k_extra "my and") | k_ne)
  k_with "my conj" =>
    (intro l1; (repeat (with_reducible (have O8 := And.left l1; replace l1 := And.right l1))))
  k_with "my off" =>
    ((rename OffL _ _ => O9); (try dsimp only [OffL, Off1, keys, nodeLed, List.map] at O9); revert O9; k_extra "my conj2")
  k_with "CompRest" =>
    (with_unfolding_all first | (refine LCg.CompRest.succ ?_; intro v' I' oI' C' oC' D' m' h' tk' E' hv' hC' hx' F' N' off' ne'; (first | lcg_open hv' | (obtain ⟨t9', hv9'⟩ := hv'; subst hv9')); (try dsimp only [LCg.Off3] at off'); revert off'; k_extra "my conj2"; revert ne'; k_extra "my conj") | refine LCg.CompRest.zero ?_)
  k_with "FinE" =>
    ((unfold LCg.FinE); intro D' h' tk' F' N' o1'; (try dsimp only [LCg.Off1] at o1'); (try dsimp only [List.nil_append, List.cons_append] at N'); (try dsimp only); revert o1'; k_extra "my conj")
  k_with "FinA" =>
    ((unfold LCg.FinA); intro D' h' tk' F' N' o1'; (try dsimp only [LCg.Off1] at o1'); (try dsimp only [List.nil_append, List.cons_append] at N'); (try dsimp only); revert o1'; k_extra "my conj")
  k_with "k_all" =>
    (first | exact List.forall_mem_nil _ | exact Off1.all (by with_reducible assumption) | exact AllLt.ne (by with_reducible assumption) | exact List.forall_mem_cons.mpr ⟨by k_ne, by k_extra "k_all"⟩)
  k_with "my conj2" =>
    (intro l2; (repeat (with_reducible (have l1 := And.left l2; replace l2 := And.right l2; revert l1; k_extra "my conj"))))
  k_with "my same" =>
    (intro z9 hz9; first | rfl | (refine same_step hz9 (by k_mem) ?_; k_extra "my same2") | ((simp only [List.mem_cons, List.not_mem_nil, or_false, not_or] at hz9); first | rfl | (simp only [hz9, if_false, if_neg, over, not_false_eq_true]; done) | (simp [hz9, over]; done)))
  k_with "my same2" =>
    (first | rfl | (refine same_step (by assumption) (by k_mem) ?_; k_extra "my same2"))
  k_with "TurnPost" =>
    (dsimp only [TurnPost])
  k_with "my for" =>
    (k_here; (rename Fr _ _ _ _ => lF'); (with_unfolding_all refine For_turns lF' ?_ (hE := by first | passes_own | assumption); k_whole))
  k_with "execs cons" =>
    (refine wpAny_execs_cons ?_; (try k_fold))
  k_with "room" =>
    (first | exact room2 (by assumption) (by exact rfl) | exact room3 (by assumption) (by exact rfl) | exact room1 (by assumption) (by exact rfl) | exact room0 (by assumption) | exact room4 (by assumption) (by exact rfl))
  k_with "k_room" =>
    (k_extra "room")
  k_with "exec For Tuple Subscript cons nil" =>
    (k_extra "my for")
  k_with "pyIter" =>
    (refine halt ?_)
  k_with "pyIter ref" =>
    (refine halt ?_)
  k_with "compareOp Eq" =>
    (k_here; k_dflt (refine kv_eq (by assumption) ?_))
  k_with "call builtin:len" =>
    (k_here; k_dflt (refine len_now (l := _) ⟨_, Fr.keep (by k_asm) _ _ (by assumption), And.left (by assumption), And.right (by assumption)⟩ (Nat.le_trans (m := 13) (by assumption) (Nat.le_of_ble_eq_true rfl)) ?_))
  k_with "subscriptTail Name Constant ref int" =>
    (k_here; k_dflt (first | refine item_tupleT (j := 2) (isTup_of (Fr.keep (by k_asm) _ _ (by assumption)) (by assumption)) (by decide) (by decide) rfl rfl ?_ | refine item_tupleT (j := 1) (isTup_of (Fr.keep (by k_asm) _ _ (by assumption)) (by assumption)) (by decide) (by decide) rfl rfl ?_ | ((obtain ⟨y9, t9, e9, f9⟩ := words_one (by assumption) (by assumption) (by assumption)); subst e9; refine item_now (i := 0) ⟨_, Fr.keep (by k_asm) _ _ (by assumption), And.left (by assumption), And.right (by assumption)⟩ (Nat.le_of_ble_eq_true rfl) rfl ?_)))
  k_with "subscriptTail Name Subscript ref str" =>
    (k_here; k_dflt (refine ditem (dct_of (Fr.keep (by k_asm) _ _ (by assumption)) (by assumption)) (by assumption) ?_))
  k_with "assign Tuple" =>
    (k_here; k_dflt (refine unpackN_ (by k_asm) (by k_asm) (isTup_of (Fr.keep (by k_asm) _ _ (by assumption)) (by assumption)) (by exact rfl) (by exact rfl) (by exact rfl) ?_); intro h' F' N'; (try k_sweep))
  k_with "getMethod ref" =>
    (k_here; k_dflt (refine dget_m (dct_of (Fr.keep (by k_asm) _ _ (by assumption)) (by assumption)) ?_))
  k_with "call builtin:dict.get" =>
    (k_here; k_dflt (refine dget1 (dct_of (Fr.keep (by k_asm) _ _ (by assumption)) (by assumption)) (by assumption) (by exact rfl) ?_))
  trivial
theorem own_id_p (w : World) (K row : Addr) (ks : List (Str × Str)) (r : Rw) (hb : ∀ a ∈ r.atts, a.words.length ≤ 13) :
    Ct w 501 3 48 [.ref row, .ref K] [] (fun h => RowAt (fun a o => h.get? a = some o) (.ref row) r ∧ Kinds w h K ks r.name) (fun v fp' => IsOpt v (ownId ks r.atts) ∧ fp' = []) := by
  intro mean mg mb dp un gd cn cs ca ccd cl' outer A₀ base h₀ L m s Q E B F X N T' hk hp hdp hun hret
  obtain ⟨hp1, hp2⟩ := hp
  refine wpAny_call ?_
  k_dflt ktr_enter
  rename GSub _ _ _ => kG
  rename Fr _ _ _ (fun y => List.lookup y _) => F1
  have F2 : Fr _ _ _ (frm [(Str.ofString "kinds", .ref K), (Str.ofString "row", .ref row)]) := F1
  clear F1
  generalize s.toks + List.length _ = tk0
  have kk : ∀ b o, s.heap.get? b = some o → _ := fun b o e => kG b o e List.not_mem_nil
  replace hp1 := hp1.mono kk
  replace hp2 := hp2.keep kk
  clear kk
  obtain ⟨t, ot, ti, tn, hl, oh, hvs, e1, g1, it1, g2, il1, hrow⟩ := hp1
  obtain ⟨oK, oe, kvs, kv, ke, g3, d3, v3, g4, d4, lo4, hkv⟩ := hp2
  cases e1
  k_steps
  rename Fr _ _ _ _ => lF8
  rename News _ _ _ _ => N8
  refine unhalt (turns_any (l := hl) (vs := hvs) (news := []) [Str.ofString "node", Str.ofString "attribute", Str.ofString "words"] (fun j _ nn => nn = [] ∧ ownId ks r.atts = ownId ks (r.atts.drop j)) rfl go_tuple lF8 (fun _ h => nomatch h) ⟨oh, Fr.keep lF8 _ _ g2, il1.1, il1.2⟩ (Nat.ne_of_gt (Nat.lt_of_lt_of_le (Heap.lt_size g2) lF8.above)) (.inl (by rw [g2]; exact fun h => nomatch h)) ⟨rfl, rfl⟩ ?_ ?_)
  · intro j v I ito h9 tk9 u9 nn9 hv hJ hlt hne F9 N9
    k_fold
    obtain ⟨rfl, hJ⟩ := hJ
    obtain ⟨a, ha, hat⟩ := All2.at hrow hv
    obtain ⟨t2, ot2, ti2, tn2, wl, ow, ws, e2, h1, it2, h2, il2, hs, hw⟩ := hat
    subst e2
    dsimp only [over] at F9
    have hwn := hb a (List.mem_of_getElem? ha)
    have hwl : ws.length ≤ 13 := by rw [strsV_length hs, hw]; exact hwn
    rw [dropA ha, ownId] at hJ
    k_steps
    · rename List.lookup a.name ks = some _ => hid
      rename a.words = [_] => hone
      refine back_close2 hret (by assumption) (by assumption) kG (by assumption) (by assumption) [] (List.forall_mem_nil _) ⟨?_, rfl⟩
      rw [hJ, if_pos hid, hone]
      exact ⟨_, rfl⟩
    · rename List.lookup a.name ks = some _ => hid
      refine back_close2 hret (by assumption) (by assumption) kG (by assumption) (by assumption) [] (List.forall_mem_nil _) ⟨?_, rfl⟩
      rw [hJ, if_pos hid, words_not hs hw (by assumption)]
      rfl
    · rename ¬(List.lookup a.name ks = some _) => hid
      refine TurnEnd.intro (by assumption) (by assumption) (by k_mem) (List.forall_mem_nil _) hne ⟨by k_extra "my same", rfl, ?_⟩
      rw [hJ, if_neg hid]
  · intro u5 nn5 h5 tk5 J5 F5 N5
    obtain ⟨rfl, hJ⟩ := J5
    dsimp only [over] at F5
    k_steps
    rw [All2.length hrow, List.drop_length] at hJ
    exact back_close2 hret (by assumption) (by assumption) kG (by assumption) (by assumption) [] (List.forall_mem_nil _) ⟨by rw [hJ]; rfl, rfl⟩
end

/-- the law's own def: its statements and its names -/
noncomputable abbrev pickB (name : Str) (args : Arguments) (body : List Stmt) (d : List PySem.Expr) (r : Option PySem.Expr) (t : List TypeParam) (scope : Scope) (ts : Option Scope) (b : Str) (p : Pos) (_ : Challenge.pw_on0192_01.main.body.getLast? = some (.FunctionDef name args body d r t scope ts b p)) : List Stmt := body
noncomputable abbrev pickS (name : Str) (args : Arguments) (body : List Stmt) (d : List PySem.Expr) (r : Option PySem.Expr) (t : List TypeParam) (scope : Scope) (ts : Option Scope) (b : Str) (p : Pos) (_ : Challenge.pw_on0192_01.main.body.getLast? = some (.FunctionDef name args body d r t scope ts b p)) : Scope := scope
noncomputable abbrev lawB : List Stmt := pickB _ _ _ _ _ _ _ _ _ _ rfl
noncomputable abbrev lawS : Scope := pickS _ _ _ _ _ _ _ _ _ _ rfl
noncomputable abbrev lawN : Str := Str.ofString "law"
noncomputable abbrev lawC (L : Addr) : List (Str × Addr) := cellsFrom (L + 1) lawS.names []
/-- the law's body from its k-th statement on -/
noncomputable def LawAt (w : World) (k : Nat) (J : Heap → Addr → (Str → Option Value) → Led → Prop) : Prop :=
  ∀ (mean : ExcName → Option Value) (mg mb : Str → Option Value) (dp un : Nat) (gd : Option (List Code)) (a : Addr) (ccd : Value) (outer : List Env) (A₀ : Around) (base h₀ : Heap) (L : Addr) (m : Str → Option Value) (nn : Led) (s : Shared) (Q : Flow → Shared → Prop) (E : Value → Shared → Prop),
    Below A₀ base outer h₀ → Fr h₀ L s.heap m → (hd.heap_1 w.params).In h₀ → News h₀ L s.heap nn → Top Vw (looseW Vw []) mean mg mb h₀ → dp + 12 < recursionLimit → un + 400 < cLine → J h₀ L m nn →
    (∀ h' tk' m' nn', Fr h₀ L h' m' → News h₀ L h' nn' → Q (.ret (.bool true)) { s with heap := h', toks := tk' }) → PassesOwn (model PR w) (ktrTop dp un gd lawN lawS L a ccd (lawC L) outer) (envX lawN lawS L a ccd (lawC L)) E →
    wpAny (model PR w) (ktrTop dp un gd lawN lawS L a ccd (lawC L) outer) (execs (lawB.drop k) (envX lawN lawS L a ccd (lawC L))) Q E s
/-- what stands at the law's begin -/
inductive Law0 (h₀ : Heap) (L : Addr) : (Str → Option Value) → Led → Prop
  | mk (scr : Addr) (items : List Value) (ns : List Int) (c1 c2 c3 c4 c5 : Obj) (hl : h₀.IsList scr items.toArray) (hi : IntsAre items ns) (hn : ns.length ≤ 63) (d1 : c1.data = .cell none) (d2 : c2.data = .cell none) (d3 : c3.data = .cell none) (d4 : c4.data = .cell none) (d5 : c5.data = .cell none) :
    Law0 h₀ L (fun y => if y = Str.ofString "script" then some (.ref scr) else none) [(L + 1 + 1 + 1 + 1 + 1, c5), (L + 1 + 1 + 1 + 1, c4), (L + 1 + 1 + 1, c3), (L + 1 + 1, c2), (L + 1, c1)]
local  macro_rules | `(tactic| k_qdec) => `(tactic| decide +kernel)
theorem rows30 : True := by
  k_with_none
  k_with "ktr_enter" =>
    (refine enter_cells (by k_asm) (by k_asm) (by k_asm) (by k_asm) (by k_asm) (by exact rfl) (by exact rfl) (by assumption) (by k_is) (by k_is) (by ktr_room) (by exact BindsTo.of_eq rfl) (by exact rfl) (by decide +kernel) ?_ (by exact rfl) (by exact rfl) (by exact rfl); k_whole; intro g' L' h' tk' cells' FG' F' N' Y' B' X' T' l1 kG'; (try k_lt l1); k_cells Y'; (try dsimp only [List.cons_append, List.nil_append] at N'); (try dsimp only); (try k_fold))
  k_with "ktr_enter" =>
    (refine code_defG (by k_asm) (by k_asm) (by k_asm) (by k_asm) (by k_asm) (by exact rfl) (by exact rfl) (by assumption) (by k_is) (by k_is) (by ktr_room) (by exact BindsTo.of_eq rfl) (by exact locs rfl) ?_ (by exact rfl) (by exact rfl) (by exact rfl) (by decide); k_whole; intro g' L' h' FG' F' N' B' X' T' kG'; (try dsimp only); (try k_fold))
  k_with "k_ne" =>
    (refine neN ?_; (try dsimp only); with_reducible first | assumption | exact Ne.symm (by assumption) | exact Nat.ne_of_gt (by assumption) | exact Nat.ne_of_lt (by assumption) | exact Nat.ne_of_gt (Nat.lt_succ_of_lt (by assumption)) | exact Nat.ne_of_lt (Nat.lt_succ_of_lt (by assumption)))
  k_with "k_lt" =>
    (intro l1; replace l1 := allLt_of l1; (try dsimp only [AllLt] at l1); (repeat (with_reducible (have O8 := And.left l1; replace l1 := And.right l1))))
  k_with "my pick" =>
    (first | (refine Pick1.head ?_; k_extra "k_all") | exact Pick1.tail (by k_ne) (by k_extra "my pick"))
  k_with "my sub" =>
    (first | exact List.forall_mem_nil _ | (refine List.forall_mem_cons.mpr ⟨by k_mem, ?_⟩; k_extra "my sub"))
  k_with "k_room" =>
    ((try simp only [depth_under_make, depth_under_kw, depth_in1, depth_deeper, depth_caller]); (try dsimp only [ktrTop]); omega)
  k_with "my and" =>
    (first | assumption | exact And.intro (by k_ne) (by k_extra "my and") | k_ne)
  k_with "my conj" =>
    (intro l1; (repeat (with_reducible (have O8 := And.left l1; replace l1 := And.right l1))))
  k_with "my off" =>
    ((rename OffL _ _ => O9); (try dsimp only [OffL, Off1, keys, nodeLed, List.map] at O9); revert O9; k_extra "my conj2")
  k_with "CompRest" =>
    (with_unfolding_all first | (refine LCg.CompRest.succ ?_; intro v' I' oI' C' oC' D' m' h' tk' E' hv' hC' hx' F' N' off' ne'; (first | lcg_open hv' | (obtain ⟨t9', hv9'⟩ := hv'; subst hv9')); (try dsimp only [LCg.Off3] at off'); revert off'; k_extra "my conj2"; revert ne'; k_extra "my conj") | refine LCg.CompRest.zero ?_)
  k_with "FinE" =>
    ((unfold LCg.FinE); intro D' h' tk' F' N' o1'; (try dsimp only [LCg.Off1] at o1'); (try dsimp only [List.nil_append, List.cons_append] at N'); (try dsimp only); revert o1'; k_extra "my conj")
  k_with "FinA" =>
    ((unfold LCg.FinA); intro D' h' tk' F' N' o1'; (try dsimp only [LCg.Off1] at o1'); (try dsimp only [List.nil_append, List.cons_append] at N'); (try dsimp only); revert o1'; k_extra "my conj")
  k_with "k_all" =>
    (first | exact List.forall_mem_nil _ | exact Off1.all (by with_reducible assumption) | exact AllLt.ne (by with_reducible assumption) | exact List.forall_mem_cons.mpr ⟨by k_ne, by k_extra "k_all"⟩)
  k_with "my conj2" =>
    (intro l2; (repeat (with_reducible (have l1 := And.left l2; replace l2 := And.right l2; revert l1; k_extra "my conj"))))
  k_with "my same" =>
    (intro z9 hz9; first | rfl | (refine same_step hz9 (by k_mem) ?_; k_extra "my same2") | ((simp only [List.mem_cons, List.not_mem_nil, or_false, not_or] at hz9); first | rfl | (simp only [hz9, if_false, if_neg, over, not_false_eq_true]; done) | (simp [hz9, over]; done)))
  k_with "my same2" =>
    (first | rfl | (refine same_step (by assumption) (by k_mem) ?_; k_extra "my same2"))
  k_with "TurnPost" =>
    (dsimp only [TurnPost])
  k_with "my for" =>
    (k_here; (rename Fr _ _ _ _ => lF'); (with_unfolding_all refine For_turns lF' ?_ (hE := by first | passes_own | assumption); k_whole))
  k_with "execs cons" =>
    (refine wpAny_execs_cons ?_; (try k_fold))
  k_with "room" =>
    (first | exact room2 (by assumption) (by exact rfl) | exact room3 (by assumption) (by exact rfl) | exact room1 (by assumption) (by exact rfl) | exact room0 (by assumption) | exact room4 (by assumption) (by exact rfl))
  k_with "k_room" =>
    (k_extra "room")

  trivial
theorem law_top (h : ∀ w, LawAt w 0 Law0) : PySem.Challenge.rw_on0192_01.Holds := hd (by
  k_go0
  rename Frag.In _ _ => KX
  rename Top _ _ _ _ _ _ => T
  rename IntsAre _ _ => hI
  rename Heap.IsList _ _ _ => hL
  rename Below _ _ _ _ => K0
  rename ¬(_ < _) => hc
  rename Fr _ _ _ _ => F
  rename News _ _ _ _ => N0
  rename CellsAre _ _ _ => X0
  refine h _ _ _ _ _ _ _ _ _ [] callerA _ _ _ _ _ _ _ _ K0 F KX N0 T (by decide) (by decide) ?_ ?_ (by passes_own)
  · exact .mk _ _ _ _ _ _ _ _ hL hI (by omega) (by assumption) (by assumption) (by assumption) (by assumption) (by assumption)
  · intro h' tk' m' nn' F' N'
    k_steps)

theorem first_int {items : List Value} {ns : List Int} (h : IntsAre items ns) (h0 : (items.length : Int) > 0) : ∃ c t, items[0]? = some (.int c t) := by
  cases h with
  | nil => simp at h0
  | cons n t h => exact ⟨n, t, rfl⟩
theorem pool_x {c : Int} {p : Prop} [Decidable p] : 0 ≤ (if -1 - c > c then -1 - c else c) * (if p then 1 else 0) := by
  have h : 0 ≤ (if -1 - c > c then -1 - c else c) := by split <;> omega
  by_cases hp : p
  · rw [if_pos hp, Int.mul_one]; exact h
  · rw [if_neg hp, Int.mul_zero]; exact Int.le_refl _
/-- the first int is drawn -/
inductive PoolJ (scr : Addr) : (Str → Option Value) → Led → Prop
  | mk (c : Int) (t : Tok) : PoolJ scr (fun y => if y = Str.ofString "script_cell" then some (.int c t) else frm [(Str.ofString "script", .ref scr)] y) []
section
theorem rows31 : True := by
  k_with_none
  k_with "ktr_enter" =>
    (refine enter_cells (by k_asm) (by k_asm) (by k_asm) (by k_asm) (by k_asm) (by exact rfl) (by exact rfl) (by assumption) (by k_is) (by k_is) (by ktr_room) (by exact BindsTo.of_eq rfl) (by exact rfl) (by decide +kernel) ?_ (by exact rfl) (by exact rfl) (by exact rfl); k_whole; intro g' L' h' tk' cells' FG' F' N' Y' B' X' T' l1 kG'; (try k_lt l1); k_cells Y'; (try dsimp only [List.cons_append, List.nil_append] at N'); (try dsimp only); (try k_fold))
  k_with "ktr_enter" =>
    (refine code_defG (by k_asm) (by k_asm) (by k_asm) (by k_asm) (by k_asm) (by exact rfl) (by exact rfl) (by assumption) (by k_is) (by k_is) (by ktr_room) (by exact BindsTo.of_eq rfl) (by exact locs rfl) ?_ (by exact rfl) (by exact rfl) (by exact rfl) (by decide); k_whole; intro g' L' h' FG' F' N' B' X' T' kG'; (try dsimp only); (try k_fold))
  k_with "k_ne" =>
    (refine neN ?_; (try dsimp only); with_reducible first | assumption | exact Ne.symm (by assumption) | exact Nat.ne_of_gt (by assumption) | exact Nat.ne_of_lt (by assumption) | exact Nat.ne_of_gt (Nat.lt_succ_of_lt (by assumption)) | exact Nat.ne_of_lt (Nat.lt_succ_of_lt (by assumption)))
  k_with "k_lt" =>
    (intro l1; replace l1 := allLt_of l1; (try dsimp only [AllLt] at l1); (repeat (with_reducible (have O8 := And.left l1; replace l1 := And.right l1))))
  k_with "my pick" =>
    (first | (refine Pick1.head ?_; k_extra "k_all") | exact Pick1.tail (by k_ne) (by k_extra "my pick"))
  k_with "my sub" =>
    (first | exact List.forall_mem_nil _ | (refine List.forall_mem_cons.mpr ⟨by k_mem, ?_⟩; k_extra "my sub"))
  k_with "k_room" =>
    ((try simp only [depth_under_make, depth_under_kw, depth_in1, depth_deeper, depth_caller]); (try dsimp only [ktrTop]); omega)
  k_with "my and" =>
    (first | assumption | exact And.intro (by k_ne) (by k_extra "my and") | k_ne)
  k_with "my conj" =>
    (intro l1; (repeat (with_reducible (have O8 := And.left l1; replace l1 := And.right l1))))
  k_with "my off" =>
    ((rename OffL _ _ => O9); (try dsimp only [OffL, Off1, keys, nodeLed, List.map] at O9); revert O9; k_extra "my conj2")
  k_with "CompRest" =>
    (with_unfolding_all first | (refine LCg.CompRest.succ ?_; intro v' I' oI' C' oC' D' m' h' tk' E' hv' hC' hx' F' N' off' ne'; (first | lcg_open hv' | (obtain ⟨t9', hv9'⟩ := hv'; subst hv9')); (try dsimp only [LCg.Off3] at off'); revert off'; k_extra "my conj2"; revert ne'; k_extra "my conj") | refine LCg.CompRest.zero ?_)
  k_with "FinE" =>
    ((unfold LCg.FinE); intro D' h' tk' F' N' o1'; (try dsimp only [LCg.Off1] at o1'); (try dsimp only [List.nil_append, List.cons_append] at N'); (try dsimp only); revert o1'; k_extra "my conj")
  k_with "FinA" =>
    ((unfold LCg.FinA); intro D' h' tk' F' N' o1'; (try dsimp only [LCg.Off1] at o1'); (try dsimp only [List.nil_append, List.cons_append] at N'); (try dsimp only); revert o1'; k_extra "my conj")
  k_with "k_all" =>
    (first | exact List.forall_mem_nil _ | exact Off1.all (by with_reducible assumption) | exact AllLt.ne (by with_reducible assumption) | exact List.forall_mem_cons.mpr ⟨by k_ne, by k_extra "k_all"⟩)
  k_with "my conj2" =>
    (intro l2; (repeat (with_reducible (have l1 := And.left l2; replace l2 := And.right l2; revert l1; k_extra "my conj"))))
  k_with "my same" =>
    (intro z9 hz9; first | rfl | (refine same_step hz9 (by k_mem) ?_; k_extra "my same2") | ((simp only [List.mem_cons, List.not_mem_nil, or_false, not_or] at hz9); first | rfl | (simp only [hz9, if_false, if_neg, over, not_false_eq_true]; done) | (simp [hz9, over]; done)))
  k_with "my same2" =>
    (first | rfl | (refine same_step (by assumption) (by k_mem) ?_; k_extra "my same2"))
  k_with "TurnPost" =>
    (dsimp only [TurnPost])
  k_with "my for" =>
    (k_here; (rename Fr _ _ _ _ => lF'); (with_unfolding_all refine For_turns lF' ?_ (hE := by first | passes_own | assumption); k_whole))
  k_with "execs cons" =>
    (refine wpAny_execs_cons ?_; (try k_fold))
  k_with "room" =>
    (first | exact room2 (by assumption) (by exact rfl) | exact room3 (by assumption) (by exact rfl) | exact room1 (by assumption) (by exact rfl) | exact room0 (by assumption) | exact room4 (by assumption) (by exact rfl))
  k_with "k_room" =>
    (k_extra "room")
  k_with "call builtin:len" =>
    (k_here; k_dflt (refine len_now (Heap.IsList.at (by assumption) fun o e => Fr.keep (by k_asm) _ o e) (Nat.le_trans (m := 63) (by assumption) (Nat.le_of_ble_eq_true rfl)) ?_))
  k_with "subscriptTail Name Constant ref int" =>
    (k_here; k_dflt ((obtain ⟨c9, t9, e9⟩ := first_int (by assumption) (by assumption)); refine item_now (i := 0) (Heap.IsList.at (by assumption) fun o e => Fr.keep (by k_asm) _ o e) (Nat.le_trans (m := 63) (by assumption) (Nat.le_of_ble_eq_true rfl)) e9 ?_))
  k_with "exec Assign cons IfExp" =>
    (k_here; (fail_if_success (have := (‹Going› : Going))); refine halt ?_)
  trivial
theorem pool_p (w : World) (scr : Addr) (items : List Value) (ns : List Int) (hi : IntsAre items ns) (hn : items.length ≤ 63) :
    Ct w 456 2 24 [.ref scr] [] (fun h => h.IsList scr items.toArray) (fun v fp' => ∃ D o, v = .ref D ∧ fp' = [(D, o)] ∧ IsSrc o) := by
  intro mean mg mb dp un gd cn cs ca ccd cl' outer A₀ base h₀ L m s Q E B F X N T' hk hp hdp hun hret
  refine wpAny_call ?_
  k_dflt ktr_enter
  rename GSub _ _ _ => kG
  rename Fr _ _ _ (fun y => List.lookup y _) => F1
  have F2 : Fr _ _ _ (frm [(Str.ofString "script", .ref scr)]) := F1
  clear F1
  generalize s.toks + List.length _ = tk0
  have hl := hp.at fun o e => kG _ o e List.not_mem_nil
  clear hp
  k_steps
  refine unhalt (cut_st (PoolJ scr) F2 ?_ ?_)
  · have going : Going := ⟨⟩
    show wpAny _ _ _ _ _ _
    k_steps
    all_goals exact SEnd.intro (by assumption) (by assumption) (List.forall_mem_nil _) (.mk _ _)
  · intro h1 tk1 m1 nn1 F3 N3 J1
    obtain ⟨c, t⟩ := J1
    clear F2
    dsimp only
    k_steps
    exact back_close2 hret (by assumption) (by assumption) kG (by assumption) (by assumption) _ (fun _ h => h) ⟨_, _, rfl, rfl, ⟨_, _, _, _, _, pool_x, Int.fmod_nonneg_of_pos _ (by decide), Int.fmod_lt_of_pos _ (by decide), rfl⟩⟩
end

noncomputable abbrev sNo : Str := Str.ofString ""
noncomputable abbrev rootN : PN := ⟨kRoot, sNo, sNo, sNo, [], []⟩
theorem root_tr {P : Params} {t dt r : Addr} {v : Value} {fp' : Led} (h : RootR P t dt r v fp') : ∃ tk H, v = .int ((0 : Nat) : Int) tk ∧ H.t = t ∧ TrP P H [rootN] fp' := by
  obtain ⟨T, d, tk, tk2, rfl, rfl, ok, rfl, hn, hk, hc, ha, t1, t2, t3, t4, e1, e2, e3, e4⟩ := h
  refine ⟨tk, T.head, rfl, rfl, T, rfl, ok, ⟨by rw [hn]; rfl, fun i d' hd => ?_⟩, rfl⟩
  rw [hn] at hd
  cases i with
  | succ i => simp at hd
  | zero =>
    cases hd
    exact ⟨rootN, rfl, ⟨_, hk⟩, ⟨_, e1⟩, ⟨_, _, e2⟩, ⟨_, e3⟩, ⟨_, e4⟩, ⟨[], hc, rfl⟩, ⟨[], ha, rfl⟩⟩
theorem root_grown : Grown [rootN] [] := ⟨⟨rootN, rfl, rfl, rfl, .nil⟩, by simp [nodes], fun _ h => nomatch h⟩
/-- the source, the tree and its root are made -/
inductive Law3 (w : World) (h₀ : Heap) (L : Addr) : (Str → Option Value) → Led → Prop
  | mk (a : Addr) (o : Obj) (H : TH) (X : Led) (tk : Tok) (scr : Value) (c1 c2 c3 c4 c5 : Obj) (ho : IsSrc o) (hX : TrP w.params H [rootN] X) (off : OffFr [(a, o), (L + 1 + 1 + 1 + 1 + 1, c5), (L + 1 + 1 + 1 + 1, c4), (L + 1 + 1 + 1, c3), (L + 1 + 1, c2), (L + 1, c1)] X)
    (ha : ∀ b ∈ [L + 1 + 1 + 1 + 1 + 1, L + 1 + 1 + 1 + 1, L + 1 + 1 + 1, L + 1 + 1, L + 1], @Ne Nat a b) (d1 : c1.data = .cell (some (.ref H.t))) (d2 : c2.data = .cell none) (d3 : c3.data = .cell none) (d4 : c4.data = .cell none) (d5 : c5.data = .cell none) :
    Law3 w h₀ L (fun y => if y = Str.ofString "root" then some (.int ((0 : Nat) : Int) tk) else if y = Str.ofString "source" then some (.ref a) else if y = Str.ofString "script" then some scr else none) ((a, o) :: (L + 1 + 1 + 1 + 1 + 1, c5) :: (L + 1 + 1 + 1 + 1, c4) :: (L + 1 + 1 + 1, c3) :: (L + 1 + 1, c2) :: (L + 1, c1) :: X)
theorem root_use {w : World} {L : Addr} {x d r : Addr} {tk0 : Tok} {n0 n1 : Nat} {h₀ : Heap} {m : Str → Option Value} {rest : Led}
    {mean : ExcName → Option Value} {mg mb : Str → Option Value} {dp un : Nat} {gd : Option (List Code)} {cn : Str} {cs : Scope} {ca : Addr} {ccd : Value} {cl : List (Str × Addr)} {outer : List Env} {A₀ : Around} {base : Heap} {s : Shared} {Q E : Value → Shared → Prop}
    (B : Below A₀ base outer h₀) (F : Fr h₀ L s.heap m) (X : (hd.heap_1 w.params).In h₀) (T : Top Vw (looseW Vw []) mean mg mb h₀) (hk : cs.kind = .function)
    (N : News h₀ L s.heap ((r, listOf #[] n0) :: (x, instObj 445 d) :: (d, rowsObj w.params tk0 r n1) :: rest)) (h1 : @LT.lt Nat _ x r) (h2 : @LT.lt Nat _ d r) (h3 : @LT.lt Nat _ d x) (lt : ∀ p ∈ rest, @LT.lt Nat _ p.1 d) (hd : dp + 4 < recursionLimit) (hu : un + 48 < cLine)
    (k : ∀ tk H X' h' tk', H.t = x → TrP w.params H [rootN] X' → Fr h₀ L h' m → News h₀ L h' (rest ++ X') → OffFr rest X' → Q (.int ((0 : Nat) : Int) tk) { s with heap := h', toks := tk' }) :
    wpAny (model PR w) (ktrTop dp un gd cn cs L ca ccd cl outer) (call (.ref 295) [.ref x]) Q E s := by
  refine use_ctM (front := rest) (new_root_t w x d r tk0 n1 n0 (Nat.ne_of_gt h3) (Nat.ne_of_lt h1) (Nat.ne_of_lt h2)) B F X N T hk (fun p hp => ?_) (fun p hp => .tail _ (.tail _ (.tail _ hp))) (fun q hq p hp => ?_) trivial hd hu fun r' X' h' tk' F' N' off R => ?_
  · rcases List.mem_cons.mp hp with rfl | hp
    · exact .tail _ (.head _)
    rcases List.mem_cons.mp hp with rfl | hp
    · exact .tail _ (.tail _ (.head _))
    · rw [List.mem_singleton.mp hp]; exact .head _
  · have hq := lt q hq
    rcases List.mem_cons.mp hp with rfl | hp
    · exact Nat.ne_of_gt (Nat.lt_trans hq h3)
    rcases List.mem_cons.mp hp with rfl | hp
    · exact Nat.ne_of_gt hq
    · rw [List.mem_singleton.mp hp]; exact Nat.ne_of_gt (Nat.lt_trans hq h2)
  · obtain ⟨tk, H, rfl, hH, hX⟩ := root_tr R
    exact k tk H X' h' tk' hH hX F' N' off
section
theorem rows32 : True := by
  k_with_none
  k_with "ktr_enter" =>
    (refine enter_cells (by k_asm) (by k_asm) (by k_asm) (by k_asm) (by k_asm) (by exact rfl) (by exact rfl) (by assumption) (by k_is) (by k_is) (by ktr_room) (by exact BindsTo.of_eq rfl) (by exact rfl) (by decide +kernel) ?_ (by exact rfl) (by exact rfl) (by exact rfl); k_whole; intro g' L' h' tk' cells' FG' F' N' Y' B' X' T' l1 kG'; (try k_lt l1); k_cells Y'; (try dsimp only [List.cons_append, List.nil_append] at N'); (try dsimp only); (try k_fold))
  k_with "ktr_enter" =>
    (refine code_defG (by k_asm) (by k_asm) (by k_asm) (by k_asm) (by k_asm) (by exact rfl) (by exact rfl) (by assumption) (by k_is) (by k_is) (by ktr_room) (by exact BindsTo.of_eq rfl) (by exact locs rfl) ?_ (by exact rfl) (by exact rfl) (by exact rfl) (by decide); k_whole; intro g' L' h' FG' F' N' B' X' T' kG'; (try dsimp only); (try k_fold))
  k_with "k_ne" =>
    (refine neN ?_; (try dsimp only); with_reducible first | assumption | exact Ne.symm (by assumption) | exact Nat.ne_of_gt (by assumption) | exact Nat.ne_of_lt (by assumption) | exact Nat.ne_of_gt (Nat.lt_succ_of_lt (by assumption)) | exact Nat.ne_of_lt (Nat.lt_succ_of_lt (by assumption)))
  k_with "k_lt" =>
    (intro l1; replace l1 := allLt_of l1; (try dsimp only [AllLt] at l1); (repeat (with_reducible (have O8 := And.left l1; replace l1 := And.right l1))))
  k_with "my pick" =>
    (first | (refine Pick1.head ?_; k_extra "k_all") | exact Pick1.tail (by k_ne) (by k_extra "my pick"))
  k_with "my sub" =>
    (first | exact List.forall_mem_nil _ | (refine List.forall_mem_cons.mpr ⟨by k_mem, ?_⟩; k_extra "my sub"))
  k_with "k_room" =>
    ((try simp only [depth_under_make, depth_under_kw, depth_in1, depth_deeper, depth_caller]); (try dsimp only [ktrTop]); omega)
  k_with "my and" =>
    (first | assumption | exact And.intro (by k_ne) (by k_extra "my and") | k_ne)
  k_with "my conj" =>
    (intro l1; (repeat (with_reducible (have O8 := And.left l1; replace l1 := And.right l1))))
  k_with "my off" =>
    ((rename OffL _ _ => O9); (try dsimp only [OffL, Off1, keys, nodeLed, List.map] at O9); revert O9; k_extra "my conj2")
  k_with "CompRest" =>
    (with_unfolding_all first | (refine LCg.CompRest.succ ?_; intro v' I' oI' C' oC' D' m' h' tk' E' hv' hC' hx' F' N' off' ne'; (first | lcg_open hv' | (obtain ⟨t9', hv9'⟩ := hv'; subst hv9')); (try dsimp only [LCg.Off3] at off'); revert off'; k_extra "my conj2"; revert ne'; k_extra "my conj") | refine LCg.CompRest.zero ?_)
  k_with "FinE" =>
    ((unfold LCg.FinE); intro D' h' tk' F' N' o1'; (try dsimp only [LCg.Off1] at o1'); (try dsimp only [List.nil_append, List.cons_append] at N'); (try dsimp only); revert o1'; k_extra "my conj")
  k_with "FinA" =>
    ((unfold LCg.FinA); intro D' h' tk' F' N' o1'; (try dsimp only [LCg.Off1] at o1'); (try dsimp only [List.nil_append, List.cons_append] at N'); (try dsimp only); revert o1'; k_extra "my conj")
  k_with "k_all" =>
    (first | exact List.forall_mem_nil _ | exact Off1.all (by with_reducible assumption) | exact AllLt.ne (by with_reducible assumption) | exact List.forall_mem_cons.mpr ⟨by k_ne, by k_extra "k_all"⟩)
  k_with "my conj2" =>
    (intro l2; (repeat (with_reducible (have l1 := And.left l2; replace l2 := And.right l2; revert l1; k_extra "my conj"))))
  k_with "my same" =>
    (intro z9 hz9; first | rfl | (refine same_step hz9 (by k_mem) ?_; k_extra "my same2") | ((simp only [List.mem_cons, List.not_mem_nil, or_false, not_or] at hz9); first | rfl | (simp only [hz9, if_false, if_neg, over, not_false_eq_true]; done) | (simp [hz9, over]; done)))
  k_with "my same2" =>
    (first | rfl | (refine same_step (by assumption) (by k_mem) ?_; k_extra "my same2"))
  k_with "TurnPost" =>
    (dsimp only [TurnPost])
  k_with "my for" =>
    (k_here; (rename Fr _ _ _ _ => lF'); (with_unfolding_all refine For_turns lF' ?_ (hE := by first | passes_own | assumption); k_whole))
  k_with "execs cons" =>
    (refine wpAny_execs_cons ?_; (try k_fold))
  k_with "room" =>
    (first | exact room2 (by assumption) (by exact rfl) | exact room3 (by assumption) (by exact rfl) | exact room1 (by assumption) (by exact rfl) | exact room0 (by assumption) | exact room4 (by assumption) (by exact rfl))
  k_with "k_room" =>
    (k_extra "room")
  k_with "k_inst" =>
    (refine ⟨(News.get (by k_asm) (by k_mem)), rfl, rfl, (News.get (by k_asm) (by k_mem))⟩)
  k_with "call ref" =>
    (k_here; (with_reducible show wpAny _ _ (call (Value.ref 456) _) _ _ _); k_dflt (refine use_ctE (pool_p _ _ _ _ (by assumption) (by assumption)) (by k_asm) (by k_asm) (by k_asm) (by k_asm) (by k_asm) (by exact rfl) (by exact Heap.IsList.at (by assumption) fun o e => Fr.keep (by k_asm) _ o e) (by ktr_room) (by ktr_units) ?_); intro r9 fp9 h9 tk9 F9 N9 O9 R9; obtain ⟨D9, o9, e9, f9, hs9⟩ := R9; subst e9; subst f9; k_extra "my off"; (try dsimp only [List.cons_append, List.nil_append] at N9); (try dsimp only); (try k_fold))
  k_with "execs cons" =>
    ((with_reducible show wpAny _ _ (execs _ (envX lawN _ _ _ _ _)) _ _ _); refine halt ?_)
  k_with "call ref" =>
    (k_here; (with_reducible show wpAny _ _ (call (Value.ref 295) _) _ _ _); refine halt ?_)
  trivial
theorem law_03 (w : World) (h : LawAt w 3 (Law3 w)) : LawAt w 0 Law0 := by
  intro mean mg mb dp un gd a ccd outer A₀ base h₀ L m nn s Q E B F X N T hdp hun hJ hret hpo
  obtain ⟨scr, items, ns, c1, c2, c3, c4, c5, hl, hi, hn, d1, d2, d3, d4, d5⟩ := hJ
  have hn' : items.length ≤ 63 := by rw [hi.length]; exact hn
  refine wpAny_execs_cons ?_
  try k_fold
  k_steps
  refine unhalt (wpAny_execs_cons ?_)
  k_fold
  k_steps
  refine unhalt (wpAny_execs_cons ?_)
  k_fold
  k_steps
  refine unhalt (root_use (rest := [_, _, _, _, _, _]) B (by assumption) X T rfl (by assumption) (by assumption) (by assumption) (by assumption) (List.forall_mem_cons.mpr ⟨by assumption, List.forall_mem_cons.mpr ⟨by assumption, List.forall_mem_cons.mpr ⟨by assumption, List.forall_mem_cons.mpr ⟨by assumption, List.forall_mem_cons.mpr ⟨by assumption, List.forall_mem_cons.mpr ⟨by assumption, List.forall_mem_nil _⟩⟩⟩⟩⟩⟩) (by ktr_room) (by ktr_units) ?_)
  intro tk H X9 h9 tk9 hH hX F9 N9 off9
  k_steps
  exact unhalt (h _ _ _ _ _ _ _ _ _ _ _ _ _ _ _ _ _ _ B (by assumption) X (by assumption) T hdp hun (Law3.mk _ _ H X9 tk _ _ _ _ _ _ (by assumption) hX off9 (List.forall_mem_cons.mpr ⟨by k_ne, List.forall_mem_cons.mpr ⟨by k_ne, List.forall_mem_cons.mpr ⟨by k_ne, List.forall_mem_cons.mpr ⟨by k_ne, List.forall_mem_cons.mpr ⟨by k_ne, List.forall_mem_nil _⟩⟩⟩⟩⟩) (by rw [hH]; assumption) d2 d3 d4 d5) hret hpo)
end

noncomputable abbrev cellsL (L : Addr) (c1 c2 c3 c4 c5 : Obj) : Led := [(L + 1 + 1 + 1 + 1 + 1, c5), (L + 1 + 1 + 1 + 1, c4), (L + 1 + 1 + 1, c3), (L + 1 + 1, c2), (L + 1, c1)]
theorem cells_ne (L : Addr) : NeAll [L + 1 + 1 + 1 + 1 + 1, L + 1 + 1 + 1 + 1, L + 1 + 1 + 1, L + 1 + 1, L + 1] := by
  have h : ∀ n k : Nat, n + (k + 1) ≠ n := fun n k => by omega
  exact ⟨⟨h (L + 1 + 1 + 1 + 1) 0, h (L + 1 + 1 + 1) 1, h (L + 1 + 1) 2, h (L + 1) 3, trivial⟩, ⟨h (L + 1 + 1 + 1) 0, h (L + 1 + 1) 1, h (L + 1) 2, trivial⟩, ⟨h (L + 1 + 1) 0, h (L + 1) 1, trivial⟩, ⟨h (L + 1) 0, trivial⟩, trivial, trivial⟩
theorem neL_of {x : Addr} {l : List Addr} (h : ∀ b ∈ l, @Ne Nat x b) : NeL x l := by
  induction l with
  | nil => trivial
  | cons a r ih => exact ⟨h a (.head _), ih fun b hb => h b (.tail _ hb)⟩
theorem dtd_off {CL Xt V : Led} {t a K ka kb : Addr} {ot o oK oa ob : Obj} (ne : NeAll [t, a, K, ka, kb]) (offX : OffFr CL Xt) (off9 : OffFr (CL ++ Xt) ((t, ot) :: (a, o) :: (K, oK) :: (ka, oa) :: (kb, ob) :: V)) (offV : OffFr [(t, ot), (a, o), (K, oK), (ka, oa), (kb, ob)] V) :
    OffFr ((a, o) :: (K, oK) :: CL) (Xt ++ (V ++ [(t, ot), (ka, oa), (kb, ob)])) ∧ Apart Xt (V ++ [(t, ot), (ka, oa), (kb, ob)]) ∧ Apart V [(t, ot), (ka, oa), (kb, ob)] := by
  obtain ⟨⟨n1, n2, n3, n4, _⟩, ⟨n5, n6, n7, _⟩, ⟨n8, n9, _⟩, _⟩ := ne
  have hG : ∀ p ∈ V ++ [(t, ot), (ka, oa), (kb, ob)], p ∈ (t, ot) :: (a, o) :: (K, oK) :: (ka, oa) :: (kb, ob) :: V := fun p hp => by
    rcases List.mem_append.mp hp with hp | hp
    · exact .tail _ (.tail _ (.tail _ (.tail _ (.tail _ hp))))
    rcases List.mem_cons.mp hp with rfl | hp
    · exact .head _
    rcases List.mem_cons.mp hp with rfl | hp
    · exact .tail _ (.tail _ (.tail _ (.head _)))
    · rw [List.mem_singleton.mp hp]; exact .tail _ (.tail _ (.tail _ (.tail _ (.head _))))
  refine ⟨OffFr.cons (fun p hp => ?_) (OffFr.cons (fun p hp => ?_) fun q hq p hp => ?_), fun p hp q hq e => off9 p (List.mem_append_right _ hp) q (hG q hq) e.symm, fun p hp q hq e => ?_⟩
  · rcases List.mem_append.mp hp with hp | hp
    · exact Ne.symm (off9 p (List.mem_append_right _ hp) (a, o) (.tail _ (.head _)))
    rcases List.mem_append.mp hp with hp | hp
    · exact offV (a, o) (.tail _ (.head _)) p hp
    rcases List.mem_cons.mp hp with rfl | hp
    · exact n1
    rcases List.mem_cons.mp hp with rfl | hp
    · exact Ne.symm n6
    · rw [List.mem_singleton.mp hp]; exact Ne.symm n7
  · rcases List.mem_append.mp hp with hp | hp
    · exact Ne.symm (off9 p (List.mem_append_right _ hp) (K, oK) (.tail _ (.tail _ (.head _))))
    rcases List.mem_append.mp hp with hp | hp
    · exact offV (K, oK) (.tail _ (.tail _ (.head _))) p hp
    rcases List.mem_cons.mp hp with rfl | hp
    · exact n2
    rcases List.mem_cons.mp hp with rfl | hp
    · exact Ne.symm n8
    · rw [List.mem_singleton.mp hp]; exact Ne.symm n9
  · rcases List.mem_append.mp hp with hp | hp
    · exact offX q hq p hp
    · exact off9 q (List.mem_append_left _ hq) p (hG p hp)
  · rcases List.mem_cons.mp hq with rfl | hq
    · exact offV (t, ot) (.head _) p hp e
    rcases List.mem_cons.mp hq with rfl | hq
    · exact offV (ka, oa) (.tail _ (.tail _ (.tail _ (.head _)))) p hp e
    · rw [List.mem_singleton.mp hq] at e; exact offV (kb, ob) (.tail _ (.tail _ (.tail _ (.tail _ (.head _))))) p hp e
/-- the Dtd and the kinds are made -/
inductive Law4 (w : World) (h₀ : Heap) (L : Addr) : (Str → Option Value) → Led → Prop
  | mk (a D K ka kb : Addr) (o oK oa ob : Obj) (dk : Str → List (Str × Str)) (c : Nat) (H : TH) (X V G : Led) (tk : Tok) (scr : Value) (c1 c2 c3 c4 c5 : Obj) (ho : IsSrc o) (hX : TrP w.params H [rootN] X) (ds : DS w D ka kb oK oa ob dk c V) (hc : c ≤ 6) (hm : ∀ el, ∀ p ∈ dk el, p ∈ menuK)
    (lk : (K == sysModules) = false) (la : (ka == sysModules) = false) (lb : (kb == sysModules) = false) (ga : (ka, oa) ∈ G) (gb : (kb, ob) ∈ G)
    (off : OffFr ((a, o) :: (K, oK) :: cellsL L c1 c2 c3 c4 c5) (X ++ (V ++ G))) (ap : Apart X (V ++ G)) (av : Apart V G) (ne : NeAll (a :: K :: keys (cellsL L c1 c2 c3 c4 c5)))
    (d1 : c1.data = .cell (some (.ref H.t))) (d2 : c2.data = .cell (some (.ref D))) (d3 : c3.data = .cell (some (.ref K))) (d4 : c4.data = .cell none) (d5 : c5.data = .cell none) :
    Law4 w h₀ L (fun y => if y = Str.ofString "root" then some (.int ((0 : Nat) : Int) tk) else if y = Str.ofString "source" then some (.ref a) else if y = Str.ofString "script" then some scr else none) ((a, o) :: (K, oK) :: (cellsL L c1 c2 c3 c4 c5 ++ (X ++ (V ++ G))))
section
theorem rows33 : True := by
  k_with_none
  k_with "ktr_enter" =>
    (refine enter_cells (by k_asm) (by k_asm) (by k_asm) (by k_asm) (by k_asm) (by exact rfl) (by exact rfl) (by assumption) (by k_is) (by k_is) (by ktr_room) (by exact BindsTo.of_eq rfl) (by exact rfl) (by decide +kernel) ?_ (by exact rfl) (by exact rfl) (by exact rfl); k_whole; intro g' L' h' tk' cells' FG' F' N' Y' B' X' T' l1 kG'; (try k_lt l1); k_cells Y'; (try dsimp only [List.cons_append, List.nil_append] at N'); (try dsimp only); (try k_fold))
  k_with "ktr_enter" =>
    (refine code_defG (by k_asm) (by k_asm) (by k_asm) (by k_asm) (by k_asm) (by exact rfl) (by exact rfl) (by assumption) (by k_is) (by k_is) (by ktr_room) (by exact BindsTo.of_eq rfl) (by exact locs rfl) ?_ (by exact rfl) (by exact rfl) (by exact rfl) (by decide); k_whole; intro g' L' h' FG' F' N' B' X' T' kG'; (try dsimp only); (try k_fold))
  k_with "k_ne" =>
    (refine neN ?_; (try dsimp only); with_reducible first | assumption | exact Ne.symm (by assumption) | exact Nat.ne_of_gt (by assumption) | exact Nat.ne_of_lt (by assumption) | exact Nat.ne_of_gt (Nat.lt_succ_of_lt (by assumption)) | exact Nat.ne_of_lt (Nat.lt_succ_of_lt (by assumption)))
  k_with "k_lt" =>
    (intro l1; replace l1 := allLt_of l1; (try dsimp only [AllLt] at l1); (repeat (with_reducible (have O8 := And.left l1; replace l1 := And.right l1))))
  k_with "my pick" =>
    (first | (refine Pick1.head ?_; k_extra "k_all") | exact Pick1.tail (by k_ne) (by k_extra "my pick"))
  k_with "my sub" =>
    (first | exact List.forall_mem_nil _ | (refine List.forall_mem_cons.mpr ⟨by k_mem, ?_⟩; k_extra "my sub"))
  k_with "k_room" =>
    ((try simp only [depth_under_make, depth_under_kw, depth_in1, depth_deeper, depth_caller]); (try dsimp only [ktrTop]); omega)
  k_with "my and" =>
    (first | assumption | exact And.intro (by k_ne) (by k_extra "my and") | k_ne)
  k_with "my conj" =>
    (intro l1; (repeat (with_reducible (have O8 := And.left l1; replace l1 := And.right l1))))
  k_with "my off" =>
    ((rename OffL _ _ => O9); (try dsimp only [OffL, Off1, keys, nodeLed, List.map] at O9); revert O9; k_extra "my conj2")
  k_with "CompRest" =>
    (with_unfolding_all first | (refine LCg.CompRest.succ ?_; intro v' I' oI' C' oC' D' m' h' tk' E' hv' hC' hx' F' N' off' ne'; (first | lcg_open hv' | (obtain ⟨t9', hv9'⟩ := hv'; subst hv9')); (try dsimp only [LCg.Off3] at off'); revert off'; k_extra "my conj2"; revert ne'; k_extra "my conj") | refine LCg.CompRest.zero ?_)
  k_with "FinE" =>
    ((unfold LCg.FinE); intro D' h' tk' F' N' o1'; (try dsimp only [LCg.Off1] at o1'); (try dsimp only [List.nil_append, List.cons_append] at N'); (try dsimp only); revert o1'; k_extra "my conj")
  k_with "FinA" =>
    ((unfold LCg.FinA); intro D' h' tk' F' N' o1'; (try dsimp only [LCg.Off1] at o1'); (try dsimp only [List.nil_append, List.cons_append] at N'); (try dsimp only); revert o1'; k_extra "my conj")
  k_with "k_all" =>
    (first | exact List.forall_mem_nil _ | exact Off1.all (by with_reducible assumption) | exact AllLt.ne (by with_reducible assumption) | exact List.forall_mem_cons.mpr ⟨by k_ne, by k_extra "k_all"⟩)
  k_with "my conj2" =>
    (intro l2; (repeat (with_reducible (have l1 := And.left l2; replace l2 := And.right l2; revert l1; k_extra "my conj"))))
  k_with "my same" =>
    (intro z9 hz9; first | rfl | (refine same_step hz9 (by k_mem) ?_; k_extra "my same2") | ((simp only [List.mem_cons, List.not_mem_nil, or_false, not_or] at hz9); first | rfl | (simp only [hz9, if_false, if_neg, over, not_false_eq_true]; done) | (simp [hz9, over]; done)))
  k_with "my same2" =>
    (first | rfl | (refine same_step (by assumption) (by k_mem) ?_; k_extra "my same2"))
  k_with "TurnPost" =>
    (dsimp only [TurnPost])
  k_with "my for" =>
    (k_here; (rename Fr _ _ _ _ => lF'); (with_unfolding_all refine For_turns lF' ?_ (hE := by first | passes_own | assumption); k_whole))
  k_with "execs cons" =>
    (refine wpAny_execs_cons ?_; (try k_fold))
  k_with "room" =>
    (first | exact room2 (by assumption) (by exact rfl) | exact room3 (by assumption) (by exact rfl) | exact room1 (by assumption) (by exact rfl) | exact room0 (by assumption) | exact room4 (by assumption) (by exact rfl))
  k_with "k_room" =>
    (k_extra "room")
  k_with "my in" =>
    (with_reducible first | assumption | (refine List.mem_append_left _ ?_; assumption) | (refine List.mem_append_right _ ?_; assumption) | (refine List.mem_cons_of_mem _ ?_; k_extra "my in"))
  k_with "my tail" =>
    (intro p9 hp9; k_extra "my in")
  k_with "my subs" =>
    (first | exact List.forall_mem_nil _ | k_extra "my tail" | (refine List.forall_mem_cons.mpr ⟨by k_mem, ?_⟩; k_extra "my subs") | with_reducible (refine List.forall_mem_append.mpr ⟨?_, ?_⟩ <;> k_extra "my subs"))
  k_with "k_all" =>
    (first | (with_reducible assumption) | exact OffFr.all (by with_reducible assumption) (by k_mem))
  k_with "my nes" =>
    (first | exact trivial | (refine ⟨by k_ne, ?_⟩; k_extra "my nes"))
  k_with "my neall" =>
    (first | exact trivial | (refine ⟨by k_extra "my nes", ?_⟩; k_extra "my neall"))
  k_with "my ne" =>
    (intro l3; (try dsimp only [NeAll, NeL, keys, List.map] at l3); revert l3; k_extra "my conj2")
  k_with "execs cons" =>
    ((with_reducible show wpAny _ _ (execs _ (envX lawN _ _ _ _ _)) _ _ _); refine halt ?_)
  k_with "call ref" =>
    (k_here; (with_reducible show wpAny _ _ (call (Value.ref 477) _) _ _ _); refine halt ?_)
  trivial
theorem law_34 (w : World) (h : LawAt w 4 (Law4 w)) : LawAt w 3 (Law3 w) := by
  intro mean mg mb dp un gd ca ccd outer A₀ base h₀ L m nn s Q E B F X N T hdp hun hJ hret hpo
  obtain ⟨a, o, H, Xt, tk, scr, c1, c2, c3, c4, c5, ho, hX, off, ha, d1, d2, d3, d4, d5⟩ := hJ
  have hc := cells_ne L
  refine wpAny_execs_cons ?_
  try k_fold
  k_steps
  have off1 := off _ (.head _)
  refine unhalt (use_ctM (front := cellsL L c1 c2 c3 c4 c5 ++ Xt) (law_dtd_ct w a o ho) B (by assumption) X (by assumption) T rfl (List.forall_mem_cons.mpr ⟨.head _, List.forall_mem_nil _⟩) (fun p hp => .tail _ hp) (fun q hq p hp e => ?_) trivial (by ktr_room) (by ktr_units) ?_)
  · rw [List.mem_singleton.mp hp] at e
    rcases List.mem_append.mp hq with hq | hq
    · exact ha q.1 (List.mem_map_of_mem (f := fun p : Addr × Obj => p.1) hq) e
    · exact off1 q hq e.symm
  · intro r9 X9 h9 tk9 F9 N9 off9 R9
    obtain ⟨t, D, K, ka, kb, oK, oa, ob, dk, c, V, o', rfl, hs, rfl, ds, offV, hcc, hm, lk, la, lb, ne⟩ := R9
    have offX : OffFr (cellsL L c1 c2 c3 c4 c5) Xt := fun q hq => off q (.tail _ hq)
    obtain ⟨offT, apX, apV⟩ := dtd_off ne offX off9 offV
    have neT : NeAll (a :: K :: keys (cellsL L c1 c2 c3 c4 c5)) := ⟨⟨ne.2.1.1, neL_of ha⟩, neL_of (fun b hb => by obtain ⟨p, hp, rfl⟩ := List.mem_map.mp hb; exact off9 p (List.mem_append_left _ hp) (K, oK) (.tail _ (.tail _ (.head _)))), hc⟩
    have N5 := news_sub (l' := (a, o') :: (K, oK) :: (cellsL L c1 c2 c3 c4 c5 ++ (Xt ++ (V ++ [(t, tupD D K), (ka, oa), (kb, ob)])))) N9 (by
      refine List.forall_mem_cons.mpr ⟨List.mem_append_right _ (.tail _ (.head _)), List.forall_mem_cons.mpr ⟨List.mem_append_right _ (.tail _ (.tail _ (.head _))), fun p hp => ?_⟩⟩
      rcases List.mem_append.mp hp with hp | hp
      · exact List.mem_append_left _ (List.mem_append_left _ hp)
      rcases List.mem_append.mp hp with hp | hp
      · exact List.mem_append_left _ (List.mem_append_right _ hp)
      refine List.mem_append_right _ ?_
      rcases List.mem_append.mp hp with hp | hp
      · exact .tail _ (.tail _ (.tail _ (.tail _ (.tail _ hp))))
      rcases List.mem_cons.mp hp with rfl | hp
      · exact .head _
      rcases List.mem_cons.mp hp with rfl | hp
      · exact .tail _ (.tail _ (.tail _ (.head _)))
      · rw [List.mem_singleton.mp hp]; exact .tail _ (.tail _ (.tail _ (.tail _ (.head _)))))
    have hG : (ka, oa) ∈ [(t, tupD D K), (ka, oa), (kb, ob)] ∧ (kb, ob) ∈ [(t, tupD D K), (ka, oa), (kb, ob)] := ⟨.tail _ (.head _), .tail _ (.tail _ (.head _))⟩
    have it : IsTup h9 t #[.ref D, .ref K] := News.isTup N9 (List.mem_append_right _ (.head _))
    clear N9 off9 offV ne off hc ha
    generalize [(t, tupD D K), (ka, oa), (kb, ob)] = G at offT apX apV N5 hG
    obtain ⟨ga, gb⟩ := hG
    have neT2 := neT
    revert neT2
    k_extra "my ne"
    refine unpackN_ F9 N5 it rfl rfl rfl ?_
    intro h8 F8 N8
    clear N5 F9
    dsimp only [cellsL, List.cons_append, List.nil_append] at N8 offT
    k_steps
    rename Fr _ _ _ _ => F7
    rename News _ _ _ _ => N7
    rename _ = Data.cell (some (Value.ref K)) => e3
    rename _ = Data.cell (some (Value.ref D)) => e2
    have J7 := Law4.mk (h₀ := h₀) a D K ka kb o' oK oa ob dk c H Xt V G tk scr c1 _ _ c4 c5 hs hX ds hcc hm lk la lb ga gb (by exact offT.rep rfl) apX apV (by exact neT) d1 e2 e3 d4 d5
    exact unhalt (h _ _ _ _ _ _ _ _ _ _ _ _ _ _ _ _ _ _ B F7 X N7 T hdp hun J7 hret hpo)
end

theorem rows_off {CL Xt V G X' Y0 : Led} {a K R : Addr} {o o' oK oR : Obj} (off : OffFr ((a, o) :: (K, oK) :: CL) (Xt ++ (V ++ G))) (av : Apart V G) (off9 : OffFr ((K, oK) :: (CL ++ (V ++ G))) ((a, o') :: (R, oR) :: (X' ++ Y0))) (offXY : OffFr [(a, o'), (R, oR)] (X' ++ Y0)) (naR : @Ne Nat a R) (ap : Apart X' Y0) :
    OffFr ((K, oK) :: (R, oR) :: CL) (X' ++ (V ++ ((a, o') :: (G ++ Y0)))) ∧ Apart X' (V ++ ((a, o') :: (G ++ Y0))) ∧ Apart V ((a, o') :: (G ++ Y0)) := by
  have mV : ∀ p ∈ V, p ∈ (K, oK) :: (CL ++ (V ++ G)) := fun p hp => .tail _ (List.mem_append_right _ (List.mem_append_left _ hp))
  have mG : ∀ p ∈ G, p ∈ (K, oK) :: (CL ++ (V ++ G)) := fun p hp => .tail _ (List.mem_append_right _ (List.mem_append_right _ hp))
  have mC : ∀ p ∈ CL, p ∈ (K, oK) :: (CL ++ (V ++ G)) := fun p hp => .tail _ (List.mem_append_left _ hp)
  have nX : ∀ p ∈ X', p ∈ (a, o') :: (R, oR) :: (X' ++ Y0) := fun p hp => .tail _ (.tail _ (List.mem_append_left _ hp))
  have nY : ∀ p ∈ Y0, p ∈ (a, o') :: (R, oR) :: (X' ++ Y0) := fun p hp => .tail _ (.tail _ (List.mem_append_right _ hp))
  have split : ∀ p ∈ X' ++ (V ++ ((a, o') :: (G ++ Y0))), p ∈ X' ∨ p ∈ V ∨ p = (a, o') ∨ p ∈ G ∨ p ∈ Y0 := fun p hp => by
    rcases List.mem_append.mp hp with hp | hp
    · exact .inl hp
    rcases List.mem_append.mp hp with hp | hp
    · exact .inr (.inl hp)
    rcases List.mem_cons.mp hp with hp | hp
    · exact .inr (.inr (.inl hp))
    rcases List.mem_append.mp hp with hp | hp
    · exact .inr (.inr (.inr (.inl hp)))
    · exact .inr (.inr (.inr (.inr hp)))
  refine ⟨OffFr.cons (fun p hp => ?_) (OffFr.cons (fun p hp => ?_) fun q hq p hp => ?_), fun p hp q hq => ?_, fun p hp q hq => ?_⟩
  · rcases split p hp with h | h | rfl | h | h
    · exact off9 _ (.head _) p (nX p h)
    · exact off _ (.tail _ (.head _)) p (List.mem_append_right _ (List.mem_append_left _ h))
    · exact off9 _ (.head _) _ (.head _)
    · exact off _ (.tail _ (.head _)) p (List.mem_append_right _ (List.mem_append_right _ h))
    · exact off9 _ (.head _) p (nY p h)
  · rcases split p hp with h | h | rfl | h | h
    · exact offXY _ (.tail _ (.head _)) p (List.mem_append_left _ h)
    · exact Ne.symm (off9 p (mV p h) _ (.tail _ (.head _)))
    · exact naR
    · exact Ne.symm (off9 p (mG p h) _ (.tail _ (.head _)))
    · exact offXY _ (.tail _ (.head _)) p (List.mem_append_right _ h)
  · rcases split p hp with h | h | rfl | h | h
    · exact off9 q (mC q hq) p (nX p h)
    · exact off q (.tail _ (.tail _ hq)) p (List.mem_append_right _ (List.mem_append_left _ h))
    · exact off9 q (mC q hq) _ (.head _)
    · exact off q (.tail _ (.tail _ hq)) p (List.mem_append_right _ (List.mem_append_right _ h))
    · exact off9 q (mC q hq) p (nY p h)
  · rcases split q (List.mem_append_right _ hq) with h | h | rfl | h | h
    · rcases List.mem_append.mp hq with h2 | h2
      · exact off9 q (mV q h2) p (nX p hp)
      rcases List.mem_cons.mp h2 with rfl | h2
      · exact offXY _ (.head _) p (List.mem_append_left _ hp)
      rcases List.mem_append.mp h2 with h2 | h2
      · exact off9 q (mG q h2) p (nX p hp)
      · exact ap p hp q h2
    · exact off9 q (mV q h) p (nX p hp)
    · exact offXY _ (.head _) p (List.mem_append_left _ hp)
    · exact off9 q (mG q h) p (nX p hp)
    · exact ap p hp q h
  · rcases List.mem_cons.mp hq with rfl | h
    · exact Ne.symm (off9 p (mV p hp) _ (.head _))
    rcases List.mem_append.mp h with h | h
    · exact av p hp q h
    · exact Ne.symm (off9 p (mV p hp) q (nY q h))
theorem neL_at {x : Addr} {l : List Addr} (h : NeL x l) {b : Addr} (hb : b ∈ l) : @Ne Nat x b := by
  induction l with
  | nil => cases hb
  | cons a r ih =>
    rcases List.mem_cons.mp hb with rfl | hb
    · exact h.1
    · exact ih h.2 hb
/-- the rows are grown -/
inductive Law5 (w : World) (h₀ : Heap) (L : Addr) : (Str → Option Value) → Led → Prop
  | mk (a D K ka kb R : Addr) (oK oa ob : Obj) (dk : Str → List (Str × Str)) (c n : Nat) (H : TH) (pt : List PN) (rvs : List Value) (rows : List Rw) (X V Y : Led) (tk : Tok) (scr : Value) (c1 c2 c3 c4 c5 : Obj) (hX : TrP w.params H pt X) (gr : Grown pt rows) (hr : All2 (RowAt (InL Y)) rvs rows) (l1 : 2 ≤ rows.length) (l2 : rows.length ≤ 5) (l3 : pt.length ≤ 26) (oks : ∀ r ∈ rows, RowOk r)
    (ds : DS w D ka kb oK oa ob dk c V) (hc : c ≤ 6) (hm : ∀ el, ∀ p ∈ dk el, p ∈ menuK) (lk : (K == sysModules) = false) (la : (ka == sysModules) = false) (lb : (kb == sysModules) = false) (ga : (ka, oa) ∈ Y) (gb : (kb, ob) ∈ Y)
    (off : OffFr ((K, oK) :: (R, listOf rvs.toArray n) :: cellsL L c1 c2 c3 c4 c5) (X ++ (V ++ Y))) (ap : Apart X (V ++ Y)) (av : Apart V Y) (ne : NeAll (K :: R :: keys (cellsL L c1 c2 c3 c4 c5)))
    (d1 : c1.data = .cell (some (.ref H.t))) (d2 : c2.data = .cell (some (.ref D))) (d3 : c3.data = .cell (some (.ref K))) (d4 : c4.data = .cell none) (d5 : c5.data = .cell none) :
    Law5 w h₀ L (fun y => if y = Str.ofString "rows" then some (.ref R) else if y = Str.ofString "root" then some (.int ((0 : Nat) : Int) tk) else if y = Str.ofString "source" then some (.ref a) else if y = Str.ofString "script" then some scr else none) ((K, oK) :: (R, listOf rvs.toArray n) :: (cellsL L c1 c2 c3 c4 c5 ++ (X ++ (V ++ Y))))
section
theorem rows34 : True := by
  k_with_none
  k_with "ktr_enter" =>
    (refine enter_cells (by k_asm) (by k_asm) (by k_asm) (by k_asm) (by k_asm) (by exact rfl) (by exact rfl) (by assumption) (by k_is) (by k_is) (by ktr_room) (by exact BindsTo.of_eq rfl) (by exact rfl) (by decide +kernel) ?_ (by exact rfl) (by exact rfl) (by exact rfl); k_whole; intro g' L' h' tk' cells' FG' F' N' Y' B' X' T' l1 kG'; (try k_lt l1); k_cells Y'; (try dsimp only [List.cons_append, List.nil_append] at N'); (try dsimp only); (try k_fold))
  k_with "ktr_enter" =>
    (refine code_defG (by k_asm) (by k_asm) (by k_asm) (by k_asm) (by k_asm) (by exact rfl) (by exact rfl) (by assumption) (by k_is) (by k_is) (by ktr_room) (by exact BindsTo.of_eq rfl) (by exact locs rfl) ?_ (by exact rfl) (by exact rfl) (by exact rfl) (by decide); k_whole; intro g' L' h' FG' F' N' B' X' T' kG'; (try dsimp only); (try k_fold))
  k_with "k_ne" =>
    (refine neN ?_; (try dsimp only); with_reducible first | assumption | exact Ne.symm (by assumption) | exact Nat.ne_of_gt (by assumption) | exact Nat.ne_of_lt (by assumption) | exact Nat.ne_of_gt (Nat.lt_succ_of_lt (by assumption)) | exact Nat.ne_of_lt (Nat.lt_succ_of_lt (by assumption)))
  k_with "k_lt" =>
    (intro l1; replace l1 := allLt_of l1; (try dsimp only [AllLt] at l1); (repeat (with_reducible (have O8 := And.left l1; replace l1 := And.right l1))))
  k_with "my pick" =>
    (first | (refine Pick1.head ?_; k_extra "k_all") | exact Pick1.tail (by k_ne) (by k_extra "my pick"))
  k_with "my sub" =>
    (first | exact List.forall_mem_nil _ | (refine List.forall_mem_cons.mpr ⟨by k_mem, ?_⟩; k_extra "my sub"))
  k_with "k_room" =>
    ((try simp only [depth_under_make, depth_under_kw, depth_in1, depth_deeper, depth_caller]); (try dsimp only [ktrTop]); omega)
  k_with "my and" =>
    (first | assumption | exact And.intro (by k_ne) (by k_extra "my and") | k_ne)
  k_with "my conj" =>
    (intro l1; (repeat (with_reducible (have O8 := And.left l1; replace l1 := And.right l1))))
  k_with "my off" =>
    ((rename OffL _ _ => O9); (try dsimp only [OffL, Off1, keys, nodeLed, List.map] at O9); revert O9; k_extra "my conj2")
  k_with "CompRest" =>
    (with_unfolding_all first | (refine LCg.CompRest.succ ?_; intro v' I' oI' C' oC' D' m' h' tk' E' hv' hC' hx' F' N' off' ne'; (first | lcg_open hv' | (obtain ⟨t9', hv9'⟩ := hv'; subst hv9')); (try dsimp only [LCg.Off3] at off'); revert off'; k_extra "my conj2"; revert ne'; k_extra "my conj") | refine LCg.CompRest.zero ?_)
  k_with "FinE" =>
    ((unfold LCg.FinE); intro D' h' tk' F' N' o1'; (try dsimp only [LCg.Off1] at o1'); (try dsimp only [List.nil_append, List.cons_append] at N'); (try dsimp only); revert o1'; k_extra "my conj")
  k_with "FinA" =>
    ((unfold LCg.FinA); intro D' h' tk' F' N' o1'; (try dsimp only [LCg.Off1] at o1'); (try dsimp only [List.nil_append, List.cons_append] at N'); (try dsimp only); revert o1'; k_extra "my conj")
  k_with "k_all" =>
    (first | exact List.forall_mem_nil _ | exact Off1.all (by with_reducible assumption) | exact AllLt.ne (by with_reducible assumption) | exact List.forall_mem_cons.mpr ⟨by k_ne, by k_extra "k_all"⟩)
  k_with "my conj2" =>
    (intro l2; (repeat (with_reducible (have l1 := And.left l2; replace l2 := And.right l2; revert l1; k_extra "my conj"))))
  k_with "my same" =>
    (intro z9 hz9; first | rfl | (refine same_step hz9 (by k_mem) ?_; k_extra "my same2") | ((simp only [List.mem_cons, List.not_mem_nil, or_false, not_or] at hz9); first | rfl | (simp only [hz9, if_false, if_neg, over, not_false_eq_true]; done) | (simp [hz9, over]; done)))
  k_with "my same2" =>
    (first | rfl | (refine same_step (by assumption) (by k_mem) ?_; k_extra "my same2"))
  k_with "TurnPost" =>
    (dsimp only [TurnPost])
  k_with "my for" =>
    (k_here; (rename Fr _ _ _ _ => lF'); (with_unfolding_all refine For_turns lF' ?_ (hE := by first | passes_own | assumption); k_whole))
  k_with "execs cons" =>
    (refine wpAny_execs_cons ?_; (try k_fold))
  k_with "room" =>
    (first | exact room2 (by assumption) (by exact rfl) | exact room3 (by assumption) (by exact rfl) | exact room1 (by assumption) (by exact rfl) | exact room0 (by assumption) | exact room4 (by assumption) (by exact rfl))
  k_with "k_room" =>
    (k_extra "room")
  k_with "execs cons" =>
    ((with_reducible show wpAny _ _ (execs _ (envX lawN _ _ _ _ _)) _ _ _); refine halt ?_)
  k_with "call ref" =>
    (k_here; (with_reducible show wpAny _ _ (call (Value.ref 489) _) _ _ _); refine halt ?_)
  trivial
theorem law_45 (w : World) (h : LawAt w 5 (Law5 w)) : LawAt w 4 (Law4 w) := by
  intro mean mg mb dp un gd ca ccd outer A₀ base h₀ L m nn s Q E B F X N T hdp hun hJ hret hpo
  obtain ⟨a, D, K, ka, kb, o, oK, oa, ob, dk, c, H, Xt, V, G, tk, scr, c1, c2, c3, c4, c5, ho, hX, ds, hc, hm, lk, la, lb, ga, gb, off, ap, av, ne, d1, d2, d3, d4, d5⟩ := hJ
  refine wpAny_execs_cons ?_
  try k_fold
  k_steps
  have hk := off _ (.head _)
  refine unhalt (use_ctM (front := (K, oK) :: (cellsL L c1 c2 c3 c4 c5 ++ (V ++ G))) (grown_ct w a o H [rootN] Xt tk ho hX root_grown rfl (OffFr.cons (fun p hp => hk p (List.mem_append_left _ hp)) OffFr.nil)) B (by assumption) X (by assumption) T rfl (fun p hp => ?_) (fun p hp => ?_) (fun q hq p hp => ?_) trivial (by ktr_room) (by ktr_units) ?_)
  · rcases List.mem_cons.mp hp with rfl | hp
    · exact .head _
    · exact .tail _ (.tail _ (List.mem_append_right _ (List.mem_append_left _ hp)))
  · rcases List.mem_cons.mp hp with rfl | hp
    · exact .tail _ (.head _)
    rcases List.mem_append.mp hp with hp | hp
    · exact .tail _ (.tail _ (List.mem_append_left _ hp))
    · exact .tail _ (.tail _ (List.mem_append_right _ (List.mem_append_right _ hp)))
  · have hne : ∀ q ∈ (K, oK) :: cellsL L c1 c2 c3 c4 c5, @Ne Nat a q.1 := fun q hq => neL_at ne.1 (List.mem_map_of_mem (f := fun p : Addr × Obj => p.1) hq)
    have hq2 : q ∈ (K, oK) :: cellsL L c1 c2 c3 c4 c5 ∨ q ∈ V ++ G := by
      rcases List.mem_cons.mp hq with rfl | hq
      · exact .inl (.head _)
      rcases List.mem_append.mp hq with hq | hq
      · exact .inl (.tail _ hq)
      · exact .inr hq
    rcases List.mem_cons.mp hp with rfl | hp
    · rcases hq2 with hq2 | hq2
      · exact hne q hq2
      · exact Ne.symm (hk q (List.mem_append_right _ hq2))
    · rcases hq2 with hq2 | hq2
      · exact off q (.tail _ hq2) p (List.mem_append_left _ hp)
      · exact ap p hp q hq2
  · intro r9 X9 h9 tk9 F9 N9 off9 R9
    obtain ⟨⟨o', R, rvs, n, X', Y0, pt, rows, rfl, rfl, hs, hX', apXY, offXY, naR, hr, gr, l1, l2, l3, oks⟩⟩ := R9
    obtain ⟨offT, apX, apV⟩ := rows_off off av off9 offXY naR apXY
    have neT : NeAll (K :: R :: keys (cellsL L c1 c2 c3 c4 c5)) := ⟨⟨Ne.symm (off9 _ (.head _) _ (.tail _ (.head _))), ne.2.1⟩, neL_of (fun b hb => by obtain ⟨p, hp, rfl⟩ := List.mem_map.mp hb; exact off9 p (.tail _ (List.mem_append_left _ hp)) _ (.tail _ (.head _))), cells_ne L⟩
    have N5 := news_sub (l' := (K, oK) :: (R, listOf rvs.toArray n) :: (cellsL L c1 c2 c3 c4 c5 ++ (X' ++ (V ++ ((a, o') :: (G ++ Y0)))))) N9 (by
      refine List.forall_mem_cons.mpr ⟨.head _, List.forall_mem_cons.mpr ⟨List.mem_append_right _ (.tail _ (.head _)), fun p hp => ?_⟩⟩
      rcases List.mem_append.mp hp with hp | hp
      · exact .tail _ (List.mem_append_left _ (List.mem_append_left _ hp))
      rcases List.mem_append.mp hp with hp | hp
      · exact List.mem_append_right _ (.tail _ (.tail _ (List.mem_append_left _ hp)))
      rcases List.mem_append.mp hp with hp | hp
      · exact .tail _ (List.mem_append_left _ (List.mem_append_right _ (List.mem_append_left _ hp)))
      rcases List.mem_cons.mp hp with rfl | hp
      · exact List.mem_append_right _ (.head _)
      rcases List.mem_append.mp hp with hp | hp
      · exact .tail _ (List.mem_append_left _ (List.mem_append_right _ (List.mem_append_right _ hp)))
      · exact List.mem_append_right _ (.tail _ (.tail _ (List.mem_append_right _ hp))))
    clear N9 off9
    k_steps
    rename Fr _ _ _ _ => F7
    rename News _ _ _ _ => N7
    exact unhalt (h _ _ _ _ _ _ _ _ _ _ _ _ _ _ _ _ _ _ B F7 X N7 T hdp hun (Law5.mk a D K ka kb R oK oa ob dk c n H pt rvs rows X' V _ tk scr c1 c2 c3 c4 c5 hX' gr (hr.mono fun _ _ x => x.mono fun _ _ m => .tail _ (List.mem_append_right _ m)) l1 l2 l3 oks ds hc hm lk la lb (.tail _ (List.mem_append_left _ ga)) (.tail _ (List.mem_append_left _ gb)) offT apX apV neT d1 d2 d3 d4 d5) hret hpo)
end

noncomputable abbrev sE : Str := Str.ofString "e"
noncomputable abbrev sI : Str := Str.ofString "i"
theorem declare_use {w : World} {L D x dx : Addr} {od : Obj} {el nm k : Str} {te tn : Tok} {dk : Str → List (Str × Str)} {c : Nat} {heads Xt V Y : Led} {h₀ : Heap} {m : Str → Option Value}
    {mean : ExcName → Option Value} {mg mb : Str → Option Value} {dp un : Nat} {gd : Option (List Code)} {cn : Str} {cs : Scope} {ca : Addr} {ccd : Value} {cl : List (Str × Addr)} {outer : List Env} {A₀ : Around} {base : Heap} {s : Shared} {Q E : Value → Shared → Prop}
    (B : Below A₀ base outer h₀) (F : Fr h₀ L s.heap m) (X : (hd.heap_1 w.params).In h₀) (T : Top Vw (looseW Vw []) mean mg mb h₀) (hk : cs.kind = .function)
    (hX : DtP w D dk c V) (hn : ∀ p ∈ dk el, p.1 ≠ nm) (hc : c < 16) (offV : OffFr heads V) (ap : Apart Xt V) (av : Apart V Y)
    (N : News h₀ L s.heap ((x, instObj 106 dx) :: (dx, od) :: (heads ++ (Xt ++ (V ++ Y))))) (hr : IsRu w.params od k) (hxd : @LT.lt Nat _ dx x) (lth : ∀ p ∈ heads, @LT.lt Nat _ p.1 dx) (lt : AllLt dx (Xt ++ (V ++ Y))) (hd : dp + 2 < recursionLimit) (hu : un + 32 < cLine)
    (kk : ∀ V' h' tk', DtP w D (putK dk el nm k) (c + 1) V' → OffFr (heads ++ (Xt ++ Y)) V' → Fr h₀ L h' m → News h₀ L h' (heads ++ (Xt ++ (V' ++ Y))) → Q .none { s with heap := h', toks := tk' }) :
    wpAny (model PR w) (ktrTop dp un gd cn cs L ca ccd cl outer) (call (.ref 170) [.ref D, .str el te, .str nm tn, .ref x]) Q E s := by
  have lt' := allLt_lt lt
  have lq : ∀ q ∈ heads ++ (Xt ++ Y), @LT.lt Nat _ q.1 dx := fun q hq => by
    rcases List.mem_append.mp hq with hq | hq
    · exact lth q hq
    rcases List.mem_append.mp hq with hq | hq
    · exact lt' q (List.mem_append_left _ hq)
    · exact lt' q (List.mem_append_right _ (List.mem_append_right _ hq))
  refine use_ctM (front := heads ++ (Xt ++ Y)) (decl_p w D dk c V el nm k te tn x dx od hX hr (fun p hp => lt' p (List.mem_append_right _ (List.mem_append_left _ hp))) hxd hn hc) B F X N T hk (fun p hp => ?_) (fun p hp => ?_) (fun q hq p hp => ?_) trivial hd hu fun r9 X9 h9 tk9 F9 N9 off9 R9 => ?_
  · rcases List.mem_append.mp hp with hp | hp
    · exact .tail _ (.tail _ (List.mem_append_right _ (List.mem_append_right _ (List.mem_append_left _ hp))))
    rcases List.mem_cons.mp hp with rfl | hp
    · exact .head _
    · rw [List.mem_singleton.mp hp]; exact .tail _ (.head _)
  · refine .tail _ (.tail _ ?_)
    rcases List.mem_append.mp hp with hp | hp
    · exact List.mem_append_left _ hp
    rcases List.mem_append.mp hp with hp | hp
    · exact List.mem_append_right _ (List.mem_append_left _ hp)
    · exact List.mem_append_right _ (List.mem_append_right _ (List.mem_append_right _ hp))
  · rcases List.mem_append.mp hp with hp | hp
    · rcases List.mem_append.mp hq with hq | hq
      · exact offV q hq p hp
      rcases List.mem_append.mp hq with hq | hq
      · exact Ne.symm (ap q hq p hp)
      · exact av p hp q hq
    rcases List.mem_cons.mp hp with rfl | hp
    · exact Nat.ne_of_gt (Nat.lt_trans (lq q hq) hxd)
    · rw [List.mem_singleton.mp hp]; exact Nat.ne_of_gt (lq q hq)
  · obtain ⟨rfl, hd9⟩ := R9
    refine kk X9 h9 tk9 hd9 off9 F9 (news_sub N9 fun p hp => ?_)
    rcases List.mem_append.mp hp with hp | hp
    · exact List.mem_append_left _ (List.mem_append_left _ hp)
    rcases List.mem_append.mp hp with hp | hp
    · exact List.mem_append_left _ (List.mem_append_right _ (List.mem_append_left _ hp))
    rcases List.mem_append.mp hp with hp | hp
    · exact List.mem_append_right _ hp
    · exact List.mem_append_left _ (List.mem_append_right _ (List.mem_append_right _ hp))
/-- the rule of the last element is declared -/
inductive Law6 (w : World) (h₀ : Heap) (L : Addr) : (Str → Option Value) → Led → Prop
  | mk (a D K ka kb R : Addr) (oK oa ob : Obj) (dk dk' : Str → List (Str × Str)) (c n : Nat) (H : TH) (pt : List PN) (rvs : List Value) (rows : List Rw) (X V Y : Led) (tk : Tok) (scr : Value) (c1 c2 c3 c4 c5 : Obj) (hX : TrP w.params H pt X) (gr : Grown pt rows) (hr : All2 (RowAt (InL Y)) rvs rows) (l1 : 2 ≤ rows.length) (l2 : rows.length ≤ 5) (l3 : pt.length ≤ 26) (oks : ∀ r ∈ rows, RowOk r)
    (hdt : DtP w D dk' c V) (hc : c ≤ 7) (kk : oK.IsDictOf (strKind PR w) [(sA, .ref ka), (sB, .ref kb)]) (ha : ∃ kv, oa.IsDictOf (strKind PR w) kv ∧ KV kv (dk sA)) (hb : ∃ kv, ob.IsDictOf (strKind PR w) kv ∧ KV kv (dk sB)) (hab : dk' = putK dk sE sI sID) (hE : dk sE = []) (hm : ∀ el, ∀ p ∈ dk el, p ∈ menuK) (lk : (K == sysModules) = false) (la : (ka == sysModules) = false) (lb : (kb == sysModules) = false) (ga : (ka, oa) ∈ Y) (gb : (kb, ob) ∈ Y)
    (off : OffFr ((K, oK) :: (R, listOf rvs.toArray n) :: cellsL L c1 c2 c3 c4 c5) (X ++ (V ++ Y))) (ap : Apart X (V ++ Y)) (av : Apart V Y) (ne : NeAll (K :: R :: keys (cellsL L c1 c2 c3 c4 c5)))
    (d1 : c1.data = .cell (some (.ref H.t))) (d2 : c2.data = .cell (some (.ref D))) (d3 : c3.data = .cell (some (.ref K))) (d4 : c4.data = .cell none) (d5 : c5.data = .cell none) :
    Law6 w h₀ L (fun y => if y = Str.ofString "rows" then some (.ref R) else if y = Str.ofString "root" then some (.int ((0 : Nat) : Int) tk) else if y = Str.ofString "source" then some (.ref a) else if y = Str.ofString "script" then some scr else none) ((K, oK) :: (R, listOf rvs.toArray n) :: (cellsL L c1 c2 c3 c4 c5 ++ (X ++ (V ++ Y))))
theorem apart_l {X A B : Led} (h : Apart X (A ++ B)) : Apart X A := fun p hp q hq => h p hp q (List.mem_append_left _ hq)
theorem apart_r {X A B : Led} (h : Apart X (A ++ B)) : Apart X B := fun p hp q hq => h p hp q (List.mem_append_right _ hq)
theorem apart_app {X A B : Led} (h : Apart X A) (h' : Apart X B) : Apart X (A ++ B) := fun p hp q hq => (List.mem_append.mp hq).elim (h p hp q) (h' p hp q)
theorem offr_v {heads X V Y : Led} (h : OffFr heads (X ++ (V ++ Y))) : OffFr heads V := fun q hq p hp => h q hq p (List.mem_append_right _ (List.mem_append_left _ hp))
theorem offr_put {heads X V V' Y : Led} (h : OffFr heads (X ++ (V ++ Y))) (h' : OffFr heads V') : OffFr heads (X ++ (V' ++ Y)) := fun q hq p hp => by
  rcases List.mem_append.mp hp with hp | hp
  · exact h q hq p (List.mem_append_left _ hp)
  rcases List.mem_append.mp hp with hp | hp
  · exact h' q hq p hp
  · exact h q hq p (List.mem_append_right _ (List.mem_append_right _ hp))
section
theorem rows35 : True := by
  k_with_none
  k_with "ktr_enter" =>
    (refine enter_cells (by k_asm) (by k_asm) (by k_asm) (by k_asm) (by k_asm) (by exact rfl) (by exact rfl) (by assumption) (by k_is) (by k_is) (by ktr_room) (by exact BindsTo.of_eq rfl) (by exact rfl) (by decide +kernel) ?_ (by exact rfl) (by exact rfl) (by exact rfl); k_whole; intro g' L' h' tk' cells' FG' F' N' Y' B' X' T' l1 kG'; (try k_lt l1); k_cells Y'; (try dsimp only [List.cons_append, List.nil_append] at N'); (try dsimp only); (try k_fold))
  k_with "ktr_enter" =>
    (refine code_defG (by k_asm) (by k_asm) (by k_asm) (by k_asm) (by k_asm) (by exact rfl) (by exact rfl) (by assumption) (by k_is) (by k_is) (by ktr_room) (by exact BindsTo.of_eq rfl) (by exact locs rfl) ?_ (by exact rfl) (by exact rfl) (by exact rfl) (by decide); k_whole; intro g' L' h' FG' F' N' B' X' T' kG'; (try dsimp only); (try k_fold))
  k_with "k_ne" =>
    (refine neN ?_; (try dsimp only); with_reducible first | assumption | exact Ne.symm (by assumption) | exact Nat.ne_of_gt (by assumption) | exact Nat.ne_of_lt (by assumption) | exact Nat.ne_of_gt (Nat.lt_succ_of_lt (by assumption)) | exact Nat.ne_of_lt (Nat.lt_succ_of_lt (by assumption)))
  k_with "k_lt" =>
    (intro l1; replace l1 := allLt_of l1; (try dsimp only [AllLt] at l1); (repeat (with_reducible (have O8 := And.left l1; replace l1 := And.right l1))))
  k_with "my pick" =>
    (first | (refine Pick1.head ?_; k_extra "k_all") | exact Pick1.tail (by k_ne) (by k_extra "my pick"))
  k_with "my sub" =>
    (first | exact List.forall_mem_nil _ | (refine List.forall_mem_cons.mpr ⟨by k_mem, ?_⟩; k_extra "my sub"))
  k_with "k_room" =>
    ((try simp only [depth_under_make, depth_under_kw, depth_in1, depth_deeper, depth_caller]); (try dsimp only [ktrTop]); omega)
  k_with "my and" =>
    (first | assumption | exact And.intro (by k_ne) (by k_extra "my and") | k_ne)
  k_with "my conj" =>
    (intro l1; (repeat (with_reducible (have O8 := And.left l1; replace l1 := And.right l1))))
  k_with "my off" =>
    ((rename OffL _ _ => O9); (try dsimp only [OffL, Off1, keys, nodeLed, List.map] at O9); revert O9; k_extra "my conj2")
  k_with "CompRest" =>
    (with_unfolding_all first | (refine LCg.CompRest.succ ?_; intro v' I' oI' C' oC' D' m' h' tk' E' hv' hC' hx' F' N' off' ne'; (first | lcg_open hv' | (obtain ⟨t9', hv9'⟩ := hv'; subst hv9')); (try dsimp only [LCg.Off3] at off'); revert off'; k_extra "my conj2"; revert ne'; k_extra "my conj") | refine LCg.CompRest.zero ?_)
  k_with "FinE" =>
    ((unfold LCg.FinE); intro D' h' tk' F' N' o1'; (try dsimp only [LCg.Off1] at o1'); (try dsimp only [List.nil_append, List.cons_append] at N'); (try dsimp only); revert o1'; k_extra "my conj")
  k_with "FinA" =>
    ((unfold LCg.FinA); intro D' h' tk' F' N' o1'; (try dsimp only [LCg.Off1] at o1'); (try dsimp only [List.nil_append, List.cons_append] at N'); (try dsimp only); revert o1'; k_extra "my conj")
  k_with "k_all" =>
    (first | exact List.forall_mem_nil _ | exact Off1.all (by with_reducible assumption) | exact AllLt.ne (by with_reducible assumption) | exact List.forall_mem_cons.mpr ⟨by k_ne, by k_extra "k_all"⟩)
  k_with "my conj2" =>
    (intro l2; (repeat (with_reducible (have l1 := And.left l2; replace l2 := And.right l2; revert l1; k_extra "my conj"))))
  k_with "my same" =>
    (intro z9 hz9; first | rfl | (refine same_step hz9 (by k_mem) ?_; k_extra "my same2") | ((simp only [List.mem_cons, List.not_mem_nil, or_false, not_or] at hz9); first | rfl | (simp only [hz9, if_false, if_neg, over, not_false_eq_true]; done) | (simp [hz9, over]; done)))
  k_with "my same2" =>
    (first | rfl | (refine same_step (by assumption) (by k_mem) ?_; k_extra "my same2"))
  k_with "TurnPost" =>
    (dsimp only [TurnPost])
  k_with "my for" =>
    (k_here; (rename Fr _ _ _ _ => lF'); (with_unfolding_all refine For_turns lF' ?_ (hE := by first | passes_own | assumption); k_whole))
  k_with "execs cons" =>
    (refine wpAny_execs_cons ?_; (try k_fold))
  k_with "room" =>
    (first | exact room2 (by assumption) (by exact rfl) | exact room3 (by assumption) (by exact rfl) | exact room1 (by assumption) (by exact rfl) | exact room0 (by assumption) | exact room4 (by assumption) (by exact rfl))
  k_with "k_room" =>
    (k_extra "room")
  k_with "my lts" =>
    (first | exact List.forall_mem_nil _ | exact List.forall_mem_cons.mpr ⟨by assumption, by k_extra "my lts"⟩)
  k_with "my in" =>
    (with_reducible first | assumption | (refine List.mem_append_left _ ?_; assumption) | (refine List.mem_append_right _ ?_; k_extra "my in") | (refine List.mem_cons_of_mem _ ?_; k_extra "my in"))
  k_with "my tail" =>
    (intro p9 hp9; k_extra "my in")
  k_with "k_all" =>
    (first | (with_reducible assumption) | exact OffFr.all (by with_reducible assumption) (by k_mem))
  k_with "k_inst" =>
    (exact inst_led (by k_asm) (by with_reducible assumption) (by with_reducible assumption) (by k_extra "my tail"))
  k_with "my ne" =>
    (intro l3; (try dsimp only [NeAll, NeL, keys, List.map] at l3); revert l3; k_extra "my conj2")
  k_with "execs cons" =>
    ((with_reducible show wpAny _ _ (execs _ (envX lawN _ _ _ _ _)) _ _ _); refine halt ?_)
  k_with "call ref" =>
    (k_here; (with_reducible show wpAny _ _ (call (Value.ref 170) _) _ _ _); refine halt ?_)
  trivial
theorem law_56 (w : World) (h : LawAt w 6 (Law6 w)) : LawAt w 5 (Law5 w) := by
  intro mean mg mb dp un gd ca ccd outer A₀ base h₀ L m nn s Q E B F X N T hdp hun hJ hret hpo
  obtain ⟨a, D, K, ka, kb, R, oK, oa, ob, dk, c, n, H, pt, rvs, rows, Xt, V, Y, tk, scr, c1, c2, c3, c4, c5, hX, gr, hr, z1, z2, z3, oks, ds, hc, hm, lk, la, lb, ga, gb, off, ap, av, ne, d1, d2, d3, d4, d5⟩ := hJ
  obtain ⟨DD, k1, k2, k3, k4, rt, e, A, nt, n0, hD1, hD2⟩ := ds.dt.inst
  have ne2 := ne
  revert ne2
  k_extra "my ne"
  dsimp only [cellsL, List.cons_append, List.nil_append] at N off
  refine wpAny_execs_cons ?_
  try k_fold
  k_steps
  rename Fr h₀ L _ _ => F8
  rename AllLt _ (Xt ++ (V ++ Y)) => lt8
  refine unhalt (declare_use (heads := [(_, _), (K, oK), (R, listOf rvs.toArray n), (L + 1 + 1 + 1 + 1 + 1, c5), (L + 1 + 1 + 1 + 1, c4), (L + 1 + 1 + 1, c3), (L + 1 + 1, c2), (L + 1, c1)]) (k := sID) (Y := Y) B F8 X T rfl ds.dt (by rw [ds.ab _ (by decide) (by decide)]; exact fun _ h => nomatch h) (by omega) ?_ (apart_l ap) av (by assumption) ⟨_, _, _, _, _, _, _, _, _, rfl⟩ (by assumption) (by k_extra "my lts") lt8 (by ktr_room) (by ktr_units) ?_)
  · exact OffFr.cons (fun p hp => Nat.ne_of_lt (allLt_lt (l := Xt ++ (V ++ Y)) (by assumption) p (List.mem_append_right _ (List.mem_append_left _ hp)))) (offr_v off)
  · intro V' h7 tk7 hV off7 F7 N7
    k_steps
    have N9 := news_sub (l' := (K, oK) :: (R, listOf rvs.toArray n) :: (cellsL L c1 c2 c3 c4 c5 ++ (Xt ++ (V' ++ Y)))) N7 fun p hp => .tail _ hp
    exact unhalt (h _ _ _ _ _ _ _ _ _ _ _ _ _ _ _ _ _ _ B F7 X N9 T hdp hun (Law6.mk a D K ka kb R oK oa ob dk _ (c + 1) n H pt rvs rows Xt V' Y _ scr c1 c2 c3 c4 c5 hX gr hr z1 z2 z3 oks hV (Nat.succ_le_succ hc) ds.kk ds.ha ds.hb rfl (ds.ab _ (by decide) (by decide)) hm lk la lb ga gb
      (offr_put off fun q hq p hp => off7 q (List.mem_append_left _ (.tail _ hq)) p hp) (apart_app (fun p hp q hq => Ne.symm (off7 p (List.mem_append_right _ (List.mem_append_left _ hp)) q hq)) (apart_r ap)) (fun p hp q hq => off7 q (List.mem_append_right _ (List.mem_append_right _ hq)) p hp) ne d1 d2 d3 d4 d5) hret hpo)
end

/-- an element's kinds lie in that ledger -/
noncomputable def KindsIn (w : World) (Y : Led) (K : Addr) (ks : List (Str × Str)) (el : Str) : Prop := ∀ h : Heap, (∀ p ∈ Y, h.get? p.1 = some p.2) → Kinds w h K ks el
theorem KindsIn.mono {w : World} {Y Y' : Led} {K : Addr} {ks : List (Str × Str)} {el : Str} (x : KindsIn w Y K ks el) (k : ∀ p ∈ Y, p ∈ Y') : KindsIn w Y' K ks el := fun h hh => x h fun p hp => hh p (k p hp)
/-- the kinds stand -/
inductive Law7 (w : World) (h₀ : Heap) (L : Addr) : (Str → Option Value) → Led → Prop
  | mk (a D K R : Addr) (dk : Str → List (Str × Str)) (c n : Nat) (H : TH) (pt : List PN) (rvs : List Value) (rows : List Rw) (X V Y : Led) (tk : Tok) (scr : Value) (c1 c2 c3 c4 c5 : Obj) (hX : TrP w.params H pt X) (gr : Grown pt rows) (hr : All2 (RowAt (InL Y)) rvs rows) (l1 : 2 ≤ rows.length) (l2 : rows.length ≤ 5) (l3 : pt.length ≤ 26) (oks : ∀ r ∈ rows, RowOk r)
    (hdt : DtP w D dk c V) (hc : c ≤ 7) (hE : dk sE = [(sI, sID)]) (hm : ∀ el ∈ [sA, sB], ∀ p ∈ dk el, p ∈ menuK) (hK : ∀ el ∈ [sA, sB, sE], KindsIn w Y K (dk el) el)
    (off : OffFr ((R, listOf rvs.toArray n) :: cellsL L c1 c2 c3 c4 c5) (X ++ (V ++ Y))) (ap : Apart X (V ++ Y)) (av : Apart V Y) (ne : NeAll (R :: keys (cellsL L c1 c2 c3 c4 c5)))
    (d1 : c1.data = .cell (some (.ref H.t))) (d2 : c2.data = .cell (some (.ref D))) (d3 : c3.data = .cell (some (.ref K))) (d4 : c4.data = .cell none) (d5 : c5.data = .cell none) :
    Law7 w h₀ L (fun y => if y = Str.ofString "rows" then some (.ref R) else if y = Str.ofString "root" then some (.int ((0 : Nat) : Int) tk) else if y = Str.ofString "source" then some (.ref a) else if y = Str.ofString "script" then some scr else none) ((R, listOf rvs.toArray n) :: (cellsL L c1 c2 c3 c4 c5 ++ (X ++ (V ++ Y))))
theorem kinds_three {w : World} {Y : Led} {K ka kb ke : Addr} {oK oa ob oE : Obj} {dk : Str → List (Str × Str)} {kvE : List (Str × Value)} (hk : oK.IsDictOf (strKind PR w) ([(sA, .ref ka), (sB, .ref kb)] ++ [(sE, .ref ke)])) (ha : ∃ kv, oa.IsDictOf (strKind PR w) kv ∧ KV kv (dk sA)) (hb : ∃ kv, ob.IsDictOf (strKind PR w) kv ∧ KV kv (dk sB))
    (hE : oE.IsDictOf (strKind PR w) kvE) (hkE : KV kvE [(sI, sID)]) (la : (ka == sysModules) = false) (lb : (kb == sysModules) = false) (le : (ke == sysModules) = false) (mK : (K, oK) ∈ Y) (ma : (ka, oa) ∈ Y) (mb : (kb, ob) ∈ Y) (mE : (ke, oE) ∈ Y) (h0 : dk sE = []) :
    ∀ el ∈ [sA, sB, sE], KindsIn w Y K (putK dk sE sI sID el) el := by
  obtain ⟨kva, a1, a2⟩ := ha
  obtain ⟨kvb, b1, b2⟩ := hb
  intro el he h hh
  rcases List.mem_cons.mp he with rfl | he
  · exact ⟨oK, oa, _, kva, ka, hh _ mK, hk, rfl, hh _ ma, a1, la, by rw [putK, if_neg (by decide)]; exact a2⟩
  rcases List.mem_cons.mp he with rfl | he
  · exact ⟨oK, ob, _, kvb, kb, hh _ mK, hk, rfl, hh _ mb, b1, lb, by rw [putK, if_neg (by decide)]; exact b2⟩
  · rw [List.mem_singleton.mp he]
    exact ⟨oK, oE, _, kvE, ke, hh _ mK, hk, rfl, hh _ mE, hE, le, by rw [putK, if_pos rfl, h0]; exact hkE⟩
theorem off_kinds {K R ke : Addr} {oK oK' oR oE : Obj} {CL X V Y : Led} (off : OffFr ((K, oK) :: (R, oR) :: CL) (X ++ (V ++ Y))) (ap7 : ∀ p ∈ (K, oK) :: (R, oR) :: (CL ++ (X ++ (V ++ Y))), p.1 ≠ ke) (ne : NeAll (K :: R :: keys CL)) (ap : Apart X (V ++ Y)) (av : Apart V Y) :
    OffFr ((R, oR) :: CL) (X ++ (V ++ ((K, oK') :: (ke, oE) :: Y))) ∧ Apart X (V ++ ((K, oK') :: (ke, oE) :: Y)) ∧ Apart V ((K, oK') :: (ke, oE) :: Y) := by
  have hK : ∀ q ∈ (R, oR) :: CL, @Ne Nat K q.1 := fun q hq => neL_at ne.1 (List.mem_map_of_mem (f := fun p : Addr × Obj => p.1) hq)
  have hq7 : ∀ q ∈ (R, oR) :: CL, q.1 ≠ ke := fun q hq => ap7 q (by
    rcases List.mem_cons.mp hq with rfl | hq
    · exact .tail _ (.head _)
    · exact .tail _ (.tail _ (List.mem_append_left _ hq)))
  have hT : ∀ p ∈ X ++ (V ++ Y), p.1 ≠ K ∧ p.1 ≠ ke := fun p hp => ⟨off _ (.head _) p hp, ap7 p (.tail _ (.tail _ (List.mem_append_right _ hp)))⟩
  refine ⟨fun q hq p hp => ?_, fun p hp q hq => ?_, fun p hp q hq => ?_⟩
  · rcases List.mem_append.mp hp with hp | hp
    · exact off q (.tail _ hq) p (List.mem_append_left _ hp)
    rcases List.mem_append.mp hp with hp | hp
    · exact off q (.tail _ hq) p (List.mem_append_right _ (List.mem_append_left _ hp))
    rcases List.mem_cons.mp hp with rfl | hp
    · exact hK q hq
    rcases List.mem_cons.mp hp with rfl | hp
    · exact Ne.symm (hq7 q hq)
    · exact off q (.tail _ hq) p (List.mem_append_right _ (List.mem_append_right _ hp))
  · rcases List.mem_append.mp hq with hq | hq
    · exact ap p hp q (List.mem_append_left _ hq)
    rcases List.mem_cons.mp hq with rfl | hq
    · exact (hT p (List.mem_append_left _ hp)).1
    rcases List.mem_cons.mp hq with rfl | hq
    · exact (hT p (List.mem_append_left _ hp)).2
    · exact ap p hp q (List.mem_append_right _ hq)
  · rcases List.mem_cons.mp hq with rfl | hq
    · exact (hT p (List.mem_append_right _ (List.mem_append_left _ hp))).1
    rcases List.mem_cons.mp hq with rfl | hq
    · exact (hT p (List.mem_append_right _ (List.mem_append_left _ hp))).2
    · exact av p hp q hq
theorem off_kinds_sub {K R ke : Addr} {oK oR oE : Obj} {CL X V Y : Led} : ∀ p ∈ (R, oR) :: (CL ++ (X ++ (V ++ ((K, oK) :: (ke, oE) :: Y)))), p ∈ (K, oK) :: (ke, oE) :: (R, oR) :: (CL ++ (X ++ (V ++ Y))) := fun p hp => by
  rcases List.mem_cons.mp hp with rfl | hp
  · exact .tail _ (.tail _ (.head _))
  rcases List.mem_append.mp hp with hp | hp
  · exact .tail _ (.tail _ (.tail _ (List.mem_append_left _ hp)))
  rcases List.mem_append.mp hp with hp | hp
  · exact .tail _ (.tail _ (.tail _ (List.mem_append_right _ (List.mem_append_left _ hp))))
  rcases List.mem_append.mp hp with hp | hp
  · exact .tail _ (.tail _ (.tail _ (List.mem_append_right _ (List.mem_append_right _ (List.mem_append_left _ hp)))))
  rcases List.mem_cons.mp hp with rfl | hp
  · exact .head _
  rcases List.mem_cons.mp hp with rfl | hp
  · exact .tail _ (.head _)
  · exact .tail _ (.tail _ (.tail _ (List.mem_append_right _ (List.mem_append_right _ (List.mem_append_right _ hp)))))
section
theorem rows36 : True := by
  k_with_none
  k_with "ktr_enter" =>
    (refine enter_cells (by k_asm) (by k_asm) (by k_asm) (by k_asm) (by k_asm) (by exact rfl) (by exact rfl) (by assumption) (by k_is) (by k_is) (by ktr_room) (by exact BindsTo.of_eq rfl) (by exact rfl) (by decide +kernel) ?_ (by exact rfl) (by exact rfl) (by exact rfl); k_whole; intro g' L' h' tk' cells' FG' F' N' Y' B' X' T' l1 kG'; (try k_lt l1); k_cells Y'; (try dsimp only [List.cons_append, List.nil_append] at N'); (try dsimp only); (try k_fold))
  k_with "ktr_enter" =>
    (refine code_defG (by k_asm) (by k_asm) (by k_asm) (by k_asm) (by k_asm) (by exact rfl) (by exact rfl) (by assumption) (by k_is) (by k_is) (by ktr_room) (by exact BindsTo.of_eq rfl) (by exact locs rfl) ?_ (by exact rfl) (by exact rfl) (by exact rfl) (by decide); k_whole; intro g' L' h' FG' F' N' B' X' T' kG'; (try dsimp only); (try k_fold))
  k_with "k_ne" =>
    (refine neN ?_; (try dsimp only); with_reducible first | assumption | exact Ne.symm (by assumption) | exact Nat.ne_of_gt (by assumption) | exact Nat.ne_of_lt (by assumption) | exact Nat.ne_of_gt (Nat.lt_succ_of_lt (by assumption)) | exact Nat.ne_of_lt (Nat.lt_succ_of_lt (by assumption)))
  k_with "k_lt" =>
    (intro l1; replace l1 := allLt_of l1; (try dsimp only [AllLt] at l1); (repeat (with_reducible (have O8 := And.left l1; replace l1 := And.right l1))))
  k_with "my pick" =>
    (first | (refine Pick1.head ?_; k_extra "k_all") | exact Pick1.tail (by k_ne) (by k_extra "my pick"))
  k_with "my sub" =>
    (first | exact List.forall_mem_nil _ | (refine List.forall_mem_cons.mpr ⟨by k_mem, ?_⟩; k_extra "my sub"))
  k_with "k_room" =>
    ((try simp only [depth_under_make, depth_under_kw, depth_in1, depth_deeper, depth_caller]); (try dsimp only [ktrTop]); omega)
  k_with "my and" =>
    (first | assumption | exact And.intro (by k_ne) (by k_extra "my and") | k_ne)
  k_with "my conj" =>
    (intro l1; (repeat (with_reducible (have O8 := And.left l1; replace l1 := And.right l1))))
  k_with "my off" =>
    ((rename OffL _ _ => O9); (try dsimp only [OffL, Off1, keys, nodeLed, List.map] at O9); revert O9; k_extra "my conj2")
  k_with "CompRest" =>
    (with_unfolding_all first | (refine LCg.CompRest.succ ?_; intro v' I' oI' C' oC' D' m' h' tk' E' hv' hC' hx' F' N' off' ne'; (first | lcg_open hv' | (obtain ⟨t9', hv9'⟩ := hv'; subst hv9')); (try dsimp only [LCg.Off3] at off'); revert off'; k_extra "my conj2"; revert ne'; k_extra "my conj") | refine LCg.CompRest.zero ?_)
  k_with "FinE" =>
    ((unfold LCg.FinE); intro D' h' tk' F' N' o1'; (try dsimp only [LCg.Off1] at o1'); (try dsimp only [List.nil_append, List.cons_append] at N'); (try dsimp only); revert o1'; k_extra "my conj")
  k_with "FinA" =>
    ((unfold LCg.FinA); intro D' h' tk' F' N' o1'; (try dsimp only [LCg.Off1] at o1'); (try dsimp only [List.nil_append, List.cons_append] at N'); (try dsimp only); revert o1'; k_extra "my conj")
  k_with "k_all" =>
    (first | exact List.forall_mem_nil _ | exact Off1.all (by with_reducible assumption) | exact AllLt.ne (by with_reducible assumption) | exact List.forall_mem_cons.mpr ⟨by k_ne, by k_extra "k_all"⟩)
  k_with "my conj2" =>
    (intro l2; (repeat (with_reducible (have l1 := And.left l2; replace l2 := And.right l2; revert l1; k_extra "my conj"))))
  k_with "my same" =>
    (intro z9 hz9; first | rfl | (refine same_step hz9 (by k_mem) ?_; k_extra "my same2") | ((simp only [List.mem_cons, List.not_mem_nil, or_false, not_or] at hz9); first | rfl | (simp only [hz9, if_false, if_neg, over, not_false_eq_true]; done) | (simp [hz9, over]; done)))
  k_with "my same2" =>
    (first | rfl | (refine same_step (by assumption) (by k_mem) ?_; k_extra "my same2"))
  k_with "TurnPost" =>
    (dsimp only [TurnPost])
  k_with "my for" =>
    (k_here; (rename Fr _ _ _ _ => lF'); (with_unfolding_all refine For_turns lF' ?_ (hE := by first | passes_own | assumption); k_whole))
  k_with "execs cons" =>
    (refine wpAny_execs_cons ?_; (try k_fold))
  k_with "room" =>
    (first | exact room2 (by assumption) (by exact rfl) | exact room3 (by assumption) (by exact rfl) | exact room1 (by assumption) (by exact rfl) | exact room0 (by assumption) | exact room4 (by assumption) (by exact rfl))
  k_with "k_room" =>
    (k_extra "room")
  k_with "k_all" =>
    (first | (with_reducible assumption) | exact OffFr.all (by with_reducible assumption) (by k_mem))
  k_with "my ne" =>
    (intro l3; (try dsimp only [NeAll, NeL, keys, List.map] at l3); revert l3; k_extra "my conj2")
  k_with "execs cons" =>
    ((with_reducible show wpAny _ _ (execs _ (envX lawN _ _ _ _ _)) _ _ _); refine halt ?_)
  k_with "setItem ref str" =>
    (k_here; k_dflt (refine dset (by k_asm) (by k_asm) (by k_extra "my pick") (by assumption) (by assumption) (by exact Nat.le_of_ble_eq_true rfl) ?_); intro h' o' F' N' hd')
  trivial
theorem law_67 (w : World) (h : LawAt w 7 (Law7 w)) : LawAt w 6 (Law6 w) := by
  intro mean mg mb dp un gd ca ccd outer A₀ base h₀ L m nn s Q E B F X N T hdp hun hJ hret hpo
  obtain ⟨a, D, K, ka, kb, R, oK, oa, ob, dk, dk', c, n, H, pt, rvs, rows, Xt, V, Y, tk, scr, c1, c2, c3, c4, c5, hX, gr, hr, z1, z2, z3, oks, hdt, hc, hkk, ha, hb, hab, hE, hm, lk, la, lb, ga, gb, off, ap, av, ne, d1, d2, d3, d4, d5⟩ := hJ
  have ne2 := ne
  revert ne2
  k_extra "my ne"
  dsimp only [cellsL, List.cons_append, List.nil_append] at N off
  have hvn : valueAt [(sA, Value.ref ka), (sB, Value.ref kb)] (Str.ofString "e") = none := rfl
  refine wpAny_execs_cons ?_
  try k_fold
  k_steps
  rename Fr _ _ _ _ => F7
  rename News _ _ _ _ => N7
  rename Obj.IsDictOf _ _ (_ ++ _) => hkk7
  rename ∀ p ∈ (K, oK) :: _, _ => ap7
  rename (_ == sysModules) = false => le7
  rename Obj.IsDictOf _ _ (strPairs _) => hE7
  have offT := fun o1 o2 : Obj => off_kinds (oK' := o1) (oE := o2) off ap7 ne ap av
  exact unhalt (h _ _ _ _ _ _ _ _ _ _ _ _ _ _ _ _ _ _ B F7 X (news_sub (l' := (R, listOf rvs.toArray n) :: (cellsL L c1 c2 c3 c4 c5 ++ (Xt ++ (V ++ ((K, _) :: (_, _) :: Y))))) N7 off_kinds_sub) T hdp hun (Law7.mk a D K R dk' c n H pt rvs rows Xt V _ tk scr c1 c2 c3 c4 c5 hX gr (hr.mono fun _ _ x => x.mono fun _ _ m => .tail _ (.tail _ m)) z1 z2 z3 oks hdt hc (by rw [hab, putK, if_pos rfl, hE]; rfl) (fun el he p hp => by rw [hab, putK, if_neg (fun e => by subst e; revert he; decide)] at hp; exact hm el p hp)
    (by rw [hab]; exact kinds_three hkk7 ha hb hE7 (.cons ⟨rfl, _, rfl⟩ .nil) la lb le7 (.head _) (.tail _ (.tail _ ga)) (.tail _ (.tail _ gb)) (.tail _ (.head _)) hE) (offT _ _).1 (offT _ _).2.1 (offT _ _).2.2 ne.2 d1 d2 d3 d4 d5) hret hpo)
end

noncomputable abbrev sTw : Str := Str.ofString "twice"
/-- the last elements' rows -/
noncomputable def ERow (r : Rw) : Prop := ∃ z i, r = ⟨z, sE, [⟨i, sI, [sTw]⟩]⟩
/-- all is built -/
inductive Law8 (w : World) (h₀ : Heap) (L : Addr) : (Str → Option Value) → Led → Prop
  | mk (a D K R : Addr) (u : Str → Option Value) (dk : Str → List (Str × Str)) (c n : Nat) (H : TH) (pt : List PN) (rvs : List Value) (rows es : List Rw) (X V Y : Led) (tk : Tok) (scr : Value) (c1 c2 c3 c4 c5 : Obj) (hX : TrP w.params H pt X) (gr : Grown pt (rows ++ es)) (hr : All2 (RowAt (InL Y)) rvs (rows ++ es)) (l1 : 2 ≤ rows.length) (l2 : rows.length ≤ 5) (l3 : pt.length ≤ 26 + 2 * 2) (oks : ∀ r ∈ rows, RowOk r) (hes : ∀ r ∈ es, ERow r) (hn : es.length = 2)
    (hdt : DtP w D dk c V) (hc : c ≤ 7) (hE : dk sE = [(sI, sID)]) (hm : ∀ el ∈ [sA, sB], ∀ p ∈ dk el, p ∈ menuK) (hK : ∀ el ∈ [sA, sB, sE], KindsIn w Y K (dk el) el)
    (off : OffFr ((R, listOf rvs.toArray n) :: cellsL L c1 c2 c3 c4 c5) (X ++ (V ++ Y))) (ap : Apart X (V ++ Y)) (av : Apart V Y) (ne : NeAll (R :: keys (cellsL L c1 c2 c3 c4 c5)))
    (d1 : c1.data = .cell (some (.ref H.t))) (d2 : c2.data = .cell (some (.ref D))) (d3 : c3.data = .cell (some (.ref K))) (d4 : c4.data = .cell none) (d5 : c5.data = .cell none) :
    Law8 w h₀ L (fun y => if y = Str.ofString "turn" then u (Str.ofString "turn") else if y = Str.ofString "last" then u (Str.ofString "last") else if y = Str.ofString "rows" then some (.ref R) else if y = Str.ofString "root" then some (.int ((0 : Nat) : Int) tk) else if y = Str.ofString "source" then some (.ref a) else if y = Str.ofString "script" then some scr else none) ((R, listOf rvs.toArray n) :: (cellsL L c1 c2 c3 c4 c5 ++ (X ++ (V ++ Y))))
/-- between the turns of the loop over the last elements -/
inductive JW (w : World) (H : TH) (L : Addr) (V Y0 : Led) (rows0 : List Rw) (R : Addr) (CL : Led) (j : Nat) : Led → Prop
  | mk (pt : List PN) (rvs : List Value) (es : List Rw) (n : Nat) (X Y : Led) (hX : TrP w.params H pt X) (gr : Grown pt (rows0 ++ es)) (hr : All2 (RowAt (InL Y)) rvs (rows0 ++ es)) (hes : ∀ r ∈ es, ERow r) (hn : es.length = j) (hp : pt.length ≤ 26 + 2 * j) (hY : ∀ p ∈ Y0, p ∈ Y)
    (off : OffFr ((R, listOf rvs.toArray n) :: CL) (X ++ (V ++ Y))) (ap : Apart X (V ++ Y)) (av : Apart V Y) : JW w H L V Y0 rows0 R CL j ((R, listOf rvs.toArray n) :: (CL ++ (X ++ (V ++ Y))))
theorem rows_first {α β : Type} {P : α → β → Prop} {vs : List α} {l : List β} (h : All2 P vs l) (h1 : 1 ≤ l.length) : ∃ v rv r0 rs, vs = v :: rv ∧ l = r0 :: rs ∧ P v r0 := by
  cases h with
  | nil => cases h1
  | cons x _ => exact ⟨_, _, _, _, rfl, rfl, x⟩
theorem jw_close {w : World} {H : TH} {L I R tz Hl tu wl : Addr} {ito oR otz oH otu ow : Obj} {V Y0 X Y CL full : Led} {rows0 es : List Rw} {r : Rw} {rvs : List Value} {j n z i : Nat} {ti tn t2 t3 t4 : Tok} {pt : List PN} {h₀ h' : Heap} {m' m₀ : Str → Option Value} {ys : List Str} {s₁ : Shared} {tk : Nat}
    (F : Fr h₀ L h' m') (N : News h₀ L h' full) (hm : ∀ y, y ∉ ys → m' y = m₀ y) (hX : TrP w.params H pt X) (gr : Grown pt (rows0 ++ es ++ [r])) (hr : All2 (RowAt (InL Y)) rvs (rows0 ++ es)) (hes : ∀ r ∈ es, ERow r) (hn : es.length = j) (hp : pt.length ≤ 26 + 2 * (j + 1)) (hY : ∀ p ∈ Y0, p ∈ Y) (er : r = ⟨z, sE, [⟨i, sI, [sTw]⟩]⟩)
    (off : OffFr ((R, oR) :: CL) (X ++ (V ++ Y))) (ap : Apart X (V ++ Y)) (av : Apart V Y) (iR : @Ne Nat R I) (iC : ∀ p ∈ CL, @Ne Nat p.1 I) (iT : ∀ p ∈ X ++ (V ++ Y), @Ne Nat p.1 I)
    (mI : (I, ito) ∈ full) (mR : (R, listOf (rvs.toArray.push (.ref tz)) n) ∈ full) (mC : ∀ p ∈ CL, p ∈ full) (mT : ∀ p ∈ X ++ (V ++ Y), p ∈ full) (m1 : (tz, otz) ∈ full) (f1 : IsT otz [.int (z : Int) ti, .str sE tn, .ref Hl]) (m2 : (Hl, oH) ∈ full) (f2 : IsL oH [.ref tu]) (m3 : (tu, otu) ∈ full) (f3 : IsT otu [.int (i : Int) t2, .str sI t3, .ref wl]) (m4 : (wl, ow) ∈ full) (f4 : IsL ow [.str sTw t4])
    (lt : AllLt wl (X ++ (V ++ Y))) (l1 : @LT.lt Nat _ wl tu) (l2 : @LT.lt Nat _ tu Hl) (l3 : @LT.lt Nat _ Hl tz) (lI : @LT.lt Nat _ I wl) (lR : @LT.lt Nat _ R wl) (lC : ∀ p ∈ CL, @LT.lt Nat _ p.1 wl) :
    TurnEnd h₀ L I ito (fun m nn => (∀ y, y ∉ ys → m y = m₀ y) ∧ JW w H L V Y0 rows0 R CL (j + 1) nn) s₁ { s₁ with heap := h', toks := tk } := by
  have lt' := allLt_lt lt
  have up : ∀ b, @LT.lt Nat _ b wl → (@Ne Nat tz b) ∧ (@Ne Nat Hl b) ∧ (@Ne Nat tu b) ∧ (@Ne Nat wl b) := fun b hb =>
    ⟨Nat.ne_of_gt (Nat.lt_trans (Nat.lt_trans (Nat.lt_trans hb l1) l2) l3), Nat.ne_of_gt (Nat.lt_trans (Nat.lt_trans hb l1) l2), Nat.ne_of_gt (Nat.lt_trans hb l1), Nat.ne_of_gt hb⟩
  have e : rvs.toArray.push (Value.ref tz) = (rvs ++ [Value.ref tz]).toArray := by simp
  rw [e] at mR
  have four : ∀ {P : Addr × Obj → Prop}, (∀ p ∈ Y, P p) → P (tz, otz) → P (Hl, oH) → P (tu, otu) → P (wl, ow) → ∀ p ∈ (tz, otz) :: (Hl, oH) :: (tu, otu) :: (wl, ow) :: Y, P p := fun a b c d f => List.forall_mem_cons.mpr ⟨b, List.forall_mem_cons.mpr ⟨c, List.forall_mem_cons.mpr ⟨d, List.forall_mem_cons.mpr ⟨f, a⟩⟩⟩⟩
  have tail : ∀ {P : Addr × Obj → Prop}, (∀ p ∈ X ++ (V ++ Y), P p) → P (tz, otz) → P (Hl, oH) → P (tu, otu) → P (wl, ow) → ∀ p ∈ X ++ (V ++ ((tz, otz) :: (Hl, oH) :: (tu, otu) :: (wl, ow) :: Y)), P p := fun a b c d f p hp => by
    rcases List.mem_append.mp hp with hp | hp
    · exact a p (List.mem_append_left _ hp)
    rcases List.mem_append.mp hp with hp | hp
    · exact a p (List.mem_append_right _ (List.mem_append_left _ hp))
    · exact four (fun p hp => a p (List.mem_append_right _ (List.mem_append_right _ hp))) b c d f p hp
  have uI := up I lI
  have hrow : RowAt (InL ((tz, otz) :: (Hl, oH) :: (tu, otu) :: (wl, ow) :: Y)) (.ref tz) r := by
    subst er
    exact ⟨tz, otz, ti, tn, Hl, oH, [.ref tu], rfl, .head _, f1, .tail _ (.head _), f2, .cons ⟨tu, otu, t2, t3, wl, ow, [.str sTw t4], rfl, .tail _ (.tail _ (.head _)), f3, .tail _ (.tail _ (.tail _ (.head _))), f4, rfl, rfl⟩ .nil⟩
  refine TurnEnd.intro (news' := (R, listOf (rvs ++ [Value.ref tz]).toArray n) :: (CL ++ (X ++ (V ++ ((tz, otz) :: (Hl, oH) :: (tu, otu) :: (wl, ow) :: Y))))) F N mI (List.forall_mem_cons.mpr ⟨mR, fun p hp => (List.mem_append.mp hp).elim (mC p) fun hp => tail mT m1 m2 m3 m4 p hp⟩)
    (List.forall_mem_cons.mpr ⟨iR, fun p hp => (List.mem_append.mp hp).elim (iC p) fun hp => tail (P := fun p => @Ne Nat p.1 I) iT uI.1 uI.2.1 uI.2.2.1 uI.2.2.2 p hp⟩)
    ⟨hm, .mk pt (rvs ++ [.ref tz]) (es ++ [r]) n X _ hX (by rw [← List.append_assoc]; exact gr) (by rw [← List.append_assoc]; exact (hr.mono fun _ _ x => x.mono fun _ _ m => .tail _ (.tail _ (.tail _ (.tail _ m)))).push hrow) (fun q hq => (List.mem_append.mp hq).elim (hes q) fun h => by rw [List.mem_singleton.mp h, er]; exact ⟨z, i, rfl⟩)
      (by rw [List.length_append, hn]; rfl) hp (fun p hp => .tail _ (.tail _ (.tail _ (.tail _ (hY p hp))))) (fun q hq => ?_) (fun p hp q hq => ?_) (fun p hp q hq => ?_)⟩
  · have hq' : @LT.lt Nat _ q.1 wl ∧ ∀ p ∈ X ++ (V ++ Y), p.1 ≠ q.1 := by
      rcases List.mem_cons.mp hq with rfl | hq
      · exact ⟨lR, off (R, oR) (.head _)⟩
      · exact ⟨lC q hq, off q (.tail _ hq)⟩
    have u := up q.1 hq'.1
    exact tail (P := fun p => p.1 ≠ q.1) hq'.2 u.1 u.2.1 u.2.2.1 u.2.2.2
  · rcases List.mem_append.mp hq with hq | hq
    · exact ap p hp q (List.mem_append_left _ hq)
    · have u := up p.1 (lt' p (List.mem_append_left _ hp))
      exact four (P := fun q => @Ne Nat p.1 q.1) (fun q hq => ap p hp q (List.mem_append_right _ hq)) (Ne.symm u.1) (Ne.symm u.2.1) (Ne.symm u.2.2.1) (Ne.symm u.2.2.2) q hq
  · have u := up p.1 (lt' p (List.mem_append_right _ (List.mem_append_left _ hp)))
    exact four (P := fun q => @Ne Nat p.1 q.1) (fun q hq => av p hp q hq) (Ne.symm u.1) (Ne.symm u.2.1) (Ne.symm u.2.2.1) (Ne.symm u.2.2.2) q hq
theorem last_at {α : Type} {l : List α} {p : Nat} {f : α → α} {c : α} : (l.modify p f ++ [c])[l.length]? = some c := by
  rw [List.getElem?_append_right (by rw [List.length_modify]; exact Nat.le_refl _), List.length_modify, Nat.sub_self]; rfl
section
theorem rows37 : True := by
  k_with_none
  k_with "ktr_enter" =>
    (refine enter_cells (by k_asm) (by k_asm) (by k_asm) (by k_asm) (by k_asm) (by exact rfl) (by exact rfl) (by assumption) (by k_is) (by k_is) (by ktr_room) (by exact BindsTo.of_eq rfl) (by exact rfl) (by decide +kernel) ?_ (by exact rfl) (by exact rfl) (by exact rfl); k_whole; intro g' L' h' tk' cells' FG' F' N' Y' B' X' T' l1 kG'; (try k_lt l1); k_cells Y'; (try dsimp only [List.cons_append, List.nil_append] at N'); (try dsimp only); (try k_fold))
  k_with "ktr_enter" =>
    (refine code_defG (by k_asm) (by k_asm) (by k_asm) (by k_asm) (by k_asm) (by exact rfl) (by exact rfl) (by assumption) (by k_is) (by k_is) (by ktr_room) (by exact BindsTo.of_eq rfl) (by exact locs rfl) ?_ (by exact rfl) (by exact rfl) (by exact rfl) (by decide); k_whole; intro g' L' h' FG' F' N' B' X' T' kG'; (try dsimp only); (try k_fold))
  k_with "k_ne" =>
    (refine neN ?_; (try dsimp only); with_reducible first | assumption | exact Ne.symm (by assumption) | exact Nat.ne_of_gt (by assumption) | exact Nat.ne_of_lt (by assumption) | exact Nat.ne_of_gt (Nat.lt_succ_of_lt (by assumption)) | exact Nat.ne_of_lt (Nat.lt_succ_of_lt (by assumption)))
  k_with "k_lt" =>
    (intro l1; replace l1 := allLt_of l1; (try dsimp only [AllLt] at l1); (repeat (with_reducible (have O8 := And.left l1; replace l1 := And.right l1))))
  k_with "my pick" =>
    (first | (refine Pick1.head ?_; k_extra "k_all") | exact Pick1.tail (by k_ne) (by k_extra "my pick"))
  k_with "my sub" =>
    (first | exact List.forall_mem_nil _ | (refine List.forall_mem_cons.mpr ⟨by k_mem, ?_⟩; k_extra "my sub"))
  k_with "k_room" =>
    ((try simp only [depth_under_make, depth_under_kw, depth_in1, depth_deeper, depth_caller]); (try dsimp only [ktrTop]); omega)
  k_with "my and" =>
    (first | assumption | exact And.intro (by k_ne) (by k_extra "my and") | k_ne)
  k_with "my conj" =>
    (intro l1; (repeat (with_reducible (have O8 := And.left l1; replace l1 := And.right l1))))
  k_with "my off" =>
    ((rename OffL _ _ => O9); (try dsimp only [OffL, Off1, keys, nodeLed, List.map] at O9); revert O9; k_extra "my conj2")
  k_with "CompRest" =>
    (with_unfolding_all first | (refine LCg.CompRest.succ ?_; intro v' I' oI' C' oC' D' m' h' tk' E' hv' hC' hx' F' N' off' ne'; (first | lcg_open hv' | (obtain ⟨t9', hv9'⟩ := hv'; subst hv9')); (try dsimp only [LCg.Off3] at off'); revert off'; k_extra "my conj2"; revert ne'; k_extra "my conj") | refine LCg.CompRest.zero ?_)
  k_with "FinE" =>
    ((unfold LCg.FinE); intro D' h' tk' F' N' o1'; (try dsimp only [LCg.Off1] at o1'); (try dsimp only [List.nil_append, List.cons_append] at N'); (try dsimp only); revert o1'; k_extra "my conj")
  k_with "FinA" =>
    ((unfold LCg.FinA); intro D' h' tk' F' N' o1'; (try dsimp only [LCg.Off1] at o1'); (try dsimp only [List.nil_append, List.cons_append] at N'); (try dsimp only); revert o1'; k_extra "my conj")
  k_with "k_all" =>
    (first | exact List.forall_mem_nil _ | exact Off1.all (by with_reducible assumption) | exact AllLt.ne (by with_reducible assumption) | exact List.forall_mem_cons.mpr ⟨by k_ne, by k_extra "k_all"⟩)
  k_with "my conj2" =>
    (intro l2; (repeat (with_reducible (have l1 := And.left l2; replace l2 := And.right l2; revert l1; k_extra "my conj"))))
  k_with "my same" =>
    (intro z9 hz9; first | rfl | (refine same_step hz9 (by k_mem) ?_; k_extra "my same2") | ((simp only [List.mem_cons, List.not_mem_nil, or_false, not_or] at hz9); first | rfl | (simp only [hz9, if_false, if_neg, over, not_false_eq_true]; done) | (simp [hz9, over]; done)))
  k_with "my same2" =>
    (first | rfl | (refine same_step (by assumption) (by k_mem) ?_; k_extra "my same2"))
  k_with "TurnPost" =>
    (dsimp only [TurnPost])
  k_with "my for" =>
    (k_here; (rename Fr _ _ _ _ => lF'); (with_unfolding_all refine For_turns lF' ?_ (hE := by first | passes_own | assumption); k_whole))
  k_with "execs cons" =>
    (refine wpAny_execs_cons ?_; (try k_fold))
  k_with "room" =>
    (first | exact room2 (by assumption) (by exact rfl) | exact room3 (by assumption) (by exact rfl) | exact room1 (by assumption) (by exact rfl) | exact room0 (by assumption) | exact room4 (by assumption) (by exact rfl))
  k_with "k_room" =>
    (k_extra "room")
  k_with "my lts" =>
    (first | exact List.forall_mem_nil _ | exact List.forall_mem_cons.mpr ⟨by assumption, by k_extra "my lts"⟩)
  k_with "call builtin:list.append" =>
    (k_here; k_dflt (refine app_p (by k_asm) (by k_asm) (by k_extra "my pick") (by assumption) ?_); intro h' F' N')
  k_with "my in" =>
    (with_reducible first | assumption | (refine List.mem_append_left _ ?_; assumption) | (refine List.mem_append_right _ ?_; k_extra "my in") | (refine List.mem_cons_of_mem _ ?_; k_extra "my in"))
  k_with "my tail" =>
    (intro p9 hp9; k_extra "my in")
  k_with "k_inst" =>
    (exact TrP.inst (by assumption) (by k_asm) (by k_extra "my tail"))
  k_with "k_all" =>
    (first | (with_reducible assumption) | exact OffFr.all (by with_reducible assumption) (by k_mem))
  k_with "my front" =>
    (first | exact Front.nil | exact Front.cons (by k_all) (by k_extra "my front"))
  k_with "my ne" =>
    (intro l3; (try dsimp only [NeAll, NeL, keys, List.map] at l3); revert l3; k_extra "my conj2")
  k_with "exec For Name Call cons nil" =>
    (k_extra "my for")
  k_with "pyIter" =>
    (refine halt ?_)
  k_with "pyIter ref" =>
    (refine halt ?_)
  k_with "call ref" =>
    (k_here; (with_reducible show wpAny _ _ (call (Value.ref 309) _) _ _ _); refine halt ?_)
  k_with "call ref" =>
    (k_here; (with_reducible show wpAny _ _ (call (Value.ref 344) _) _ _ _); refine halt ?_)
  k_with "subscriptTail Name Constant ref int" =>
    (k_here; k_dflt (refine item_now (i := 0) (News.isList (by k_asm) (by k_mem)) (by assumption) rfl ?_))
  k_with "subscriptTail Subscript Name Constant Constant ref int" =>
    (k_here; k_dflt (refine item_tupleT (j := 0) (isL_get (by k_asm) (by k_extra "my in") (by assumption)) (by decide) (by decide) rfl rfl ?_))
  k_with "execs cons" =>
    ((fail_if_success (have := (‹Going› : Going))); (with_reducible show wpAny _ _ (execs _ (envX lawN _ _ _ _ _)) _ _ _); refine halt ?_)
  trivial
theorem law_78 (w : World) (h : LawAt w 8 (Law8 w)) : LawAt w 7 (Law7 w) := by
  intro mean mg mb dp un gd ca ccd outer A₀ base h₀ L m nn s Q E B F X N T hdp hun hJ hret hpo
  obtain ⟨a, D, K, R, dk, c, n, H, pt, rvs, rows, Xt, V, Y, tk, scr, c1, c2, c3, c4, c5, hX, gr, hr, z1, z2, z3, oks, hdt, hc, hE, hm, hK, off, ap, av, ne, d1, d2, d3, d4, d5⟩ := hJ
  refine wpAny_execs_cons ?_
  try k_fold
  k_steps
  rename IsRange _ _ _ _ _ _ _ _ => hrg
  rename Fr _ _ _ _ => F1
  rename News _ _ _ _ => N1
  refine unhalt (turns_range (n := 2) [Str.ofString "turn", Str.ofString "last"] (fun j _ nn => JW w H L V Y rows R (cellsL L c1 c2 c3 c4 c5) j nn) rfl go_name0 hrg rfl (by decide) F1 (news := (R, listOf rvs.toArray n) :: (cellsL L c1 c2 c3 c4 c5 ++ (Xt ++ (V ++ Y)))) (news_sub N1 (fun p hp => ?_)) (.mk pt rvs [] n Xt Y hX (by rw [List.append_nil]; exact gr) (by rw [List.append_nil]; exact hr) (fun _ h => nomatch h) rfl z3 (fun _ h => h) off ap av) ?_ ?_)
  · exact hp
  · intro i t I ito h9 tk9 u9 nn9 hi9 hJ9 hlt9 hne9 F9 N9
    k_fold
    have going : Going := ⟨⟩
    obtain ⟨pt9, rvs9, es9, n9, X9, Y9, hX9, gr9, hr9, hes9, hn9, hp9, hY9, off9, ap9, av9⟩ := hJ9
    obtain ⟨v0, rv, r0, rs, rfl, er, hr0⟩ := rows_first hr9 (by rw [List.length_append]; exact Nat.le_trans (Nat.le_trans (by decide) z1) (Nat.le_add_right _ _))
    obtain ⟨q0, hq0, hk0, _⟩ := gr9.row r0 (by rw [er]; exact .head _)
    have ch0 : Chain pt9 (0 :: [r0.node]) := by rw [er] at gr9; exact gr9.first
    obtain ⟨t0, ot0, ti0, tn0, hl0, oh0, hvs0, rfl, m1, m2, m3, m4, m5⟩ := hr0
    have hz9 : pt9.length < 2 ^ 20 := Nat.lt_of_le_of_lt (Nat.le_trans hp9 (Nat.add_le_add_left (Nat.mul_le_mul_left 2 (Nat.le_of_lt hi9)) 26)) (by decide)
    have hkk : q0.kind ∈ [kRoot, kElem] := by rw [hk0]; exact .tail _ (.head _)
    have hrl : (Value.ref t0 :: rv).length ≤ 2 ^ 24 := by rw [All2.length hr9, List.length_append, hn9]; exact Nat.le_trans (Nat.add_le_add z2 (Nat.le_of_lt hi9)) (by decide)
    have hrl2 : (Value.ref t0 :: rv).length ≤ 2 ^ 20 := by rw [All2.length hr9, List.length_append, hn9]; exact Nat.le_trans (Nat.add_le_add z2 (Nat.le_of_lt hi9)) (by decide)
    have offI : OffFr ((I, ito) :: (R, listOf (Value.ref t0 :: rv).toArray n9) :: cellsL L c1 c2 c3 c4 c5) (X9 ++ (V ++ Y9)) := OffFr.cons (fun p hp => hne9 p (.tail _ (List.mem_append_right _ hp))) off9
    have neI := hne9 _ (.head _)
    have neC := fun p hp => hne9 p (.tail _ (List.mem_append_left _ hp))
    have ne2 := ne
    revert ne2
    k_extra "my ne"
    dsimp only [cellsL, List.cons_append, List.nil_append] at N9 offI
    dsimp only [over] at F9
    have hoff := off1_of neC
    dsimp only [cellsL, Off1] at hoff
    revert hoff
    k_extra "my conj"
    dsimp only at neI
    k_steps
    refine unhalt (use_ctT (add_element_p w hX9 r0.node _ q0 sE sNo sE _ _ _ hq0 hkk hz9) B (by assumption) X (by assumption) T rfl (by k_extra "my front") ap9 trivial (by ktr_room) (by ktr_units) ?_)
    intro r8 X8 h8 tk8 F8 N8 off8 ap8 R8
    obtain ⟨tl8, rfl, hX8⟩ := R8
    obtain ⟨gr8, ch8, nz8⟩ := gr9.elem ch0 (fun h => nomatch h) rfl sE
    have hq8 := last_at (l := pt9) (p := r0.node) (f := PN.kid pt9.length) (c := elemN sE sE)
    have hz8 : (pt9.modify r0.node (PN.kid pt9.length) ++ [elemN sE sE]).length < 2 ^ 20 := by
      rw [List.length_append, List.length_modify]
      exact Nat.lt_of_le_of_lt (Nat.add_le_add_right (Nat.le_trans hp9 (Nat.add_le_add_left (Nat.mul_le_mul_left 2 (Nat.le_of_lt hi9)) 26)) 1) (by decide)
    clear hX9 gr9 offI ap9
    dsimp only [List.cons_append, List.nil_append] at N8
    k_steps
    refine unhalt (use_ctT (set_attribute_p w hX8 pt9.length _ (elemN sE sE) sI sNo sI sTw _ _ _ _ hq8 rfl hz8 (fun _ h => nomatch h)) B (by assumption) X (by assumption) T rfl (by k_extra "my front") ap8 trivial (by ktr_room) (by ktr_units) ?_)
    intro r7 X7 h7 tk7 F7 N7 off7 ap7 R7
    obtain ⟨tl7, rfl, hX7⟩ := R7
    have gr7 := gr8.att sI sTw (by decide)
    clear hX8 gr8 off8 ap8
    dsimp only [List.cons_append, List.nil_append] at N7
    k_steps
    have es1 : splitS sTw = [sTw] := by decide +kernel
    rw [es1] at gr7
    have offR : OffFr ((R, listOf (Value.ref t0 :: rv).toArray n9) :: cellsL L c1 c2 c3 c4 c5) (X7 ++ (V ++ Y9)) := fun q hq => off7 q (.tail _ hq)
    refine jw_close (by assumption) (by assumption) (by k_extra "my same") hX7 gr7 hr9 hes9 hn9 ?_ hY9 rfl offR ap7 av9 neI neC (off7 _ (.head _)) (by k_mem) (by k_mem) (by k_extra "my sub") (by k_extra "my tail") (by k_mem) (by exact ⟨rfl, _, rfl⟩) (by k_mem) (by exact ⟨rfl, _, rfl⟩) (by k_mem) (by exact ⟨rfl, _, rfl⟩) (by k_mem) (by exact ⟨rfl, _, rfl⟩) (by assumption) (by assumption) (by assumption) (by assumption) (by assumption) (by assumption) (by k_extra "my lts")
    rw [List.length_append, List.length_modify, List.length_append, List.length_modify]
    show pt9.length + 1 + 1 ≤ _
    omega
  · intro u9 nn9 h9 tk9 hJ9 F9 N9
    obtain ⟨pt9, rvs9, es9, n9, X9, Y9, hX9, gr9, hr9, hes9, hn9, hp9, hY9, off9, ap9, av9⟩ := hJ9
    dsimp only [over] at F9
    k_steps
    exact unhalt (h _ _ _ _ _ _ _ _ _ _ _ _ _ _ _ _ _ _ B F9 X N9 T hdp hun (Law8.mk a D K R u9 dk c n9 H pt9 rvs9 rows es9 X9 V Y9 tk scr c1 c2 c3 c4 c5 hX9 gr9 hr9 z1 z2 hp9 oks hes9 hn9 hdt hc hE hm (fun el he => (hK el he).mono hY9) off9 ap9 av9 ne d1 d2 d3 d4 d5) hret hpo)
end

/-- what is known of the rows and the kinds, the heap apart -/
structure Plain (T : Dt) (pt : List PN) (rows es : List Rw) : Prop where
  gr : Grown pt (rows ++ es)
  l1 : 2 ≤ rows.length
  l2 : rows.length ≤ 5
  l3 : pt.length ≤ 30
  oks : ∀ r ∈ rows, RowOk r
  hes : ∀ r ∈ es, ERow r
  hn : es.length = 2
  hE : look T.es sE = [(sI, sID)]
  hm : ∀ el ∈ [sA, sB], ∀ p ∈ look T.es el, p ∈ menuK
  lk : ∀ el, (look T.es el).length ≤ 7
  kids : ∀ q ∈ pt, q.kids.length ≤ 40
theorem kids_few {P : Params} {T : Tr} {pt : List PN} (ok : T.Ok P) (is : T.Is pt) (hz : pt.length ≤ 30) : ∀ q ∈ pt, q.kids.length ≤ 40 := fun q hq => by
  obtain ⟨i, hi⟩ := List.mem_iff_getElem?.mp hq
  obtain ⟨d, hd, hdq⟩ := is.at hi
  obtain ⟨l, e1, e2⟩ := hdq.kids
  have := (ok.kids d (List.mem_of_getElem? hd)).1
  rw [e1, nv_len, is.1] at this
  rw [← e2, List.length_map]
  exact Nat.le_trans this (Nat.le_trans hz (by decide))
/-- what lies in the heap -/
structure Done (w : World) (H : TH) (K : Addr) (T : Dt) (pt : List PN) (rvs : List Value) (all : List Rw) (h : Heap) : Prop where
  sees : Sees w.params H pt h
  dt : T.In h
  rws : All2 (RowAt (fun a o => h.get? a = some o)) rvs all
  knd : ∀ el ∈ [sA, sB, sE], Kinds w h K (look T.es el) el
/-- the table stands, empty -/
inductive Law9 (w : World) (h₀ : Heap) (L : Addr) : (Str → Option Value) → Led → Prop
  | mk (a K R Tb : Addr) (u : Str → Option Value) (T : Dt) (n : Nat) (H : TH) (pt : List PN) (rvs : List Value) (rows es : List Rw) (Z : Led) (tk : Tok) (scr : Value) (c1 c2 c3 c4 c5 oT : Obj) (pl : Plain T pt rows es) (hT : T.Ok w) (hZ : ∀ h : Heap, (∀ p ∈ Z, h.get? p.1 = some p.2) → Done w H K T pt rvs (rows ++ es) h)
    (hoT : oT.IsDictOf (strKind PR w) []) (lo : (Tb == sysModules) = false) (off : OffFr ((Tb, oT) :: (R, listOf rvs.toArray n) :: cellsL L c1 c2 c3 c4 c5) Z) (ne : NeAll (Tb :: R :: keys (cellsL L c1 c2 c3 c4 c5)))
    (d1 : c1.data = .cell (some (.ref H.t))) (d2 : c2.data = .cell (some (.ref T.D))) (d3 : c3.data = .cell (some (.ref K))) (d4 : c4.data = .cell (some (.ref Tb))) (d5 : c5.data = .cell none) :
    Law9 w h₀ L (fun y => if y = Str.ofString "turn" then u (Str.ofString "turn") else if y = Str.ofString "last" then u (Str.ofString "last") else if y = Str.ofString "rows" then some (.ref R) else if y = Str.ofString "root" then some (.int ((0 : Nat) : Int) tk) else if y = Str.ofString "source" then some (.ref a) else if y = Str.ofString "script" then some scr else none) ((Tb, oT) :: (R, listOf rvs.toArray n) :: (cellsL L c1 c2 c3 c4 c5 ++ Z))
section
theorem rows38 : True := by
  k_with_none
  k_with "ktr_enter" =>
    (refine enter_cells (by k_asm) (by k_asm) (by k_asm) (by k_asm) (by k_asm) (by exact rfl) (by exact rfl) (by assumption) (by k_is) (by k_is) (by ktr_room) (by exact BindsTo.of_eq rfl) (by exact rfl) (by decide +kernel) ?_ (by exact rfl) (by exact rfl) (by exact rfl); k_whole; intro g' L' h' tk' cells' FG' F' N' Y' B' X' T' l1 kG'; (try k_lt l1); k_cells Y'; (try dsimp only [List.cons_append, List.nil_append] at N'); (try dsimp only); (try k_fold))
  k_with "ktr_enter" =>
    (refine code_defG (by k_asm) (by k_asm) (by k_asm) (by k_asm) (by k_asm) (by exact rfl) (by exact rfl) (by assumption) (by k_is) (by k_is) (by ktr_room) (by exact BindsTo.of_eq rfl) (by exact locs rfl) ?_ (by exact rfl) (by exact rfl) (by exact rfl) (by decide); k_whole; intro g' L' h' FG' F' N' B' X' T' kG'; (try dsimp only); (try k_fold))
  k_with "k_ne" =>
    (refine neN ?_; (try dsimp only); with_reducible first | assumption | exact Ne.symm (by assumption) | exact Nat.ne_of_gt (by assumption) | exact Nat.ne_of_lt (by assumption) | exact Nat.ne_of_gt (Nat.lt_succ_of_lt (by assumption)) | exact Nat.ne_of_lt (Nat.lt_succ_of_lt (by assumption)))
  k_with "k_lt" =>
    (intro l1; replace l1 := allLt_of l1; (try dsimp only [AllLt] at l1); (repeat (with_reducible (have O8 := And.left l1; replace l1 := And.right l1))))
  k_with "my pick" =>
    (first | (refine Pick1.head ?_; k_extra "k_all") | exact Pick1.tail (by k_ne) (by k_extra "my pick"))
  k_with "my sub" =>
    (first | exact List.forall_mem_nil _ | (refine List.forall_mem_cons.mpr ⟨by k_mem, ?_⟩; k_extra "my sub"))
  k_with "k_room" =>
    ((try simp only [depth_under_make, depth_under_kw, depth_in1, depth_deeper, depth_caller]); (try dsimp only [ktrTop]); omega)
  k_with "my and" =>
    (first | assumption | exact And.intro (by k_ne) (by k_extra "my and") | k_ne)
  k_with "my conj" =>
    (intro l1; (repeat (with_reducible (have O8 := And.left l1; replace l1 := And.right l1))))
  k_with "my off" =>
    ((rename OffL _ _ => O9); (try dsimp only [OffL, Off1, keys, nodeLed, List.map] at O9); revert O9; k_extra "my conj2")
  k_with "CompRest" =>
    (with_unfolding_all first | (refine LCg.CompRest.succ ?_; intro v' I' oI' C' oC' D' m' h' tk' E' hv' hC' hx' F' N' off' ne'; (first | lcg_open hv' | (obtain ⟨t9', hv9'⟩ := hv'; subst hv9')); (try dsimp only [LCg.Off3] at off'); revert off'; k_extra "my conj2"; revert ne'; k_extra "my conj") | refine LCg.CompRest.zero ?_)
  k_with "FinE" =>
    ((unfold LCg.FinE); intro D' h' tk' F' N' o1'; (try dsimp only [LCg.Off1] at o1'); (try dsimp only [List.nil_append, List.cons_append] at N'); (try dsimp only); revert o1'; k_extra "my conj")
  k_with "FinA" =>
    ((unfold LCg.FinA); intro D' h' tk' F' N' o1'; (try dsimp only [LCg.Off1] at o1'); (try dsimp only [List.nil_append, List.cons_append] at N'); (try dsimp only); revert o1'; k_extra "my conj")
  k_with "k_all" =>
    (first | exact List.forall_mem_nil _ | exact Off1.all (by with_reducible assumption) | exact AllLt.ne (by with_reducible assumption) | exact List.forall_mem_cons.mpr ⟨by k_ne, by k_extra "k_all"⟩)
  k_with "my conj2" =>
    (intro l2; (repeat (with_reducible (have l1 := And.left l2; replace l2 := And.right l2; revert l1; k_extra "my conj"))))
  k_with "my same" =>
    (intro z9 hz9; first | rfl | (refine same_step hz9 (by k_mem) ?_; k_extra "my same2") | ((simp only [List.mem_cons, List.not_mem_nil, or_false, not_or] at hz9); first | rfl | (simp only [hz9, if_false, if_neg, over, not_false_eq_true]; done) | (simp [hz9, over]; done)))
  k_with "my same2" =>
    (first | rfl | (refine same_step (by assumption) (by k_mem) ?_; k_extra "my same2"))
  k_with "TurnPost" =>
    (dsimp only [TurnPost])
  k_with "my for" =>
    (k_here; (rename Fr _ _ _ _ => lF'); (with_unfolding_all refine For_turns lF' ?_ (hE := by first | passes_own | assumption); k_whole))
  k_with "execs cons" =>
    (refine wpAny_execs_cons ?_; (try k_fold))
  k_with "room" =>
    (first | exact room2 (by assumption) (by exact rfl) | exact room3 (by assumption) (by exact rfl) | exact room1 (by assumption) (by exact rfl) | exact room0 (by assumption) | exact room4 (by assumption) (by exact rfl))
  k_with "k_room" =>
    (k_extra "room")
  k_with "k_all" =>
    (first | (with_reducible assumption) | exact OffFr.all (by with_reducible assumption) (by k_mem) | exact AllLt.ne (by with_reducible assumption))
  k_with "my ne" =>
    (intro l3; (try dsimp only [NeAll, NeL, keys, List.map] at l3); revert l3; k_extra "my conj2")
  k_with "my nes" =>
    (first | exact trivial | (refine ⟨by k_ne, ?_⟩; k_extra "my nes"))
  k_with "execs cons" =>
    ((with_reducible show wpAny _ _ (execs _ (envX lawN _ _ _ _ _)) _ _ _); refine halt ?_)
  trivial
theorem law_89 (w : World) (h : LawAt w 9 (Law9 w)) : LawAt w 8 (Law8 w) := by
  intro mean mg mb dp un gd ca ccd outer A₀ base h₀ L m nn s Q E B F X N T hdp hun hJ hret hpo
  obtain ⟨a, D, K, R, u, dk, c, n, H, pt, rvs, rows, es, Xt, V, Y, tk, scr, c1, c2, c3, c4, c5, hX, gr, hr, z1, z2, z3, oks, hes, hn, hdt, hc, hE, hm, hK, off, ap, av, ne, d1, d2, d3, d4, d5⟩ := hJ
  have hlk := fun el => Nat.le_trans (hdt.bound el) hc
  obtain ⟨T0, rfl, hT, rfl, rfl, _, _⟩ := hdt
  obtain ⟨Tx, rfl, ok, is, hd⟩ := hX
  have hZ : ∀ h : Heap, (∀ p ∈ Tx.led w.params ++ (T0.led ++ Y), h.get? p.1 = some p.2) → Done w H K T0 pt rvs (rows ++ es) h := fun h hh =>
    ⟨⟨Tx, fun p hp => hh p (List.mem_append_left _ hp), ok, is, hd⟩, fun p hp => hh p (List.mem_append_right _ (List.mem_append_left _ hp)), hr.mono fun _ _ x => x.mono fun a o m => hh (a, o) (List.mem_append_right _ (List.mem_append_right _ m)), fun el he => hK el he h fun p hp => hh p (List.mem_append_right _ (List.mem_append_right _ hp))⟩
  have pl : Plain T0 pt rows es := ⟨gr, z1, z2, z3, oks, hes, hn, hE, hm, hlk, kids_few ok is z3⟩
  clear hr hK ok is hd ap av hes oks gr
  generalize Tx.led w.params ++ (T0.led ++ Y) = Z at off N hZ
  have ne2 := ne
  revert ne2
  k_extra "my ne"
  dsimp only [cellsL, List.cons_append, List.nil_append] at N off
  refine wpAny_execs_cons ?_
  try k_fold
  k_steps
  rename Fr _ _ _ _ => F7
  rename News _ _ _ _ => N7
  rename Obj.IsDictOf (strKind PR w) _ [] => hs7
  rename (_ == sysModules) = false => lo7
  rename AllLt _ Z => lt7
  rename _ = Data.cell (some (Value.ref _)) => e4
  have offT := fun o1 o2 : Obj => (OffFr.cons (o := o1) (AllLt.ne lt7) (off.rep (front' := (R, listOf rvs.toArray n) :: cellsL L c1 c2 c3 o2 c5) rfl))
  exact unhalt (h _ _ _ _ _ _ _ _ _ _ _ _ _ _ _ _ _ _ B F7 X N7 T hdp hun (Law9.mk a K R _ u T0 n H pt rvs rows es Z tk scr c1 c2 c3 _ c5 _ pl hT hZ hs7 lo7 (offT _ _) (by exact ⟨⟨by k_ne, by k_ne, by k_ne, by k_ne, by k_ne, by k_ne, trivial⟩, ne⟩) d1 d2 d3 e4 d5) hret hpo)
end

noncomputable abbrev rowId (dk : Str → List (Str × Str)) (r : Rw) : Nat × Option Str := (r.node, ownId (dk r.name) r.atts)
theorem All2.at2 {α β : Type} {R : α → β → Prop} {l : List α} {m : List β} (h : All2 R l m) {i : Nat} {a : α} {b : β} (ha : l[i]? = some a) (hb : m[i]? = some b) : R a b := by
  obtain ⟨b', e, r⟩ := h.at ha
  rw [hb] at e; cases e; exact r
theorem news_all {h₀ h : Heap} {L : Addr} {l Z : Led} (N : News h₀ L h l) (k : ∀ p ∈ Z, p ∈ l) : ∀ p ∈ Z, h.get? p.1 = some p.2 := fun p hp => (N p (k p hp)).1
theorem row_tup {h : Heap} {t : Addr} {r : Rw} (x : RowAt (fun a o => h.get? a = some o) (.ref t) r) : ∃ ti tn hl, IsTup h t [.int (r.node : Int) ti, .str r.name tn, .ref hl].toArray := by
  obtain ⟨t', ot, ti, tn, hl, oh, hvs, e, p2, p3, _⟩ := x
  cases e
  exact ⟨ti, tn, hl, isTup_of p2 p3⟩
theorem row_ref {G : Addr → Obj → Prop} {v : Value} {r : Rw} (x : RowAt G v r) : ∃ t, v = .ref t := by
  obtain ⟨t, ot, ti, tn, hl, oh, hvs, e, _⟩ := x
  exact ⟨t, e⟩
theorem Plain.fit {T : Dt} {pt : List PN} {rows es : List Rw} (p : Plain T pt rows es) {r : Rw} (h : r ∈ rows ++ es) : r.name ∈ [sA, sB, sE] ∧ (∀ a ∈ r.atts, a.words.length ≤ 13) ∧ r.atts.length ≤ 40 := by
  rcases List.mem_append.mp h with h | h
  · obtain ⟨h1, h2, h3⟩ := p.oks r h
    refine ⟨?_, fun a ha => Nat.le_trans (h3 a ha).1 (by decide), Nat.le_trans h2 (by decide)⟩
    rcases List.mem_cons.mp h1 with e | h1
    · rw [e]; exact .head _
    rcases List.mem_cons.mp h1 with e | h1
    · rw [e]; exact .tail _ (.head _)
    · rw [List.mem_singleton.mp h1]; exact .head _
  · obtain ⟨z, i, rfl⟩ := p.hes r h
    exact ⟨.tail _ (.tail _ (.head _)), fun a ha => by rw [List.mem_singleton.mp ha]; exact (by decide : 1 ≤ 13), (by decide : 1 ≤ 40)⟩
theorem Plain.len {T : Dt} {pt : List PN} {rows es : List Rw} (p : Plain T pt rows es) : (rows ++ es).length ≤ 7 := by
  rw [List.length_append, p.hn]; exact Nat.add_le_add_right p.l2 2
/-- the table is filled -/
inductive Law10 (w : World) (h₀ : Heap) (L : Addr) : (Str → Option Value) → Led → Prop
  | mk (a K R Tb : Addr) (u u2 : Str → Option Value) (T : Dt) (n : Nat) (H : TH) (pt : List PN) (rvs : List Value) (rows es : List Rw) (Z : Led) (kv : List (Str × Value)) (tk : Tok) (scr : Value) (c1 c2 c3 c4 c5 oT : Obj) (pl : Plain T pt rows es) (hT : T.Ok w) (hZ : ∀ h : Heap, (∀ p ∈ Z, h.get? p.1 = some p.2) → Done w H K T pt rvs (rows ++ es) h)
    (hoT : oT.IsDictOf (strKind PR w) kv) (hkv : TabIs kv (tabOf ((rows ++ es).map (rowId (look T.es))))) (lo : (Tb == sysModules) = false) (off : OffFr ((Tb, oT) :: (R, listOf rvs.toArray n) :: cellsL L c1 c2 c3 c4 c5) Z) (ne : NeAll (Tb :: R :: keys (cellsL L c1 c2 c3 c4 c5)))
    (d1 : c1.data = .cell (some (.ref H.t))) (d2 : c2.data = .cell (some (.ref T.D))) (d3 : c3.data = .cell (some (.ref K))) (d4 : c4.data = .cell (some (.ref Tb))) (d5 : c5.data = .cell none) :
    Law10 w h₀ L (fun y => if y = Str.ofString "row" then u (Str.ofString "row") else if y = Str.ofString "own_id" then u (Str.ofString "own_id") else if y = Str.ofString "turn" then u2 (Str.ofString "turn") else if y = Str.ofString "last" then u2 (Str.ofString "last") else if y = Str.ofString "rows" then some (.ref R) else if y = Str.ofString "root" then some (.int ((0 : Nat) : Int) tk) else if y = Str.ofString "source" then some (.ref a) else if y = Str.ofString "script" then some scr else none) ((Tb, oT) :: (R, listOf rvs.toArray n) :: (cellsL L c1 c2 c3 c4 c5 ++ Z))
section
theorem rows39 : True := by
  k_with_none
  k_with "ktr_enter" =>
    (refine enter_cells (by k_asm) (by k_asm) (by k_asm) (by k_asm) (by k_asm) (by exact rfl) (by exact rfl) (by assumption) (by k_is) (by k_is) (by ktr_room) (by exact BindsTo.of_eq rfl) (by exact rfl) (by decide +kernel) ?_ (by exact rfl) (by exact rfl) (by exact rfl); k_whole; intro g' L' h' tk' cells' FG' F' N' Y' B' X' T' l1 kG'; (try k_lt l1); k_cells Y'; (try dsimp only [List.cons_append, List.nil_append] at N'); (try dsimp only); (try k_fold))
  k_with "ktr_enter" =>
    (refine code_defG (by k_asm) (by k_asm) (by k_asm) (by k_asm) (by k_asm) (by exact rfl) (by exact rfl) (by assumption) (by k_is) (by k_is) (by ktr_room) (by exact BindsTo.of_eq rfl) (by exact locs rfl) ?_ (by exact rfl) (by exact rfl) (by exact rfl) (by decide); k_whole; intro g' L' h' FG' F' N' B' X' T' kG'; (try dsimp only); (try k_fold))
  k_with "k_ne" =>
    (refine neN ?_; (try dsimp only); with_reducible first | assumption | exact Ne.symm (by assumption) | exact Nat.ne_of_gt (by assumption) | exact Nat.ne_of_lt (by assumption) | exact Nat.ne_of_gt (Nat.lt_succ_of_lt (by assumption)) | exact Nat.ne_of_lt (Nat.lt_succ_of_lt (by assumption)))
  k_with "k_lt" =>
    (intro l1; replace l1 := allLt_of l1; (try dsimp only [AllLt] at l1); (repeat (with_reducible (have O8 := And.left l1; replace l1 := And.right l1))))
  k_with "my pick" =>
    (first | (refine Pick1.head ?_; k_extra "k_all") | exact Pick1.tail (by k_ne) (by k_extra "my pick"))
  k_with "my sub" =>
    (first | exact List.forall_mem_nil _ | (refine List.forall_mem_cons.mpr ⟨by k_mem, ?_⟩; k_extra "my sub"))
  k_with "k_room" =>
    ((try simp only [depth_under_make, depth_under_kw, depth_in1, depth_deeper, depth_caller]); (try dsimp only [ktrTop]); omega)
  k_with "my and" =>
    (first | assumption | exact And.intro (by k_ne) (by k_extra "my and") | k_ne)
  k_with "my conj" =>
    (intro l1; (repeat (with_reducible (have O8 := And.left l1; replace l1 := And.right l1))))
  k_with "my off" =>
    ((rename OffL _ _ => O9); (try dsimp only [OffL, Off1, keys, nodeLed, List.map] at O9); revert O9; k_extra "my conj2")
  k_with "CompRest" =>
    (with_unfolding_all first | (refine LCg.CompRest.succ ?_; intro v' I' oI' C' oC' D' m' h' tk' E' hv' hC' hx' F' N' off' ne'; (first | lcg_open hv' | (obtain ⟨t9', hv9'⟩ := hv'; subst hv9')); (try dsimp only [LCg.Off3] at off'); revert off'; k_extra "my conj2"; revert ne'; k_extra "my conj") | refine LCg.CompRest.zero ?_)
  k_with "FinE" =>
    ((unfold LCg.FinE); intro D' h' tk' F' N' o1'; (try dsimp only [LCg.Off1] at o1'); (try dsimp only [List.nil_append, List.cons_append] at N'); (try dsimp only); revert o1'; k_extra "my conj")
  k_with "FinA" =>
    ((unfold LCg.FinA); intro D' h' tk' F' N' o1'; (try dsimp only [LCg.Off1] at o1'); (try dsimp only [List.nil_append, List.cons_append] at N'); (try dsimp only); revert o1'; k_extra "my conj")
  k_with "k_all" =>
    (first | exact List.forall_mem_nil _ | exact Off1.all (by with_reducible assumption) | exact AllLt.ne (by with_reducible assumption) | exact List.forall_mem_cons.mpr ⟨by k_ne, by k_extra "k_all"⟩)
  k_with "my conj2" =>
    (intro l2; (repeat (with_reducible (have l1 := And.left l2; replace l2 := And.right l2; revert l1; k_extra "my conj"))))
  k_with "my same" =>
    (intro z9 hz9; first | rfl | (refine same_step hz9 (by k_mem) ?_; k_extra "my same2") | ((simp only [List.mem_cons, List.not_mem_nil, or_false, not_or] at hz9); first | rfl | (simp only [hz9, if_false, if_neg, over, not_false_eq_true]; done) | (simp [hz9, over]; done)))
  k_with "my same2" =>
    (first | rfl | (refine same_step (by assumption) (by k_mem) ?_; k_extra "my same2"))
  k_with "TurnPost" =>
    (dsimp only [TurnPost])
  k_with "my for" =>
    (k_here; (rename Fr _ _ _ _ => lF'); (with_unfolding_all refine For_turns lF' ?_ (hE := by first | passes_own | assumption); k_whole))
  k_with "execs cons" =>
    (refine wpAny_execs_cons ?_; (try k_fold))
  k_with "room" =>
    (first | exact room2 (by assumption) (by exact rfl) | exact room3 (by assumption) (by exact rfl) | exact room1 (by assumption) (by exact rfl) | exact room0 (by assumption) | exact room4 (by assumption) (by exact rfl))
  k_with "k_room" =>
    (k_extra "room")
  k_with "my in" =>
    (with_reducible first | assumption | (refine List.mem_append_left _ ?_; assumption) | (refine List.mem_append_right _ ?_; k_extra "my in") | (refine List.mem_cons_of_mem _ ?_; k_extra "my in"))
  k_with "my tail" =>
    (intro p9 hp9; k_extra "my in")
  k_with "k_all" =>
    (first | (with_reducible assumption) | exact OffFr.all (by with_reducible assumption) (by k_mem) | exact AllLt.ne (by with_reducible assumption))
  k_with "my ne" =>
    (intro l3; (try dsimp only [NeAll, NeL, keys, List.map] at l3); revert l3; k_extra "my conj2")
  k_with "exec For Name Name cons nil" =>
    (k_extra "my for")
  k_with "pyIter" =>
    (refine halt ?_)
  k_with "pyIter ref" =>
    (refine halt ?_)
  k_with "call ref" =>
    (k_here; (with_reducible show wpAny _ _ (call (Value.ref 501) _) _ _ _); k_dflt (refine use_ctE (own_id_p w K _ (look T.es r9.name) r9 hb9) (by k_asm) (by k_asm) (by k_asm) (by k_asm) (by k_asm) (by exact rfl) (by exact pre9 _ (news_all (by k_asm) (by k_extra "my tail"))) (by ktr_room) (by ktr_units) ?_); intro v9 fp9 h9 tk9 F9 N9 O9 R9; obtain ⟨R9, f9⟩ := R9; subst f9; clear O9; (try dsimp only [List.nil_append] at N9); rcases IsOpt.cases R9 with ⟨e9, w9⟩ | ⟨x9, t9, e9, w9⟩ <;> clear R9 <;> subst e9 <;> (try dsimp only) <;> (try k_fold))
  k_with "compareOp NotIn str ref" =>
    (k_here; k_dflt (refine dnotin (by exact dct_of (News.get (by k_asm) (by k_mem)) (by assumption)) (by assumption) (by exact rfl) ?_))
  k_with "subscriptTail Name Constant ref int" =>
    (k_here; k_dflt ((obtain ⟨ti9, tn9, hl9, it9⟩ := row_tup (And.left (pre9 _ (news_all (by k_asm) (by k_extra "my tail"))))); refine item_tupleT (j := 0) it9 (by decide) (by decide) rfl rfl ?_))
  k_with "setItem ref str" =>
    (k_here; k_dflt (refine dset (by k_asm) (by k_asm) (by k_extra "my pick") (by assumption) (by exact not_some (by assumption)) (by assumption) ?_); intro h' o' F' N' hd')
  k_with "execs cons" =>
    ((fail_if_success (have := (‹Going› : Going))); (with_reducible show wpAny _ _ (execs _ (envX lawN _ _ _ _ _)) _ _ _); refine halt ?_)
  trivial
theorem law_910 (w : World) (h : LawAt w 10 (Law10 w)) : LawAt w 9 (Law9 w) := by
  intro mean mg mb dp un gd ca ccd outer A₀ base h₀ L m nn s Q E B F X N Tt hdp hun hJ hret hpo
  obtain ⟨a, K, R, Tb, u, T, n, H, pt, rvs, rows, es, Z, tk, scr, c1, c2, c3, c4, c5, oT, pl, hT, hZ, hoT, lo, off, ne, d1, d2, d3, d4, d5⟩ := hJ
  have ne2 := ne
  revert ne2
  k_extra "my ne"
  refine wpAny_execs_cons ?_
  try k_fold
  k_steps
  rename Fr _ _ _ _ => F1
  rename News _ _ _ _ => N1
  refine unhalt (turns_over (l := R) (vs := rvs) (n := n) [Str.ofString "row", Str.ofString "own_id"] (fun j _ nn => ∃ o kv, nn = (Tb, o) :: (R, listOf rvs.toArray n) :: (cellsL L c1 c2 c3 c4 c5 ++ Z) ∧ o.IsDictOf (strKind PR w) kv ∧ TabIs kv (tabOf (((rows ++ es).take j).map (rowId (look T.es))))) rfl go_name F1 N1 (.tail _ (.head _)) ⟨_, _, rfl, hoT, .nil⟩ (fun j m nn h => by obtain ⟨o, kv, rfl, _⟩ := h; exact .tail _ (.head _)) ?_ ?_)
  · intro j v I ito h1 tk1 u1 nn1 hv hJ hlt hne F1 N1
    k_fold
    have going : Going := ⟨⟩
    obtain ⟨o, kv, rfl, hd, hTk⟩ := hJ
    have dn := hZ h1 (news_all N1 (by k_extra "my tail"))
    obtain ⟨r9, hr9, hrow9⟩ := All2.at dn.rws hv
    obtain ⟨t, rfl⟩ := row_ref hrow9
    obtain ⟨hn9, hb9, ha9⟩ := pl.fit (List.mem_of_getElem? hr9)
    have pre9 : ∀ h : Heap, (∀ p ∈ Z, h.get? p.1 = some p.2) → RowAt (fun a o => h.get? a = some o) (.ref t) r9 ∧ Kinds w h K (look T.es r9.name) r9.name := fun h hh => ⟨All2.at2 (hZ h hh).rws hv hr9, (hZ h hh).knd _ hn9⟩
    have htk : ((rows ++ es).take (j + 1)).map (rowId (look T.es)) = ((rows ++ es).take j).map (rowId (look T.es)) ++ [(r9.node, ownId (look T.es r9.name) r9.atts)] := by rw [List.take_add_one, hr9, List.map_append]; rfl
    have hkl : kv.length ≤ 2 ^ 20 := by
      rw [All2.length hTk]
      refine Nat.le_trans (tab_len _) ?_
      rw [List.length_map, List.length_take]
      exact Nat.le_trans (Nat.min_le_right _ _) (Nat.le_trans pl.len (by decide))
    have offI : OffFr ((I, ito) :: (Tb, o) :: (R, listOf rvs.toArray n) :: cellsL L c1 c2 c3 c4 c5) Z := OffFr.cons (fun p hp => hne p (.tail _ (.tail _ (List.mem_append_right _ hp)))) (off.rep rfl)
    have hoff := off1_of (l := (Tb, o) :: (R, listOf rvs.toArray n) :: cellsL L c1 c2 c3 c4 c5) (a := I) fun p hp => hne p (by
      rcases List.mem_cons.mp hp with rfl | hp
      · exact .head _
      rcases List.mem_cons.mp hp with rfl | hp
      · exact .tail _ (.head _)
      · exact .tail _ (.tail _ (List.mem_append_left _ hp)))
    dsimp only [cellsL, Off1] at hoff
    revert hoff
    k_extra "my conj"
    dsimp only [cellsL, List.cons_append, List.nil_append] at N1 offI
    dsimp only [over] at F1
    clear dn hrow9
    k_steps
    · refine TurnEnd.intro (by assumption) (by assumption) (by k_mem) (fun p hp => .tail _ hp) hne ⟨by k_extra "my same", o, kv, rfl, hd, ?_⟩
      rw [htk, tab_snoc, w9]; exact hTk
    · rename Option.isSome _ = true => hs
      rename Str => nm9
      refine TurnEnd.intro (by assumption) (by assumption) (by k_mem) (fun p hp => .tail _ hp) hne ⟨by k_extra "my same", o, kv, rfl, hd, ?_⟩
      rw [htk, tab_snoc, w9]
      unfold tabStep
      dsimp only
      rw [if_pos (by rw [← hTk.has]; exact hs)]; exact hTk
    · rename Option.isSome _ = false => hs
      rename Str => nm9
      rename Obj.IsDictOf (strKind _ _) _ (_ ++ _) => hd7
      rename News _ _ _ _ => N7
      rename Fr _ _ _ _ => F7
      refine TurnEnd.intro (news' := (Tb, _) :: (R, listOf rvs.toArray n) :: (cellsL L c1 c2 c3 c4 c5 ++ Z)) F7 N7 (.tail _ (.head _)) (fun p hp => (List.mem_cons.mp hp).elim (fun e => e ▸ .head _) fun hp => .tail _ (.tail _ hp)) (fun p hp => (List.mem_cons.mp hp).elim (fun e => by rw [e]; exact hne (Tb, o) (.head _)) fun hp => hne p (.tail _ hp)) ⟨by k_extra "my same", _, _, rfl, hd7, ?_⟩
      rw [htk, tab_snoc, w9]
      unfold tabStep
      dsimp only
      rw [if_neg (by rw [← hTk.has, hs]; exact Bool.false_ne_true)]
      exact All2.push hTk ⟨rfl, _, rfl⟩
  · intro u1 nn1 h1 tk1 hJ F1 N1
    obtain ⟨o, kv, rfl, hd, hTk⟩ := hJ
    dsimp only [over] at F1
    k_steps
    rw [show rvs.length = (rows ++ es).length from All2.length (hZ h1 (news_all N1 (by k_extra "my tail"))).rws, List.take_length] at hTk
    exact unhalt (h _ _ _ _ _ _ _ _ _ _ _ _ _ _ _ _ _ _ B F1 X N1 Tt hdp hun (Law10.mk a K R Tb u1 u T n H pt rvs rows es Z kv tk scr c1 c2 c3 c4 c5 o pl hT hZ hd hTk lo (off.rep rfl) ne d1 d2 d3 d4 d5) hret hpo)
end

theorem menu_id {ks : List (Str × Str)} (h : ∀ p ∈ ks, p ∈ menuK) : ∀ p ∈ ks, (p.2 = sID ↔ p.1 = sI) := fun p hp => by
  have h1 : ∀ p ∈ menuK, (p.2 = sID ↔ p.1 = sI) := by decide +kernel
  exact h1 p (h p hp)
theorem lookup_mem {ks : List (Str × Str)} {n k : Str} (h : ks.lookup n = some k) : (n, k) ∈ ks := by
  induction ks with
  | nil => cases h
  | cons p r ih =>
    obtain ⟨a, b⟩ := p
    rw [List.lookup_cons] at h
    by_cases e : n = a
    · subst e
      rw [beq_self_eq_true] at h
      cases h; exact .head _
    · rw [(by simpa using e : (n == a) = false)] at h
      exact .tail _ (ih h)
theorem lookup_some {ks : List (Str × Str)} {n k : Str} (h : (n, k) ∈ ks) : ∃ k', ks.lookup n = some k' := by
  induction ks with
  | nil => cases h
  | cons p r ih =>
    obtain ⟨a, b⟩ := p
    rw [List.lookup_cons]
    by_cases e : n = a
    · subst e; rw [beq_self_eq_true]; exact ⟨b, rfl⟩
    · rw [(by simpa using e : (n == a) = false)]
      rcases List.mem_cons.mp h with h | h
      · cases h; exact absurd rfl e
      · exact ih h
theorem own_none {ks : List (Str × Str)} (h : ∀ n, ks.lookup n ≠ some sID) : ∀ {atts : List At}, ownId ks atts = none
  | [] => rfl
  | a :: r => by unfold ownId; rw [if_neg (h _)]; exact own_none h
theorem own_find {pt : List PN} {ks : List (Str × Str)} (hk : ∀ n, ks.lookup n = some sID ↔ n = sI) : ∀ {atts : List At}, (∀ a ∈ atts, AttIs pt a) → attFind pt sI (atts.map (·.idx)) = ownId ks atts
  | [], _ => rfl
  | a :: r, h => by
    obtain ⟨q, e, h1, h2, h3, h4⟩ := h a (.head _)
    show attFind pt sI (a.idx :: r.map (·.idx)) = _
    unfold attFind ownId
    rw [e]
    dsimp only
    rw [h1, h3]
    by_cases hn : a.name = sI
    · rw [if_pos hn, if_pos ((hk _).mpr hn)]
      match a.words with
      | [] => rfl
      | [_] => rfl
      | _ :: _ :: _ => rfl
    · rw [if_neg hn, if_neg fun h => hn ((hk _).mp h)]
      exact own_find hk fun a ha => h a (.tail _ ha)
/-- the ID of an element is the one of its row -/
theorem id_row {pt : List PN} {dk : Str → List (Str × Str)} {r : Rw} (hr : RowIs pt r) (hk : ∀ p ∈ dk r.name, p ∈ menuK) : idAt pt dk r.node = ownId (dk r.name) r.atts := by
  obtain ⟨q, e, h1, h2, h3, h4⟩ := hr
  unfold idAt
  rw [e]
  dsimp only
  unfold idOf
  rw [h2, h3]
  have hm := menu_id hk
  cases hf : ofKind (dk r.name) sID with
  | nil =>
    dsimp only
    refine (own_none fun n hn => ?_).symm
    have : n ∈ ofKind (dk r.name) sID := List.mem_map.mpr ⟨(n, sID), List.mem_filter.mpr ⟨lookup_mem hn, by simp⟩, rfl⟩
    rw [hf] at this; cases this
  | cons n l =>
    dsimp only
    have hn : n ∈ ofKind (dk r.name) sID := by rw [hf]; exact .head _
    obtain ⟨p, hp, hpn⟩ := List.mem_map.mp hn
    obtain ⟨hp1, hp2⟩ := List.mem_filter.mp hp
    have hp2 : p.2 = sID := by simpa using hp2
    have hi : n = sI := by rw [← hpn]; exact (hm p hp1).mp hp2
    subst hi
    refine own_find (fun z => ⟨fun hz => (hm _ (lookup_mem hz)).mp rfl, fun hz => ?_⟩) h4
    subst hz
    obtain ⟨k, hk'⟩ := lookup_some (ks := dk r.name) (n := sI) (k := p.2) (by rw [← hpn]; exact hp1)
    rw [hk']
    exact congrArg some ((hm _ (lookup_mem hk')).mpr rfl)
theorem flatMap_same {α β : Type} {l : List α} {f g : α → List β} (h : ∀ a ∈ l, f a = g a) : l.flatMap f = l.flatMap g := by
  induction l with
  | nil => rfl
  | cons a r ih => rw [List.flatMap_cons, List.flatMap_cons, h a (.head _), ih fun b hb => h b (.tail _ hb)]
theorem refs_row {pt : List PN} {dk : Str → List (Str × Str)} {r : Rw} (hr : RowIs pt r) : refsAt pt dk r.node = rowPairs (dk r.name) r.atts := by
  obtain ⟨q, e, h1, h2, h3, h4⟩ := hr
  unfold refsAt
  rw [e]
  dsimp only
  unfold refsOf rowPairs
  rw [h2, h3, List.flatMap_map]
  refine flatMap_same fun a ha => ?_
  obtain ⟨qa, ea, g1, g2, g3, g4⟩ := h4 a ha
  unfold refsAtt attPairs
  rw [ea]
  dsimp only
  rw [g1, g3]

/-- the readers fit the tree -/
theorem Plain.ptok {T : Dt} {pt : List PN} {rows es : List Rw} (p : Plain T pt rows es) : PtOk pt (nodes (rows ++ es)) := by
  obtain ⟨q, h1, h2, h3, h4⟩ := p.gr.root
  exact ⟨⟨q, h1, h4⟩, Nat.le_trans p.l3 (by decide), by rw [List.length_map]; exact Nat.le_trans p.len (by decide), p.kids⟩
theorem Plain.outok {T : Dt} {pt : List PN} {rows es : List Rw} (p : Plain T pt rows es) : OutOk T pt (nodes (rows ++ es)) := fun i hi => by
  obtain ⟨r, hr, rfl⟩ := List.mem_map.mp hi
  obtain ⟨q, h1, h2, h3, h4, h5⟩ := p.gr.row r hr
  refine ⟨q, h1, fun a ha => ?_, Nat.le_trans (p.lk _) (by decide)⟩
  rw [h4] at ha
  obtain ⟨b, hb, rfl⟩ := List.mem_map.mp ha
  obtain ⟨qa, e, g1, g2, g3, g4⟩ := h5 b hb
  exact ⟨qa, e, g4⟩
theorem Plain.menu {T : Dt} {pt : List PN} {rows es : List Rw} (p : Plain T pt rows es) {r : Rw} (h : r ∈ rows ++ es) : ∀ x ∈ look T.es r.name, x ∈ menuK := by
  have hn := (p.fit h).1
  rcases List.mem_cons.mp hn with e | hn
  · exact p.hm _ (by rw [e]; exact .head _)
  rcases List.mem_cons.mp hn with e | hn
  · exact p.hm _ (by rw [e]; exact .tail _ (.head _))
  · rw [List.mem_singleton.mp hn, p.hE]
    intro x hx
    rw [List.mem_singleton.mp hx]; exact .head _
/-- the two tables are one -/
theorem Plain.ids {T : Dt} {pt : List PN} {rows es : List Rw} (p : Plain T pt rows es) : (nodes (rows ++ es)).map (idRow pt (look T.es)) = (rows ++ es).map (rowId (look T.es)) := by
  rw [List.map_map]
  exact List.map_congr_left fun r hr => by
    show (r.node, idAt pt (look T.es) r.node) = (r.node, ownId (look T.es r.name) r.atts)
    rw [id_row (p.gr.row r hr) (p.menu hr)]
theorem TabIs.last {kv : List (Str × Value)} {l0 : List (Str × Nat)} {x : Str} {z : Nat} (h : TabIs kv (l0 ++ [(x, z)])) (hn : ∀ a ∈ l0, a.1 ≠ x) : ∃ t, valueAt kv x = some (.int ((z : Nat) : Int) t) := by
  induction l0 generalizing kv with
  | nil =>
    cases h with
    | cons r h' =>
      obtain ⟨e, t, e2⟩ := r
      cases h'
      exact ⟨t, by simp [valueAt, e, e2]⟩
  | cons a r ih =>
    cases h with
    | @cons p _ kv' _ r0 h' =>
      obtain ⟨t, ht⟩ := ih h' fun b hb => hn b (.tail _ hb)
      have hp : p.1 ≠ x := by rw [r0.1]; exact hn a (.head _)
      refine ⟨t, ?_⟩
      rw [← ht]
      unfold valueAt
      rw [List.find?_cons_of_neg (by simpa using hp)]
theorem tab_keys {x : Str} : ∀ (l : List (Nat × Option Str)) (acc : List (Str × Nat)), (∀ a ∈ acc, a.1 ≠ x) → (∀ p ∈ l, p.2 ≠ some x) → ∀ a ∈ l.foldl tabStep acc, a.1 ≠ x
  | [], _, h, _ => h
  | p :: r, acc, h, h' => tab_keys r (tabStep acc p) (fun a ha => by
      unfold tabStep at ha
      split at ha
      · exact h a ha
      · next y hy =>
        split at ha
        · exact h a ha
        · rcases List.mem_append.mp ha with ha | ha
          · exact h a ha
          · rw [List.mem_singleton.mp ha]; exact fun e => h' p (.head _) (by rw [hy, ← e])) fun q hq => h' q (.tail _ hq)
theorem own_word {ks : List (Str × Str)} {x : Str} : ∀ {atts : List At}, ownId ks atts = some x → ∃ a ∈ atts, x ∈ a.words
  | [], h => nomatch h
  | a :: r, h => by
    unfold ownId at h
    split at h
    · refine ⟨a, .head _, ?_⟩
      revert h
      match a.words with
      | [] => exact fun h => nomatch h
      | [y] => intro h; cases h; exact .head _
      | _ :: _ :: _ => exact fun h => nomatch h
    · obtain ⟨b, hb, hx⟩ := own_word h
      exact ⟨b, .tail _ hb, hx⟩
/-- the first of the two last elements has the name -/
theorem Plain.twice {T : Dt} {pt : List PN} {rows es : List Rw} {kv : List (Str × Value)} (p : Plain T pt rows es) (h : TabIs kv (tabOf ((rows ++ es).map (rowId (look T.es))))) : ∃ e1 e2 t, es = [e1, e2] ∧ valueAt kv sTw = some (.int ((e1.node : Nat) : Int) t) := by
  obtain ⟨e1, e2, rfl⟩ : ∃ a b, es = [a, b] := by
    match es, p.hn with
    | [a, b], _ => exact ⟨a, b, rfl⟩
  have id : ∀ e ∈ [e1, e2], rowId (look T.es) e = (e.node, some sTw) := fun e he => by
    obtain ⟨z, i, rfl⟩ := p.hes e he
    show (z, ownId (look T.es sE) _) = _
    rw [p.hE]
    unfold ownId
    rw [if_pos (by rfl : List.lookup sI [(sI, sID)] = some sID)]
    rfl
  have nk : ∀ a ∈ tabOf (rows.map (rowId (look T.es))), a.1 ≠ sTw := tab_keys _ _ (fun _ h => nomatch h) fun q hq e => by
    obtain ⟨r, hr, rfl⟩ := List.mem_map.mp hq
    obtain ⟨a, ha, hx⟩ := own_word (show ownId _ _ = some sTw from e)
    have := ((p.oks r hr).2.2 a ha).2 _ hx
    revert this
    decide
  have na : (tabOf (rows.map (rowId (look T.es)))).any (fun a => a.1 == sTw) = false := by
    rw [List.any_eq_false]
    intro a ha e
    exact nk a ha (by simpa using e)
  have ht : tabOf ((rows ++ [e1, e2]).map (rowId (look T.es))) = tabOf (rows.map (rowId (look T.es))) ++ [(sTw, e1.node)] := by
    rw [List.map_append]
    show (List.foldl tabStep [] (_ ++ [rowId (look T.es) e1, rowId (look T.es) e2])) = _
    rw [List.foldl_append, id e1 (.head _), id e2 (.tail _ (.head _))]
    show tabStep (tabStep (tabOf (rows.map (rowId (look T.es)))) (e1.node, some sTw)) (e2.node, some sTw) = _
    have s1 : tabStep (tabOf (rows.map (rowId (look T.es)))) (e1.node, some sTw) = tabOf (rows.map (rowId (look T.es))) ++ [(sTw, e1.node)] := by
      show (if _ = true then _ else _) = _
      rw [na]; rfl
    rw [s1]
    show (if ((tabOf (rows.map (rowId (look T.es))) ++ [(sTw, e1.node)]).any fun a => a.1 == sTw) = true then _ else _) = _
    rw [List.any_append, if_pos (by simp)]
  rw [ht] at h
  obtain ⟨t, e⟩ := h.last nk
  exact ⟨e1, e2, t, rfl, e⟩

theorem valueAt_mem {kvs : List (Str × Value)} {k : Str} {y : Value} (hn : (kvs.map (·.1)).Nodup) (h : (k, y) ∈ kvs) : valueAt kvs k = some y := by
  obtain ⟨i, hi⟩ := List.mem_iff_getElem?.mp h
  exact valueAt_get hn hi
theorem tab_hits {A : Around} {s : Shared} {kb : List (Str × Value)} (hn : (kb.map (·.1)).Nodup) {ka' kb' : List (Str × Value)} {l' : List (Str × Nat)} (h1 : TabIs ka' l') (h2 : TabIs kb' l') (hs : ∀ p ∈ kb', p ∈ kb) : KeqHits A s kb ka' true := by
  induction h1 generalizing kb' with
  | nil => exact .nil
  | @cons p x r l r1 _ ih =>
    cases h2 with
    | @cons q _ r' _ r3 h4 =>
      obtain ⟨k, v⟩ := p
      obtain ⟨k2, v2⟩ := q
      obtain ⟨e1, t1, e2⟩ := r1
      obtain ⟨e3, t3, e4⟩ := r3
      dsimp only at e1 e2 e3 e4
      subst e1; subst e2; subst e4
      have hit := KeqHits.hit (A := A) (s := s) (kb := kb) (k := x.1) (valueAt_mem hn (hs _ (by rw [← e3]; exact .head _))) (SeqAt.EqAt.int_int ((x.2 : Nat) : Int) t1 ((x.2 : Nat) : Int) t3) (ih h4 fun p hp => hs p (.tail _ hp))
      rw [beq_self_eq_true] at hit
      exact hit
theorem kne_tabs {w : World} {A : Around} {E : Value → Shared → Prop} {s : Shared} {h₀ : Heap} {L a b : Addr} {oa ob : Obj} {news : Led} {ka kb : List (Str × Value)} {l : List (Str × Nat)} {Q : Value → Shared → Prop} (N : News h₀ L s.heap news) (pa : (a, oa) ∈ news) (pb : (b, ob) ∈ news) (da : oa.IsDictOf (strKind PR w) ka) (db : ob.IsDictOf (strKind PR w) kb)
    (la : (a == sysModules) = false) (lb : (b == sysModules) = false) (ha : TabIs ka l) (hb : TabIs kb l) (hu : A.units < cLine) (h : Q (.bool false) s) : wpAny (model PR w) A (compareOp .NotEq (.ref a) (.ref b)) Q E s :=
  kne_pairs N pa pb da db la lb ((All2.length ha).trans (All2.length hb).symm) hu (tab_hits (dct_nodup db) ha hb fun _ h => h) h
theorem split_two {α β : Type} {R : α → β → Prop} {x y : β} : ∀ {l : List α} {r : List β}, All2 R l (r ++ [x, y]) → ∃ l0 a b, l = l0 ++ [a, b] ∧ R a x ∧ R b y
  | _, [], .cons h1 (.cons h2 .nil) => ⟨[], _, _, rfl, h1, h2⟩
  | _, _ :: r, .cons _ h => by
    obtain ⟨l0, a, b, e, h1, h2⟩ := split_two (r := r) h
    subst e
    exact ⟨_ :: l0, a, b, rfl, h1, h2⟩
section
variable {prog : Program} {w : World} {A : Around} {E : Value → Shared → Prop} {s : Shared} {l : Addr} {vs : List Value} {value slice : PySem.Expr} {Q : Value → Shared → Prop}
theorem item_two {u : Tok} {a b : Value} (hl : s.heap.IsList l (vs ++ [a, b]).toArray) (h : Q a s)
    (hs : subscripted slice false (.ref l) (.int (-2) u) = operate [.ref l, .int (-2) u] (getItem (.ref l) (.int (-2) u)) := by with_unfolding_all rfl) :
    wpAny (model prog w) A (subscriptTail value slice (.ref l) (.int (-2) u)) Q E s := by
  have hsz : (vs ++ [a, b]).toArray.size = vs.length + 2 := by simp
  refine tail_any hl.typeIs slot_list_getitem.lookup (wpAny_getItem_list_neg hl (by decide) (by rw [hsz]; omega) (by decide) (x := a) ?_ h) hs
  rw [hsz, show ((-2 : Int) + ((vs.length + 2 : Nat) : Int)).toNat = vs.length by omega]
  simp
end
section
theorem rows40 : True := by
  k_with_none
  k_with "ktr_enter" =>
    (refine enter_cells (by k_asm) (by k_asm) (by k_asm) (by k_asm) (by k_asm) (by exact rfl) (by exact rfl) (by assumption) (by k_is) (by k_is) (by ktr_room) (by exact BindsTo.of_eq rfl) (by exact rfl) (by decide +kernel) ?_ (by exact rfl) (by exact rfl) (by exact rfl); k_whole; intro g' L' h' tk' cells' FG' F' N' Y' B' X' T' l1 kG'; (try k_lt l1); k_cells Y'; (try dsimp only [List.cons_append, List.nil_append] at N'); (try dsimp only); (try k_fold))
  k_with "ktr_enter" =>
    (refine code_defG (by k_asm) (by k_asm) (by k_asm) (by k_asm) (by k_asm) (by exact rfl) (by exact rfl) (by assumption) (by k_is) (by k_is) (by ktr_room) (by exact BindsTo.of_eq rfl) (by exact locs rfl) ?_ (by exact rfl) (by exact rfl) (by exact rfl) (by decide); k_whole; intro g' L' h' FG' F' N' B' X' T' kG'; (try dsimp only); (try k_fold))
  k_with "k_ne" =>
    (refine neN ?_; (try dsimp only); with_reducible first | assumption | exact Ne.symm (by assumption) | exact Nat.ne_of_gt (by assumption) | exact Nat.ne_of_lt (by assumption) | exact Nat.ne_of_gt (Nat.lt_succ_of_lt (by assumption)) | exact Nat.ne_of_lt (Nat.lt_succ_of_lt (by assumption)))
  k_with "k_lt" =>
    (intro l1; replace l1 := allLt_of l1; (try dsimp only [AllLt] at l1); (repeat (with_reducible (have O8 := And.left l1; replace l1 := And.right l1))))
  k_with "my pick" =>
    (first | (refine Pick1.head ?_; k_extra "k_all") | exact Pick1.tail (by k_ne) (by k_extra "my pick"))
  k_with "my sub" =>
    (first | exact List.forall_mem_nil _ | (refine List.forall_mem_cons.mpr ⟨by k_mem, ?_⟩; k_extra "my sub"))
  k_with "k_room" =>
    ((try simp only [depth_under_make, depth_under_kw, depth_in1, depth_deeper, depth_caller]); (try dsimp only [ktrTop]); omega)
  k_with "my and" =>
    (first | assumption | exact And.intro (by k_ne) (by k_extra "my and") | k_ne)
  k_with "my conj" =>
    (intro l1; (repeat (with_reducible (have O8 := And.left l1; replace l1 := And.right l1))))
  k_with "my off" =>
    ((rename OffL _ _ => O9); (try dsimp only [OffL, Off1, keys, nodeLed, List.map] at O9); revert O9; k_extra "my conj2")
  k_with "CompRest" =>
    (with_unfolding_all first | (refine LCg.CompRest.succ ?_; intro v' I' oI' C' oC' D' m' h' tk' E' hv' hC' hx' F' N' off' ne'; (first | lcg_open hv' | (obtain ⟨t9', hv9'⟩ := hv'; subst hv9')); (try dsimp only [LCg.Off3] at off'); revert off'; k_extra "my conj2"; revert ne'; k_extra "my conj") | refine LCg.CompRest.zero ?_)
  k_with "FinE" =>
    ((unfold LCg.FinE); intro D' h' tk' F' N' o1'; (try dsimp only [LCg.Off1] at o1'); (try dsimp only [List.nil_append, List.cons_append] at N'); (try dsimp only); revert o1'; k_extra "my conj")
  k_with "FinA" =>
    ((unfold LCg.FinA); intro D' h' tk' F' N' o1'; (try dsimp only [LCg.Off1] at o1'); (try dsimp only [List.nil_append, List.cons_append] at N'); (try dsimp only); revert o1'; k_extra "my conj")
  k_with "k_all" =>
    (first | exact List.forall_mem_nil _ | exact Off1.all (by with_reducible assumption) | exact AllLt.ne (by with_reducible assumption) | exact List.forall_mem_cons.mpr ⟨by k_ne, by k_extra "k_all"⟩)
  k_with "my conj2" =>
    (intro l2; (repeat (with_reducible (have l1 := And.left l2; replace l2 := And.right l2; revert l1; k_extra "my conj"))))
  k_with "my same" =>
    (intro z9 hz9; first | rfl | (refine same_step hz9 (by k_mem) ?_; k_extra "my same2") | ((simp only [List.mem_cons, List.not_mem_nil, or_false, not_or] at hz9); first | rfl | (simp only [hz9, if_false, if_neg, over, not_false_eq_true]; done) | (simp [hz9, over]; done)))
  k_with "my same2" =>
    (first | rfl | (refine same_step (by assumption) (by k_mem) ?_; k_extra "my same2"))
  k_with "TurnPost" =>
    (dsimp only [TurnPost])
  k_with "my for" =>
    (k_here; (rename Fr _ _ _ _ => lF'); (with_unfolding_all refine For_turns lF' ?_ (hE := by first | passes_own | assumption); k_whole))
  k_with "execs cons" =>
    (refine wpAny_execs_cons ?_; (try k_fold))
  k_with "room" =>
    (first | exact room2 (by assumption) (by exact rfl) | exact room3 (by assumption) (by exact rfl) | exact room1 (by assumption) (by exact rfl) | exact room0 (by assumption) | exact room4 (by assumption) (by exact rfl))
  k_with "k_room" =>
    (k_extra "room")
  k_with "my in" =>
    (with_reducible first | assumption | (refine List.mem_append_left _ ?_; assumption) | (refine List.mem_append_right _ ?_; k_extra "my in") | (refine List.mem_cons_of_mem _ ?_; k_extra "my in"))
  k_with "my tail" =>
    (intro p9 hp9; k_extra "my in")
  k_with "k_all" =>
    (first | (with_reducible assumption) | exact OffFr.all (by with_reducible assumption) (by k_mem) | exact AllLt.ne (by with_reducible assumption))
  k_with "call ref" =>
    (k_here; (with_reducible show wpAny _ _ (call (Value.ref 56) _) _ _ _); k_dflt (refine use_ctE (id_table_p w H pt T _ _ hT pl.ptok pl.outok) (by k_asm) (by k_asm) (by k_asm) (by k_asm) (by k_asm) (by exact rfl) (by exact pre9 _ (news_all (by k_asm) (by k_extra "my tail"))) (by ktr_room) (by ktr_units) ?_); intro r9 fp9 h9 tk9 F9 N9 O9 R9; obtain ⟨Dk, ok, kv9, e9, f9, hdk, lok, htab⟩ := R9; subst e9; subst f9; clear O9; (rw [pl.ids] at htab); (try dsimp only [List.cons_append, List.nil_append] at N9); (try dsimp only); (try k_fold))
  k_with "execs cons" =>
    ((with_reducible show wpAny _ _ (execs _ (envX lawN _ _ _ _ _)) _ _ _); refine halt ?_)
  k_with "compareOp NotEq ref ref" =>
    (k_here; k_dflt (refine kne_tabs (by k_asm) (by k_mem) (by k_mem) (by assumption) (by assumption) (by assumption) (by assumption) (by assumption) (by assumption) (by ktr_units) ?_))
  k_with "subscriptTail Name Constant ref str" =>
    (k_here; k_dflt (refine ditem (dct_of (News.get (by k_asm) (by k_mem)) (by assumption)) (by assumption) ?_))
  k_with "subscriptTail Name UnaryOp ref int" =>
    (k_here; k_dflt (refine item_two (News.isList (by k_asm) (by k_mem)) ?_))
  k_with "subscriptTail Subscript Name UnaryOp Constant ref int" =>
    (k_here; k_dflt ((obtain ⟨ti9, tn9, hl9, it9⟩ := row_tup (pre1 _ (news_all (by k_asm) (by k_extra "my tail")))); refine item_tupleT (j := 0) it9 (by decide) (by decide) rfl rfl ?_))
  trivial
theorem law_1011 (w : World) (h : LawAt w 11 (Law10 w)) : LawAt w 10 (Law10 w) := by
  intro mean mg mb dp un gd ca ccd outer A₀ base h₀ L m nn s Q E B F X N Tt hdp hun hJ hret hpo
  obtain ⟨a, K, R, Tb, u, u2, T, n, H, pt, rvs, rows, es, Z, kv, tk, scr, c1, c2, c3, c4, c5, oT, pl, hT, hZ, hoT, hkv, lo, off, ne, d1, d2, d3, d4, d5⟩ := hJ
  have pre9 : ∀ h : Heap, (∀ p ∈ Z, h.get? p.1 = some p.2) → Sees w.params H pt h ∧ T.In h := fun h hh => ⟨(hZ h hh).sees, (hZ h hh).dt⟩
  obtain ⟨e1, e2, t1, rfl, htw⟩ := pl.twice hkv
  obtain ⟨rv, v1, v2, rfl, hv1, -⟩ := split_two (hZ s.heap (news_all N (by k_extra "my tail"))).rws
  obtain ⟨r1, rfl⟩ := row_ref hv1
  clear hv1
  have pre1 : ∀ h : Heap, (∀ p ∈ Z, h.get? p.1 = some p.2) → RowAt (fun a o => h.get? a = some o) (.ref r1) e1 := fun h hh => by
    obtain ⟨l0, a, b, e, h1, _⟩ := split_two (hZ h hh).rws
    have e' := List.append_inj_left' e rfl
    have e2 := List.append_inj_right' e rfl
    cases e2; exact h1
  dsimp only [cellsL, List.cons_append, List.nil_append] at N
  refine wpAny_execs_cons ?_
  try k_fold
  k_steps
  · rename ¬(_ = _) => hne
    exact absurd rfl hne
  · rename Fr _ _ _ _ => F7
    rename News _ _ _ _ => N7
    exact unhalt (h _ _ _ _ _ _ _ _ _ _ _ _ _ _ _ _ _ _ B F7 X (news_sub (l' := (Tb, oT) :: (R, listOf (rv ++ [Value.ref r1, v2]).toArray n) :: (cellsL L c1 c2 c3 c4 c5 ++ Z)) N7 fun p hp => .tail _ hp) Tt hdp hun (Law10.mk a K R Tb u u2 T n H pt _ rows _ Z kv _ scr c1 c2 c3 c4 c5 oT pl hT hZ hoT hkv lo off ne d1 d2 d3 d4 d5) hret hpo)
end

section
variable {prog : Program} {w : World} {A : Around} {E : Value → Shared → Prop} {s : Shared} {h₀ : Heap} {m : Str → Option Value} {env : Env}
/-- a comprehension that is stored into a name, at its iterable -/
noncomputable def CompGoU (prog : Program) (w : World) (A : Around) (E : Value → Shared → Prop) (env : Env) (elt : PySem.Expr) (gens : List Comprehension) (scope : Scope) (cl : List (Str × Addr)) (cp : Pos) (y : Str) (py : Pos) (Q : Flow → Shared → Prop) (xv : Value) (s₁ : Shared) : Prop :=
  wpAny (model prog w) A (pyIter xv) (fun it s₂ => wpAny (model prog w) A (newList []) (fun acc s₃ => wpAny (model prog w) A (newFunctionEnv scope env.globals cl [] env.qual none .none (some env)) (fun cenv s₄ =>
      codeAny (model prog w) A (.compStart (.ListComp elt gens scope cp) 0 it acc { cenv with scope := relabel scope env }) (compPost (model prog w) A E (some (assign (.Name y py) env)) (fun _ s' => Q .next s') acc cenv.locals) s₄) E s₃) E s₂) E s₁
theorem comp_assign {elt iter target : PySem.Expr} {ifs : List PySem.Expr} {rest : List Comprehension} {y : Str} {py : Pos} {scope : Scope} {cl : List (Str × Addr)} {pos spos : Pos} {Q : Flow → Shared → Prop} (_F₀ : Fr h₀ env.locals s.heap m)
    (hsw : swapsWith (.ListComp elt (⟨target, iter, ifs, 0⟩ :: rest) scope pos) (some (.Name y py)) spos.line env = pure true)
    (hclos : closureFor scope env = pure cl) (hkind : scope.kind = .function) (hnames : ∀ z ∈ scope.names, z.2 = .local → scope.names.lookup z.1 = some .local)
    (h : wpAny (model prog w) A (eval iter env) (CompGoU prog w A E env elt (⟨target, iter, ifs, 0⟩ :: rest) scope cl pos y py Q) E s)
    (hs : ∀ x, foldedSetIterable iter env x = pure x := by intro _; rfl) :
    wpAny (model prog w) A (exec (.Assign [.Name y py] (.ListComp elt (⟨target, iter, ifs, 0⟩ :: rest) scope pos) spos) env) Q E s := by
  rw [exec_Assign_Name_used _ _ _ _ hsw]
  refine wpAny_bind (wpAny_standAt (wpAny_bind ?_))
  show wpAny _ A (do let _ ← comprehension (.ListComp elt (⟨target, iter, ifs, 0⟩ :: rest) scope pos) scope env _ (newList []) false (eval iter env) (some (assign (.Name y py) env))) _ _ s
  exact wpAny_bind (wpAny_mono (wpAny_comprehension_free (use := some (assign (.Name y py) env)) (Q := fun _ s' => Q .next s') rfl hs hclos hkind hnames h) (fun _ s' hq => wpAny_pure (wpAny_pure hq)) fun _ _ e => e)
open LCg in
theorem comp_mapU {elt iter : PySem.Expr} {x y : Str} {px py : Pos} {scope : Scope} {cl : List (Str × Addr)} {cp : Pos} {l : Addr} {vs : List Value} {news : Led} {Q : Flow → Shared → Prop} (J : Nat → List Value → Led → Prop)
    (hh : A.handled = none) (hcell : ∀ y ∈ scope.names, y.2 ≠ .cell) (hkind : scope.kind = .function) (hx : scope.names.lookup x = some .local) (hy : env.kindOf y = some .local) (hp : (env.scope.kind == .class || (env.scope.kind == .module && env.locals != env.globals)) = false) (hls : s.heap.IsList l vs.toArray) (hz : vs.length ≤ 2 ^ 20)
    (F : Fr h₀ env.locals s.heap m) (N : News h₀ env.locals s.heap news) (hL : env.locals ≠ l) (h0 : J 0 [] news)
    (step : ∀ I C D i v oC m₂ ys nn h tk own (E' : Value → Shared → Prop), (@Ne Nat C D) → vs[i]? = some v → J i ys nn → NsObj oC m₂ → m₂ x = some v → (∀ p ∈ nn, p.1 ∉ [I] ∧ p.1 ≠ C ∧ p.1 ≠ D) → (∃ oI, (I, oI) ∈ own) → Fr h₀ env.locals h m → News h₀ env.locals h (own ++ (C, oC) :: (D, lst ys) :: nn) →
      wpAny (model prog w) A (eval elt (compEnvC scope cl C env)) (fun y s₄ => GEnd h₀ env.locals m [I] own C D ys (J (i + 1) (ys ++ [y])) { s with heap := h, toks := tk } s₄) E' { s with heap := h, toks := tk })
    (fin : ∀ h' tk D ys nn, Fr h₀ env.locals h' (fun z => if z = y then some (.ref D) else m z) → News h₀ env.locals h' ((D, lst ys) :: nn) → (∀ p ∈ nn, p.1 ≠ D) → J vs.length ys nn → Q .next { s with heap := h', toks := tk }) :
    CompGoU prog w A E env elt [⟨.Name x px, iter, [], 0⟩] scope cl cp y py Q (.ref l) s := by
  have hlt : l < s.heap.objs.size := let ⟨o, e, _⟩ := hls; Heap.lt_size e
  have hne : l ≠ s.heap.objs.size := Nat.ne_of_lt hlt
  have hsz : vs.toArray.size = vs.length := List.size_toArray ..
  have W : Walks prog w A s.heap.objs.size [s.heap.objs.size, l] [s.heap.objs.size] vs.length _ _ := hsz ▸ Walks.list hh s.heap.objs.size l hne vs.toArray
  have W2 := KTurns.ofWalks (target := .Name x px) W (fun i v s Q E st q => go_name (l := l) s v _ Q E i st.1 q)
  have up : ∀ b o, s.heap.get? b = some o → (s.heap.push { cls := .type "list_iterator", data := .fields #[.ref l, .int 0 0] }).get? b = some o := fun b o e => Heap.get?_push_of_some _ e
  have hst : (s.heap.push { cls := .type "list_iterator", data := .fields #[.ref l, .int 0 0] }).IsListIter s.heap.objs.size l 0 ∧ (s.heap.push { cls := .type "list_iterator", data := .fields #[.ref l, .int 0 0] }).IsList l vs.toArray := ⟨⟨_, Heap.get?_push_size _ rfl, rfl, rfl⟩, hls.at fun o e => up _ o e⟩
  have hfp : ∀ b ∈ [s.heap.objs.size, l], b < (s.heap.push { cls := .type "list_iterator", data := .fields #[.ref l, .int 0 0] }).objs.size := fun b hb => by
    rw [Heap.size_push]
    rcases List.mem_cons.mp hb with rfl | hb
    · exact Nat.lt_succ_self _
    · rw [List.mem_singleton.mp hb]; exact Nat.lt_succ_of_lt hlt
  have N0 : News h₀ env.locals (s.heap.push { cls := .type "list_iterator", data := .fields #[.ref l, .int 0 0] }) news := fun p hp => ⟨up _ _ (N p hp).1, (N p hp).2⟩
  refine wpAny_pyIter_list hls (comp_begin (s := { s with heap := s.heap.push { cls := .type "list_iterator", data := .fields #[.ref l, .int 0 0] } }) (RR := fun acc C => compPost (model prog w) A E (some (assign (.Name y py) env)) (fun _ s' => Q .next s') acc C) hcell hkind (F.push _) N0
    (fun h₁ tk Q' E' k hq => W.self 0 _ Q' E' (W.frame 0 _ _ hst fun b _ o e => k b o e) hq) fun D C h₁ oC tk hCD hlt2 k hC F₁ N₁ => ?_)
  have hfC : ∀ b ∈ [s.heap.objs.size, l], (@Ne Nat b C) ∧ (@Ne Nat b D) := fun b hb => hlt2 b (hfp b hb)
  refine comp_turns (s := { s with heap := h₁, toks := tk }) (Bd := fun i m' => ∃ v, vs[i]? = some v ∧ m' x = some v) W2 hz (fun hm => ?_) (fun b hb => List.mem_singleton.mp hb ▸ next_is_new F) (fun p hp hI => absurd (Heap.lt_size (N p hp).1) ((List.mem_singleton.mp hI) ▸ Nat.lt_irrefl _)) (W.frame 0 _ _ hst fun b _ o e => k b o e) F₁ hC hCD hfC (fun p hp => hlt2 _ (Heap.lt_size (N0 p hp).1)) N₁ J h0
    (fun i v h hi hP => (asg_name hx hkind).mono fun m' hm => ⟨v, by simpa using hP, hm⟩) ?_ ?_
  · rcases List.mem_cons.mp hm with e | hm
    · exact absurd F.ns.lt (e ▸ Nat.lt_irrefl _)
    · exact hL (List.mem_singleton.mp hm)
  · rintro i oC2 m₂ ys nn h tk' own E' hi ⟨h2, st, hk⟩ hJ hNs ⟨v, hv, hm⟩ hoff _ F' N'
    obtain ⟨o, e, _⟩ := st.1
    exact wpAny_tests_nil (step _ C D i v oC2 m₂ ys nn h tk' own E' hCD hv hJ hNs hm hoff ⟨o, hk _ (.head _) (next_is_new F) o e⟩ F' N')
  · intro h' tk' ys nn oC' F' N' off' hC' hJ
    have zC := N' (C, oC') (.head _)
    obtain ⟨m₂, hm₂⟩ := hC'
    refine wpAny_assign_Name (wpAny_storeName_local hy F'.ns (fun h'' hn hs => ?_) hp)
    have F2 := F'.set hn hs
    have N2 := N'.set hs
    have zC2 := N2 (C, oC') (.head _)
    refine ⟨m₂, hm₂.ns zC2.1, fun h3 hs3 => fin h3 _ D ys nn (F2.change hs3 zC2.2.1 zC2.2.2) (fun p hp => ?_) (fun p hp => (off' p hp).2.2) hJ⟩
    have z := N2 p (.tail _ hp)
    refine ⟨hs3.extBut _ _ ?_ z.1, z.2⟩
    rcases List.mem_cons.mp hp with rfl | hp
    · exact Ne.symm hCD
    · exact (off' p hp).2.1
end
/-- a list of pairs as it lies -/
inductive ListAt (G : Addr → Obj → Prop) (v : Value) (l : List (Nat × Str)) : Prop
  | mk (D : Addr) (n : Nat) (vs : List Value) (e : v = .ref D) (g : G D (listOf vs.toArray n)) (hT : All2 (PairAt G) vs l) (hz : vs.length ≤ 520) : ListAt G v l
theorem ListAt.mono {G G' : Addr → Obj → Prop} {v : Value} {l : List (Nat × Str)} (h : ListAt G v l) (k : ∀ a o, G a o → G' a o) : ListAt G' v l := by
  obtain ⟨D, n, vs, e, g, hT, hz⟩ := h
  exact ⟨D, n, vs, e, k _ _ g, hT.mono fun _ _ x => x.mono k, hz⟩
/-- lists of pairs, being made -/
inductive JL (FR : Led) (ls : List (List (Nat × Str))) (i : Nat) (ys : List Value) : Led → Prop
  | mk (Z : Led) (off : OffFr FR Z) (hT : All2 (ListAt (InL Z)) ys (ls.take i)) : JL FR ls i ys (Z ++ FR)
theorem jl_start {FR : Led} {ls : List (List (Nat × Str))} : JL FR ls 0 [] FR := .mk [] (fun _ _ _ h => nomatch h) .nil
theorem jl_close {g h' : Heap} {L C D I Dp : Addr} {m m₂ : Str → Option Value} {FR own Z X front : Led} {oC oI : Obj} {ys vs : List Value} {n i : Nat} {ls : List (List (Nat × Str))} {l : List (Nat × Str)} {s : Shared} {tk : Nat} (F : Fr g L h' m) (N : News g L h' (front ++ ((Dp, listOf vs.toArray n) :: X))) (offN : OffFr front ((Dp, listOf vs.toArray n) :: X))
    (k1 : (C, oC) ∈ front) (k2 : (D, LCg.lst ys) ∈ front) (k3 : ∀ p ∈ own ++ (Z ++ FR), p ∈ front)
    (hC : LCg.NsObj oC m₂) (off : ∀ p ∈ Z ++ FR, p.1 ∉ [I] ∧ p.1 ≠ C ∧ p.1 ≠ D) (hI : (I, oI) ∈ own) (offZ : OffFr FR Z) (hT : All2 (ListAt (InL Z)) ys (ls.take i)) (hx : ls[i]? = some l) (hl : All2 (PairAt (InL X)) vs l) (hz : vs.length ≤ 520) :
    GEnd g L m [I] own C D ys (JL FR ls (i + 1) (ys ++ [.ref Dp])) s { s with heap := h', toks := tk } := by
  refine ⟨h', tk, oC, (((Dp, listOf vs.toArray n) :: X) ++ Z) ++ FR, rfl, F, ⟨m₂, hC⟩, fun p hp => ?_, fun p hp => ?_, .mk (((Dp, listOf vs.toArray n) :: X) ++ Z) (fun q hq p hp => ?_) ?_⟩
  · rcases List.mem_append.mp hp with hp | hp
    · exact N p (List.mem_append_left _ (k3 p (List.mem_append_left _ hp)))
    rcases List.mem_cons.mp hp with rfl | hp
    · exact N _ (List.mem_append_left _ k1)
    rcases List.mem_cons.mp hp with rfl | hp
    · exact N _ (List.mem_append_left _ k2)
    rcases List.mem_append.mp hp with hp | hp
    · rcases List.mem_append.mp hp with hp | hp
      · exact N p (List.mem_append_right _ hp)
      · exact N p (List.mem_append_left _ (k3 p (List.mem_append_right _ (List.mem_append_left _ hp))))
    · exact N p (List.mem_append_left _ (k3 p (List.mem_append_right _ (List.mem_append_right _ hp))))
  · rw [List.append_assoc] at hp
    rcases List.mem_append.mp hp with hp | hp
    · exact ⟨fun h => offN (I, oI) (k3 _ (List.mem_append_left _ hI)) p hp (List.mem_singleton.mp h), offN _ k1 p hp, offN _ k2 p hp⟩
    · exact off p hp
  · rcases List.mem_append.mp hp with hp | hp
    · exact offN q (k3 q (List.mem_append_right _ (List.mem_append_right _ hq))) p hp
    · exact offZ q hq p hp
  · rw [List.take_add_one, hx]
    exact (hT.mono fun _ _ h => h.mono fun a o m => List.mem_append_right _ m).push ⟨Dp, n, vs, rfl, List.mem_append_left _ (.head _), hl.mono fun _ _ h => h.mono fun a o m => List.mem_append_left _ (.tail _ m), hz⟩
noncomputable abbrev pairsOf (T : Dt) (r : Rw) : List (Nat × Str) := rowPairs (look T.es r.name) r.atts
/-- the rows' pairs stand -/
inductive Law12 (w : World) (h₀ : Heap) (L : Addr) : (Str → Option Value) → Led → Prop
  | mk (a K R Tb P : Addr) (u u2 : Str → Option Value) (T : Dt) (n : Nat) (H : TH) (pt : List PN) (rvs pvs : List Value) (rows es : List Rw) (Z : Led) (kv : List (Str × Value)) (tk : Tok) (scr : Value) (c1 c2 c3 c4 c5 oT : Obj) (pl : Plain T pt rows es) (hT : T.Ok w) (hZ : ∀ h : Heap, (∀ p ∈ Z, h.get? p.1 = some p.2) → Done w H K T pt rvs (rows ++ es) h)
    (hoT : oT.IsDictOf (strKind PR w) kv) (hkv : TabIs kv (tabOf ((rows ++ es).map (rowId (look T.es))))) (lo : (Tb == sysModules) = false) (hP : (P, LCg.lst pvs) ∈ Z) (hpv : All2 (ListAt (InL Z)) pvs ((rows ++ es).map (pairsOf T))) (off : OffFr ((Tb, oT) :: (R, listOf rvs.toArray n) :: cellsL L c1 c2 c3 c4 c5) Z) (ne : NeAll (Tb :: R :: keys (cellsL L c1 c2 c3 c4 c5)))
    (d1 : c1.data = .cell (some (.ref H.t))) (d2 : c2.data = .cell (some (.ref T.D))) (d3 : c3.data = .cell (some (.ref K))) (d4 : c4.data = .cell (some (.ref Tb))) (d5 : c5.data = .cell none) :
    Law12 w h₀ L (fun y => if y = Str.ofString "pairs" then some (.ref P) else if y = Str.ofString "row" then u (Str.ofString "row") else if y = Str.ofString "own_id" then u (Str.ofString "own_id") else if y = Str.ofString "turn" then u2 (Str.ofString "turn") else if y = Str.ofString "last" then u2 (Str.ofString "last") else if y = Str.ofString "rows" then some (.ref R) else if y = Str.ofString "root" then some (.int ((0 : Nat) : Int) tk) else if y = Str.ofString "source" then some (.ref a) else if y = Str.ofString "script" then some scr else none) ((Tb, oT) :: (R, listOf rvs.toArray n) :: (cellsL L c1 c2 c3 c4 c5 ++ Z))
section
theorem rows41 : True := by
  k_with_none
  k_with "ktr_enter" =>
    (refine enter_cells (by k_asm) (by k_asm) (by k_asm) (by k_asm) (by k_asm) (by exact rfl) (by exact rfl) (by assumption) (by k_is) (by k_is) (by ktr_room) (by exact BindsTo.of_eq rfl) (by exact rfl) (by decide +kernel) ?_ (by exact rfl) (by exact rfl) (by exact rfl); k_whole; intro g' L' h' tk' cells' FG' F' N' Y' B' X' T' l1 kG'; (try k_lt l1); k_cells Y'; (try dsimp only [List.cons_append, List.nil_append] at N'); (try dsimp only); (try k_fold))
  k_with "ktr_enter" =>
    (refine code_defG (by k_asm) (by k_asm) (by k_asm) (by k_asm) (by k_asm) (by exact rfl) (by exact rfl) (by assumption) (by k_is) (by k_is) (by ktr_room) (by exact BindsTo.of_eq rfl) (by exact locs rfl) ?_ (by exact rfl) (by exact rfl) (by exact rfl) (by decide); k_whole; intro g' L' h' FG' F' N' B' X' T' kG'; (try dsimp only); (try k_fold))
  k_with "k_ne" =>
    (refine neN ?_; (try dsimp only); with_reducible first | assumption | exact Ne.symm (by assumption) | exact Nat.ne_of_gt (by assumption) | exact Nat.ne_of_lt (by assumption) | exact Nat.ne_of_gt (Nat.lt_succ_of_lt (by assumption)) | exact Nat.ne_of_lt (Nat.lt_succ_of_lt (by assumption)))
  k_with "k_lt" =>
    (intro l1; replace l1 := allLt_of l1; (try dsimp only [AllLt] at l1); (repeat (with_reducible (have O8 := And.left l1; replace l1 := And.right l1))))
  k_with "my pick" =>
    (first | (refine Pick1.head ?_; k_extra "k_all") | exact Pick1.tail (by k_ne) (by k_extra "my pick"))
  k_with "my sub" =>
    (first | exact List.forall_mem_nil _ | (refine List.forall_mem_cons.mpr ⟨by k_mem, ?_⟩; k_extra "my sub"))
  k_with "k_room" =>
    ((try simp only [depth_under_make, depth_under_kw, depth_in1, depth_deeper, depth_caller]); (try dsimp only [ktrTop]); omega)
  k_with "my and" =>
    (first | assumption | exact And.intro (by k_ne) (by k_extra "my and") | k_ne)
  k_with "my conj" =>
    (intro l1; (repeat (with_reducible (have O8 := And.left l1; replace l1 := And.right l1))))
  k_with "my off" =>
    ((rename OffL _ _ => O9); (try dsimp only [OffL, Off1, keys, nodeLed, List.map] at O9); revert O9; k_extra "my conj2")
  k_with "CompRest" =>
    (with_unfolding_all first | (refine LCg.CompRest.succ ?_; intro v' I' oI' C' oC' D' m' h' tk' E' hv' hC' hx' F' N' off' ne'; (first | lcg_open hv' | (obtain ⟨t9', hv9'⟩ := hv'; subst hv9')); (try dsimp only [LCg.Off3] at off'); revert off'; k_extra "my conj2"; revert ne'; k_extra "my conj") | refine LCg.CompRest.zero ?_)
  k_with "FinE" =>
    ((unfold LCg.FinE); intro D' h' tk' F' N' o1'; (try dsimp only [LCg.Off1] at o1'); (try dsimp only [List.nil_append, List.cons_append] at N'); (try dsimp only); revert o1'; k_extra "my conj")
  k_with "FinA" =>
    ((unfold LCg.FinA); intro D' h' tk' F' N' o1'; (try dsimp only [LCg.Off1] at o1'); (try dsimp only [List.nil_append, List.cons_append] at N'); (try dsimp only); revert o1'; k_extra "my conj")
  k_with "k_all" =>
    (first | exact List.forall_mem_nil _ | exact Off1.all (by with_reducible assumption) | exact AllLt.ne (by with_reducible assumption) | exact List.forall_mem_cons.mpr ⟨by k_ne, by k_extra "k_all"⟩)
  k_with "my conj2" =>
    (intro l2; (repeat (with_reducible (have l1 := And.left l2; replace l2 := And.right l2; revert l1; k_extra "my conj"))))
  k_with "my same" =>
    (intro z9 hz9; first | rfl | (refine same_step hz9 (by k_mem) ?_; k_extra "my same2") | ((simp only [List.mem_cons, List.not_mem_nil, or_false, not_or] at hz9); first | rfl | (simp only [hz9, if_false, if_neg, over, not_false_eq_true]; done) | (simp [hz9, over]; done)))
  k_with "my same2" =>
    (first | rfl | (refine same_step (by assumption) (by k_mem) ?_; k_extra "my same2"))
  k_with "TurnPost" =>
    (dsimp only [TurnPost])
  k_with "my for" =>
    (k_here; (rename Fr _ _ _ _ => lF'); (with_unfolding_all refine For_turns lF' ?_ (hE := by first | passes_own | assumption); k_whole))
  k_with "execs cons" =>
    (refine wpAny_execs_cons ?_; (try k_fold))
  k_with "room" =>
    (first | exact room2 (by assumption) (by exact rfl) | exact room3 (by assumption) (by exact rfl) | exact room1 (by assumption) (by exact rfl) | exact room0 (by assumption) | exact room4 (by assumption) (by exact rfl))
  k_with "k_room" =>
    (k_extra "room")
  k_with "my in" =>
    (with_reducible first | assumption | (refine List.mem_append_left _ ?_; assumption) | (refine List.mem_append_right _ ?_; k_extra "my in") | (refine List.mem_cons_of_mem _ ?_; k_extra "my in"))
  k_with "my tail" =>
    (intro p9 hp9; k_extra "my in")
  k_with "my subs" =>
    (first | exact List.forall_mem_nil _ | k_extra "my tail" | (refine List.forall_mem_cons.mpr ⟨by k_mem, ?_⟩; k_extra "my subs"))
  k_with "k_all" =>
    (first | (with_reducible assumption) | exact OffFr.all (by with_reducible assumption) (by k_mem) | exact AllLt.ne (by with_reducible assumption))
  k_with "exec Assign cons ListComp" =>
    (k_here; k_dflt (refine comp_assign (by k_asm) (by with_unfolding_all rfl) (by exact rfl) (by exact rfl) (by decide) ?_))
  k_with "CompGoU" =>
    (refine halt ?_)
  k_with "call ref" =>
    (k_here; (with_reducible show wpAny _ _ (call (Value.ref 494) _) _ _ _); k_dflt (refine use_ctM (pairs_p w K _ (look T.es r9.name) r9 hb9 ha9) (by k_asm) (by k_asm) (by k_asm) (by k_asm) (by k_asm) (by exact rfl) (fun _ h => nomatch h) (fun _ h => h) (fun _ _ _ h => nomatch h) (by exact pre9 _ (news_all (by k_asm) (by k_extra "my tail"))) (by ktr_room) (by ktr_units) ?_); intro v9 fp9 h9 tk9 F9 N9 O9 R9; obtain ⟨Dp, np, vsp, Yp, e9, f9, hTp, hzp⟩ := R9; subst e9; subst f9; (try dsimp only); (try k_fold))
  k_with "execs cons" =>
    ((with_reducible show wpAny _ _ (execs _ (envX lawN _ _ _ _ _)) _ _ _); refine halt ?_)
  trivial
theorem law_1112 (w : World) (h : LawAt w 12 (Law12 w)) : LawAt w 11 (Law10 w) := by
  intro mean mg mb dp un gd ca ccd outer A₀ base h₀ L m nn s Q E B F X N Tt hdp hun hJ hret hpo
  obtain ⟨a, K, R, Tb, u, u2, T, n, H, pt, rvs, rows, es, Z, kv, tk, scr, c1, c2, c3, c4, c5, oT, pl, hT, hZ, hoT, hkv, lo, off, ne, d1, d2, d3, d4, d5⟩ := hJ
  have hlen := All2.length (hZ s.heap (news_all N (by k_extra "my tail"))).rws
  have hz : rvs.length ≤ 2 ^ 20 := by rw [hlen]; exact Nat.le_trans pl.len (by decide)
  dsimp only [cellsL, List.cons_append, List.nil_append] at N
  refine wpAny_execs_cons ?_
  try k_fold
  k_steps
  refine unhalt (comp_mapU (l := R) (vs := rvs) (JL _ ((rows ++ es).map (pairsOf T))) rfl (by decide) rfl rfl rfl rfl (News.isList N (.tail _ (.head _))) hz F N (N _ (.tail _ (.head _))).2.1.symm jl_start ?_ ?_)
  · intro I3 C D i v oC m₂ ys nn h3 tk3 own E' hCD hv hJ hC hm off3 hI3 F4 N4
    obtain ⟨Zn, offZ, hTn⟩ := hJ
    obtain ⟨oI3, hI3⟩ := hI3
    have dn := hZ h3 (news_all N4 fun p hp => List.mem_append_right _ (.tail _ (.tail _ (List.mem_append_right _ (.tail _ (.tail _ (List.mem_append_right (cellsL L c1 c2 c3 c4 c5) hp)))))))
    obtain ⟨r9, hr9, hrow9⟩ := All2.at dn.rws hv
    obtain ⟨t, rfl⟩ := row_ref hrow9
    obtain ⟨hn9, hb9, ha9⟩ := pl.fit (List.mem_of_getElem? hr9)
    have pre9 : ∀ h : Heap, (∀ p ∈ Z, h.get? p.1 = some p.2) → RowAt (fun a o => h.get? a = some o) (.ref t) r9 ∧ Kinds w h K (look T.es r9.name) r9.name := fun h hh => ⟨All2.at2 (hZ h hh).rws hv hr9, (hZ h hh).knd _ hn9⟩
    clear dn hrow9
    have N5 := news_sub (l' := (C, oC) :: (D, LCg.lst ys) :: (L + 3, c3) :: (own ++ (Zn ++ _))) N4 (List.forall_mem_cons.mpr ⟨List.mem_append_right _ (.head _), List.forall_mem_cons.mpr ⟨List.mem_append_right _ (.tail _ (.head _)), List.forall_mem_cons.mpr ⟨List.mem_append_right _ (.tail _ (.tail _ (List.mem_append_right _ (by k_mem)))), fun p hp => (List.mem_append.mp hp).elim (fun h => List.mem_append_left _ h) fun h => List.mem_append_right _ (.tail _ (.tail _ h))⟩⟩⟩)
    clear N4
    k_steps
    exact jl_close (by assumption) (by assumption) (by assumption) (by k_mem) (by k_mem) (by k_extra "my tail") hC off3 hI3 offZ hTn (by rw [List.getElem?_map, hr9]; rfl) hTp hzp
  · intro h3 tk3 D ys nn F4 N4 off3 hJ
    obtain ⟨Zn, offZ, hTn⟩ := hJ
    rw [hlen, ← List.length_map (f := pairsOf T), List.take_length] at hTn
    k_steps
    have N5 := news_sub (l' := (Tb, oT) :: (R, listOf rvs.toArray n) :: (cellsL L c1 c2 c3 c4 c5 ++ ((D, LCg.lst ys) :: (Zn ++ Z)))) N4 fun p hp => by
      rcases List.mem_append.mp (show p ∈ ((Tb, oT) :: (R, listOf rvs.toArray n) :: cellsL L c1 c2 c3 c4 c5) ++ ((D, LCg.lst ys) :: (Zn ++ Z)) from hp) with hp | hp
      · exact .tail _ (List.mem_append_right _ (List.mem_append_left Z hp))
      rcases List.mem_cons.mp hp with rfl | hp
      · exact .head _
      rcases List.mem_append.mp hp with hp | hp
      · exact .tail _ (List.mem_append_left _ hp)
      · exact .tail _ (List.mem_append_right _ (List.mem_append_right ((Tb, oT) :: (R, listOf rvs.toArray n) :: cellsL L c1 c2 c3 c4 c5) hp))
    have off5 : OffFr ((Tb, oT) :: (R, listOf rvs.toArray n) :: cellsL L c1 c2 c3 c4 c5) ((D, LCg.lst ys) :: (Zn ++ Z)) := fun q hq p hp => by
      rcases List.mem_cons.mp hp with rfl | hp
      · exact (off3 q (List.mem_append_right _ (List.mem_append_left Z hq))).symm
      rcases List.mem_append.mp hp with hp | hp
      · exact offZ q (List.mem_append_left Z hq) p hp
      · exact off q hq p hp
    exact unhalt (h _ _ _ _ _ _ _ _ _ _ _ _ _ _ _ _ _ _ B F4 X N5 Tt hdp hun (Law12.mk a K R Tb D u u2 T n H pt rvs ys rows es ((D, LCg.lst ys) :: (Zn ++ Z)) kv _ scr c1 c2 c3 c4 c5 oT pl hT (fun h hh => hZ h fun p hp => hh p (.tail _ (List.mem_append_right _ hp))) hoT hkv lo (.head _) (hTn.mono fun _ _ h => h.mono fun a o m => .tail _ (List.mem_append_left _ m)) off5 ne d1 d2 d3 d4 d5) hret hpo)
end

section
variable {prog : Program} {w : World} {A : Around} {E : Value → Shared → Prop} {s : Shared}
noncomputable abbrev InH (h : Heap) (a : Addr) (o : Obj) : Prop := h.get? a = some o
theorem all_true (n : Nat) : (List.range n).all (fun _ => true) = true := by simp
theorem all_eqAt {α : Type} {R R' : Value → α → Prop} {vs vs' : List Value} {xs : List α} (h : All2 R vs xs) (h' : All2 R' vs' xs) (step : ∀ v v' x, R v x → R' v' x → EqAt A s v v' true) (j : Nat) (h1 : j < vs.toArray.size) (h2 : j < vs'.toArray.size) : EqAt A s vs.toArray[j] vs'.toArray[j] true := by
  have g1 : vs[j]? = some vs.toArray[j] := by simp
  have g2 : vs'[j]? = some vs'.toArray[j] := by simp
  obtain ⟨x, hx, r⟩ := h.at g1
  exact step _ _ x r (h'.at2 g2 hx)
theorem sizes_same {α : Type} {R R' : Value → α → Prop} {vs vs' : List Value} {xs : List α} (h : All2 R vs xs) (h' : All2 R' vs' xs) : vs.toArray.size = vs'.toArray.size := by
  simp only [List.size_toArray]; exact h.length.trans h'.length.symm
theorem ne_lists {α : Type} {a b : Addr} {R R' : Value → α → Prop} {vs vs' : List Value} {xs : List α} {Q : Value → Shared → Prop} (hl : s.heap.IsList a vs.toArray) (hb : s.heap.IsList b vs'.toArray) (h : All2 R vs xs) (h' : All2 R' vs' xs) (step : ∀ v v' x, R v x → R' v' x → EqAt A.in1 s v v' true) (hu : A.units < cLine) (hQ : Q (.bool false) s) :
    wpAny (model prog w) A (compareOp .NotEq (.ref a) (.ref b)) Q E s := by
  have r := RcNeAt.lists (A := A) hl hb (sizes_same h h') hu (all_eqAt h h' step)
  rw [all_true] at r
  exact r prog w E Q hQ
theorem eq_lists {α : Type} {a b : Addr} {R R' : Value → α → Prop} {vs vs' : List Value} {xs : List α} (hl : s.heap.IsList a vs.toArray) (hb : s.heap.IsList b vs'.toArray) (h : All2 R vs xs) (h' : All2 R' vs' xs) (step : ∀ v v' x, R v x → R' v' x → EqAt A.in1 s v v' true) (hu : A.units < cLine) : EqAt A s (.ref a) (.ref b) true := by
  by_cases e : a = b
  · subst e; exact EqAt.same _
  have r := RcAt.lists (A := A) hl hb (sizes_same h h') hu (all_eqAt h h' step)
  rw [all_true] at r
  exact EqAt.of_refs e r
theorem pair_eq {v v' : Value} {p : Nat × Str} (hu : A.units < cLine) (h : PairAt (InH s.heap) v p) (h' : PairAt (InH s.heap) v' p) : EqAt A s v v' true := by
  obtain ⟨t, ta, tx, rfl, g⟩ := h
  obtain ⟨t', ta', tx', rfl, g'⟩ := h'
  by_cases e : t = t'
  · subst e; exact EqAt.same _
  have r := RcAt.tuples (A := A) (e := fun _ => true) ⟨_, g, rfl, ⟨_, rfl⟩⟩ ⟨_, g', rfl, ⟨_, rfl⟩⟩ hu fun j h1 h2 => by
    match j, h1 with
    | 0, _ => have r := EqAt.int_int (A := A.in1) (s := s) ((p.1 : Nat) : Int) ta ((p.1 : Nat) : Int) ta'; rw [beq_self_eq_true] at r; exact r
    | 1, _ => have r := EqAt.str_str (A := A.in1) (s := s) p.2 tx p.2 tx'; rw [beq_self_eq_true] at r; exact r
  exact EqAt.of_refs e r
theorem listAt_eq {v v' : Value} {l : List (Nat × Str)} (hu : A.units + 1 < cLine) (h : ListAt (InH s.heap) v l) (h' : ListAt (InH s.heap) v' l) : EqAt A s v v' true := by
  obtain ⟨D, n, vs, rfl, g, hT, _⟩ := h
  obtain ⟨D', n', vs', rfl, g', hT', _⟩ := h'
  exact eq_lists ⟨_, g, rfl, ⟨_, rfl⟩⟩ ⟨_, g', rfl, ⟨_, rfl⟩⟩ hT hT' (fun v v' x r r' => pair_eq hu r r') (Nat.lt_of_succ_lt hu)
end
section
theorem rows42 : True := by
  k_with_none
  k_with "ktr_enter" =>
    (refine enter_cells (by k_asm) (by k_asm) (by k_asm) (by k_asm) (by k_asm) (by exact rfl) (by exact rfl) (by assumption) (by k_is) (by k_is) (by ktr_room) (by exact BindsTo.of_eq rfl) (by exact rfl) (by decide +kernel) ?_ (by exact rfl) (by exact rfl) (by exact rfl); k_whole; intro g' L' h' tk' cells' FG' F' N' Y' B' X' T' l1 kG'; (try k_lt l1); k_cells Y'; (try dsimp only [List.cons_append, List.nil_append] at N'); (try dsimp only); (try k_fold))
  k_with "ktr_enter" =>
    (refine code_defG (by k_asm) (by k_asm) (by k_asm) (by k_asm) (by k_asm) (by exact rfl) (by exact rfl) (by assumption) (by k_is) (by k_is) (by ktr_room) (by exact BindsTo.of_eq rfl) (by exact locs rfl) ?_ (by exact rfl) (by exact rfl) (by exact rfl) (by decide); k_whole; intro g' L' h' FG' F' N' B' X' T' kG'; (try dsimp only); (try k_fold))
  k_with "k_ne" =>
    (refine neN ?_; (try dsimp only); with_reducible first | assumption | exact Ne.symm (by assumption) | exact Nat.ne_of_gt (by assumption) | exact Nat.ne_of_lt (by assumption) | exact Nat.ne_of_gt (Nat.lt_succ_of_lt (by assumption)) | exact Nat.ne_of_lt (Nat.lt_succ_of_lt (by assumption)))
  k_with "k_lt" =>
    (intro l1; replace l1 := allLt_of l1; (try dsimp only [AllLt] at l1); (repeat (with_reducible (have O8 := And.left l1; replace l1 := And.right l1))))
  k_with "my pick" =>
    (first | (refine Pick1.head ?_; k_extra "k_all") | exact Pick1.tail (by k_ne) (by k_extra "my pick"))
  k_with "my sub" =>
    (first | exact List.forall_mem_nil _ | (refine List.forall_mem_cons.mpr ⟨by k_mem, ?_⟩; k_extra "my sub"))
  k_with "k_room" =>
    ((try simp only [depth_under_make, depth_under_kw, depth_in1, depth_deeper, depth_caller]); (try dsimp only [ktrTop]); omega)
  k_with "my and" =>
    (first | assumption | exact And.intro (by k_ne) (by k_extra "my and") | k_ne)
  k_with "my conj" =>
    (intro l1; (repeat (with_reducible (have O8 := And.left l1; replace l1 := And.right l1))))
  k_with "my off" =>
    ((rename OffL _ _ => O9); (try dsimp only [OffL, Off1, keys, nodeLed, List.map] at O9); revert O9; k_extra "my conj2")
  k_with "CompRest" =>
    (with_unfolding_all first | (refine LCg.CompRest.succ ?_; intro v' I' oI' C' oC' D' m' h' tk' E' hv' hC' hx' F' N' off' ne'; (first | lcg_open hv' | (obtain ⟨t9', hv9'⟩ := hv'; subst hv9')); (try dsimp only [LCg.Off3] at off'); revert off'; k_extra "my conj2"; revert ne'; k_extra "my conj") | refine LCg.CompRest.zero ?_)
  k_with "FinE" =>
    ((unfold LCg.FinE); intro D' h' tk' F' N' o1'; (try dsimp only [LCg.Off1] at o1'); (try dsimp only [List.nil_append, List.cons_append] at N'); (try dsimp only); revert o1'; k_extra "my conj")
  k_with "FinA" =>
    ((unfold LCg.FinA); intro D' h' tk' F' N' o1'; (try dsimp only [LCg.Off1] at o1'); (try dsimp only [List.nil_append, List.cons_append] at N'); (try dsimp only); revert o1'; k_extra "my conj")
  k_with "k_all" =>
    (first | exact List.forall_mem_nil _ | exact Off1.all (by with_reducible assumption) | exact AllLt.ne (by with_reducible assumption) | exact List.forall_mem_cons.mpr ⟨by k_ne, by k_extra "k_all"⟩)
  k_with "my conj2" =>
    (intro l2; (repeat (with_reducible (have l1 := And.left l2; replace l2 := And.right l2; revert l1; k_extra "my conj"))))
  k_with "my same" =>
    (intro z9 hz9; first | rfl | (refine same_step hz9 (by k_mem) ?_; k_extra "my same2") | ((simp only [List.mem_cons, List.not_mem_nil, or_false, not_or] at hz9); first | rfl | (simp only [hz9, if_false, if_neg, over, not_false_eq_true]; done) | (simp [hz9, over]; done)))
  k_with "my same2" =>
    (first | rfl | (refine same_step (by assumption) (by k_mem) ?_; k_extra "my same2"))
  k_with "TurnPost" =>
    (dsimp only [TurnPost])
  k_with "my for" =>
    (k_here; (rename Fr _ _ _ _ => lF'); (with_unfolding_all refine For_turns lF' ?_ (hE := by first | passes_own | assumption); k_whole))
  k_with "execs cons" =>
    (refine wpAny_execs_cons ?_; (try k_fold))
  k_with "room" =>
    (first | exact room2 (by assumption) (by exact rfl) | exact room3 (by assumption) (by exact rfl) | exact room1 (by assumption) (by exact rfl) | exact room0 (by assumption) | exact room4 (by assumption) (by exact rfl))
  k_with "k_room" =>
    (k_extra "room")
  k_with "my in" =>
    (with_reducible first | assumption | (refine List.mem_append_left _ ?_; assumption) | (refine List.mem_append_right _ ?_; k_extra "my in") | (refine List.mem_cons_of_mem _ ?_; k_extra "my in"))
  k_with "my tail" =>
    (intro p9 hp9; k_extra "my in")
  k_with "my subs" =>
    (first | exact List.forall_mem_nil _ | k_extra "my tail" | (refine List.forall_mem_cons.mpr ⟨by k_mem, ?_⟩; k_extra "my subs"))
  k_with "k_all" =>
    (first | (with_reducible assumption) | exact OffFr.all (by with_reducible assumption) (by k_mem) | exact AllLt.ne (by with_reducible assumption))
  k_with "execs cons" =>
    ((with_reducible show wpAny _ _ (execs _ (envX lawN _ _ _ _ _)) _ _ _); refine halt ?_)
  k_with "eval ListComp" =>
    (k_here; k_dflt (refine comp_eval (by k_asm) (by exact rfl) (by exact rfl) (by decide) ?_))
  k_with "CompGo" =>
    (refine halt ?_)
  k_with "subscriptTail Name Constant ref int" =>
    (k_here; k_dflt ((obtain ⟨ti9, tn9, hl9, it9⟩ := row_tup (pre9 _ (news_all (by k_asm) (by k_extra "my tail"))).1); refine item_tupleT (j := 0) it9 (by decide) (by decide) rfl rfl ?_))
  k_with "call ref" =>
    (k_here; (with_reducible show wpAny _ _ (call (Value.ref 63) _) _ _ _); k_dflt (refine use_ctM (references_p w H pt T r9.node q9 _ hT hq9 hz4 hks9 hat9) (by k_asm) (by k_asm) (by k_asm) (by k_asm) (by k_asm) (by exact rfl) (fun _ h => nomatch h) (fun _ h => h) (fun _ _ _ h => nomatch h) (by exact (pre9 _ (news_all (by k_asm) (by k_extra "my tail"))).2) (by ktr_room) (by ktr_units) ?_); intro v9 fp9 h9 tk9 F9 N9 O9 R9; obtain ⟨Dp, np, vsp, Yp, e9, f9, hTp, hzp⟩ := R9; subst e9; subst f9; (try dsimp only); (try k_fold))
  k_with "compareOp NotEq ref ref" =>
    (refine halt ?_)
  trivial
theorem law_1213 (w : World) (h : LawAt w 13 (Law12 w)) : LawAt w 12 (Law12 w) := by
  intro mean mg mb dp un gd ca ccd outer A₀ base h₀ L m nn s Q E B F X N Tt hdp hun hJ hret hpo
  obtain ⟨a, K, R, Tb, P, u, u2, T, n, H, pt, rvs, pvs, rows, es, Z, kv, tk, scr, c1, c2, c3, c4, c5, oT, pl, hT, hZ, hoT, hkv, lo, hP, hpv, off, ne, d1, d2, d3, d4, d5⟩ := hJ
  have hlen := All2.length (hZ s.heap (news_all N (by k_extra "my tail"))).rws
  have hz : rvs.length ≤ 2 ^ 20 := by rw [hlen]; exact Nat.le_trans pl.len (by decide)
  have hz4 : pt.length ≤ 40 := Nat.le_trans pl.l3 (by decide)
  have N0 := N
  dsimp only [cellsL, List.cons_append, List.nil_append] at N
  refine wpAny_execs_cons ?_
  try k_fold
  k_steps
  refine unhalt (comp_map (l := R) (vs := rvs) (JL _ ((rows ++ es).map (pairsOf T))) rfl (by decide) rfl rfl (News.isList N (.tail _ (.head _))) hz F N (N _ (.tail _ (.head _))).2.1.symm jl_start ?_ ?_)
  · intro I3 C D i v oC m₂ ys nn h3 tk3 own E' hCD hv hJ hC hm off3 hI3 F4 N4
    obtain ⟨Zn, offZ, hTn⟩ := hJ
    obtain ⟨oI3, hI3⟩ := hI3
    have dn := hZ h3 (news_all N4 fun p hp => List.mem_append_right _ (.tail _ (.tail _ (List.mem_append_right _ (.tail _ (.tail _ (List.mem_append_right (cellsL L c1 c2 c3 c4 c5) hp)))))))
    obtain ⟨r9, hr9, hrow9⟩ := All2.at dn.rws hv
    obtain ⟨t, rfl⟩ := row_ref hrow9
    have hm9 := List.mem_of_getElem? hr9
    obtain ⟨q9, hq9, hat9, hks9⟩ := pl.outok r9.node (List.mem_map.mpr ⟨r9, hm9, rfl⟩)
    have hrf : refsOf pt (look T.es) q9 = pairsOf T r9 := by
      have e := refs_row (dk := look T.es) (pl.gr.row r9 hm9)
      unfold refsAt at e
      rw [hq9] at e
      exact e
    have pre9 : ∀ h : Heap, (∀ p ∈ Z, h.get? p.1 = some p.2) → RowAt (fun a o => h.get? a = some o) (.ref t) r9 ∧ Sees w.params H pt h ∧ T.In h := fun h hh => ⟨All2.at2 (hZ h hh).rws hv hr9, (hZ h hh).sees, (hZ h hh).dt⟩
    clear dn hrow9
    have N5 := news_sub (l' := (C, oC) :: (D, LCg.lst ys) :: (L + 1, c1) :: (L + 2, c2) :: (own ++ (Zn ++ _))) N4 (List.forall_mem_cons.mpr ⟨List.mem_append_right _ (.head _), List.forall_mem_cons.mpr ⟨List.mem_append_right _ (.tail _ (.head _)), List.forall_mem_cons.mpr ⟨List.mem_append_right _ (.tail _ (.tail _ (List.mem_append_right _ (by k_mem)))), List.forall_mem_cons.mpr ⟨List.mem_append_right _ (.tail _ (.tail _ (List.mem_append_right _ (by k_mem)))), fun p hp => (List.mem_append.mp hp).elim (fun h => List.mem_append_left _ h) fun h => List.mem_append_right _ (.tail _ (.tail _ h))⟩⟩⟩⟩)
    clear N4
    k_steps
    rw [hrf] at hTp
    exact jl_close (by assumption) (by assumption) (by assumption) (by k_mem) (by k_mem) (by k_extra "my tail") hC off3 hI3 offZ hTn (by rw [List.getElem?_map, hr9]; rfl) hTp hzp
  · intro h3 tk3 D ys nn F4 N4 off3 hJ
    obtain ⟨Zn, offZ, hTn⟩ := hJ
    rw [hlen, ← List.length_map (f := pairsOf T), List.take_length] at hTn
    k_steps
    refine unhalt (ne_lists (News.isList N4 (.head _)) (News.isList N4 (.tail _ (List.mem_append_right _ (List.mem_append_right ((Tb, oT) :: (R, listOf rvs.toArray n) :: cellsL L c1 c2 c3 c4 c5) hP)))) (hTn.mono fun _ _ z => z.mono fun a o z => (N4 (a, o) (.tail _ (List.mem_append_left _ z))).1) (hpv.mono fun _ _ z => z.mono fun a o z => (N4 (a, o) (.tail _ (List.mem_append_right _ (List.mem_append_right ((Tb, oT) :: (R, listOf rvs.toArray n) :: cellsL L c1 c2 c3 c4 c5) z)))).1) (fun v v' x r r' => listAt_eq (by ktr_units) r r') (by ktr_units) ?_)
    k_steps
    exact unhalt (h _ _ _ _ _ _ _ _ _ _ _ _ _ _ _ _ _ _ B F4 X (news_sub N4 fun p hp => .tail _ (List.mem_append_right _ hp)) Tt hdp hun (Law12.mk a K R Tb P u u2 T n H pt rvs pvs rows es Z kv _ scr c1 c2 c3 c4 c5 oT pl hT hZ hoT hkv lo hP hpv off ne d1 d2 d3 d4 d5) hret hpo)
end

section
variable {prog : Program} {w : World} {A : Around} {E : Value → Shared → Prop} {s : Shared} {h₀ : Heap} {L : Addr} {m : Str → Option Value} {target : Expr} {env : Env}
open LCg in
/-- the turns of a clause of a comprehension, the last one, by an invariant -/
theorem comp_turnsG {elt : Expr} {gens : List Comprehension} {d c : Nat} {pos : Pos} {ys0 : List Value} {ifs : List Expr} {scope : Scope} {cl : List (Str × Addr)} {cp : Pos} {I : Addr} {fp wr : List Addr} {n : Nat} {P Md : Nat → Value → Heap → Prop} {St : Nat → Heap → Prop} {news : Led} {C D : Addr} {oC : Obj} {R : Result → Shared → Prop} {Bd : Nat → (Str → Option Value) → Prop}
    (hturn : compTurn (.ListComp elt gens scope cp) d (.ref I) (.ref D) (compEnvC scope cl C env) = turnC pos target ifs (.ref I) (compEnvC scope cl C env) (do let _ ← call (.builtin "list.append") [.ref D, ← eval elt (compEnvC scope cl C env)]) (.compLoop (.ListComp elt gens scope cp) d (.ref I) (.ref D) (compEnvC scope cl C env)))
    (W : KTurns prog w A target I fp wr n P Md St) (hc0 : ys0.length ≤ c) (hn : c + n ≤ 2 ^ 20) (hLf : L ∉ fp) (hwr : ∀ b ∈ wr, h₀.get? b = none) (hnw : ∀ p ∈ news, p.1 ∉ wr) (hst : St 0 s.heap) (F : Fr h₀ L s.heap m)
    (hC : ∃ m₂, NsObj oC m₂) (hCD : (@Ne Nat C D)) (hfC : ∀ b ∈ fp, (@Ne Nat b C) ∧ (@Ne Nat b D)) (hnC : ∀ p ∈ news, (@Ne Nat p.1 C) ∧ (@Ne Nat p.1 D)) (N : News h₀ L s.heap ((C, oC) :: (D, lst ys0) :: news))
    (J : Nat → List Value → Led → Prop) (h0 : J 0 ys0 news)
    (hasg : ∀ i v h, i < n → P i v h → AsgOk prog w A target (compEnvC scope cl C env) C v h (Bd i))
    (step : ∀ i oC m₂ ys nn h tk own (E' : Value → Shared → Prop), i < n → (∃ h₁, St (i + 1) h₁ ∧ ∀ b ∈ fp, h₀.get? b = none → ∀ o, h₁.get? b = some o → (b, o) ∈ own) → J i ys nn → NsObj oC m₂ → Bd i m₂ → (∀ p ∈ nn, p.1 ∉ wr ∧ p.1 ≠ C ∧ p.1 ≠ D) → (∀ p ∈ own, p.1 ∈ fp) → Fr h₀ L h m → News h₀ L h (own ++ (C, oC) :: (D, lst ys) :: nn) →
      wpAny (model prog w) A (testsC ifs (compEnvC scope cl C env)) (fun ok s₃ => if ok = true then wpAny (model prog w) A (eval elt (compEnvC scope cl C env)) (fun y s₄ => GEnd h₀ L m wr own C D ys (J (i + 1) (ys ++ [y])) { s with heap := h, toks := tk } s₄) E' s₃
        else GEnd h₀ L m wr own C D ys (J (i + 1) ys) { s with heap := h, toks := tk } s₃) E' { s with heap := h, toks := tk })
    (hR : ∀ h' tk ys nn oC, Fr h₀ L h' m → News h₀ L h' ((C, oC) :: (D, lst ys) :: nn) → (∀ p ∈ nn, p.1 ∉ wr ∧ p.1 ≠ C ∧ p.1 ≠ D) → (∃ m₂, NsObj oC m₂) → J n ys nn → R (.ok .next) { s with heap := h', toks := tk }) :
    codeAny (model prog w) A (.compLoop (.ListComp elt gens scope cp) d (.ref I) (.ref D) (compEnvC scope cl C env)) R s := by
  have hwC : ∀ b ∈ wr, b ≠ C ∧ b ≠ D := fun b hb => hfC b (W.sub b hb)
  refine comp_core (n := n) (after := (do let _ ← call (.builtin "list.append") [.ref D, ← eval elt (compEnvC scope cl C env)])) hturn W hLf hwr ?_ hst F N
    (fun i n0 => ∃ oC m₂ ys nn, n0 = (C, oC) :: (D, lst ys) :: nn ∧ NsObj oC m₂ ∧ (∀ p ∈ nn, p.1 ∉ wr ∧ p.1 ≠ C ∧ p.1 ≠ D) ∧ ys.length ≤ c + i ∧ J i ys nn) ?_ ?_ ?_
  · intro p hp hw
    rcases List.mem_cons.mp hp with rfl | hp
    · exact (hwC _ hw).1 rfl
    rcases List.mem_cons.mp hp with rfl | hp
    · exact (hwC _ hw).2 rfl
    · exact hnw p hp hw
  · obtain ⟨m₂, h2⟩ := hC
    exact ⟨oC, m₂, ys0, news, rfl, h2, fun p hp => ⟨hnw p hp, hnC p hp⟩, hc0, h0⟩
  · rintro i v n0 h tk own E' hi hP hSt ⟨oC, m₂, ys, nn, rfl, hNs, hoff, hlen, hJ⟩ _ hownf hown F₁ N₁
    have offown : ∀ p ∈ own, p.1 ≠ C ∧ p.1 ≠ D := fun p hp => hfC _ (hownf p hp)
    have eC := (N₁ (C, oC) (List.mem_append_right _ (.head _)))
    have eD := (N₁ (D, lst ys) (List.mem_append_right _ (.tail _ (.head _))))
    refine hasg i v h hi hP _ m₂ _ _ rfl (hNs.ns eC.1) fun h' tk' m' hn' hB hk => ?_
    obtain ⟨oC', heC', hoC'⟩ := ns_obj hn'
    have F₂ : Fr h₀ L h' m := ⟨F₁.ns.at' fun o e => hk _ o (Ne.symm eC.2.1) e, fun b o e => hk b o (fun q => by rw [q, eC.2.2] at e; cases e) (F₁.keep b o e), F₁.above⟩
    have N₂ : News h₀ L h' (own ++ (C, oC') :: (D, lst ys) :: nn) := fun p hp => by
      rcases List.mem_append.mp hp with hp | hp
      · have := N₁ p (List.mem_append_left _ hp)
        exact ⟨hk _ _ (offown p hp).1 this.1, this.2⟩
      rcases List.mem_cons.mp hp with rfl | hp
      · exact ⟨heC', eC.2⟩
      · have := N₁ p (List.mem_append_right _ (.tail _ hp))
        refine ⟨hk _ _ ?_ this.1, this.2⟩
        rcases List.mem_cons.mp hp with rfl | hp
        · exact Ne.symm hCD
        · exact (hoff p hp).2.1
    refine wpAny_mono (step i oC' m' ys nn h' tk' own E' hi ⟨h, hSt, hown⟩ hJ hoC' hB hoff hownf F₂ N₂) (fun ok s₃ h₃ => ?_) fun _ _ e => e
    have close : ∀ (ys' : List Value) (s₄ : Shared), ys'.length ≤ c + (i + 1) → (∃ h' tk oC nn, s₄ = { s with heap := h', toks := tk } ∧ Fr h₀ L h' m ∧ (∃ m₂, NsObj oC m₂) ∧ News h₀ L h' (own ++ (C, oC) :: (D, lst ys') :: nn) ∧ (∀ p ∈ nn, p.1 ∉ wr ∧ p.1 ≠ C ∧ p.1 ≠ D) ∧ J (i + 1) ys' nn) →
        LEnd h₀ L m wr own (fun n0 => ∃ oC m₂ ys nn, n0 = (C, oC) :: (D, lst ys) :: nn ∧ NsObj oC m₂ ∧ (∀ p ∈ nn, p.1 ∉ wr ∧ p.1 ≠ C ∧ p.1 ≠ D) ∧ ys.length ≤ c + (i + 1) ∧ J (i + 1) ys nn) { s with heap := h, toks := tk } s₄ := by
      rintro ys' s₄ hl ⟨h₄, tk₄, oC₄, nn₄, rfl, F₄, ⟨m₄, hm₄⟩, N₄, off₄, hJ₄⟩
      refine ⟨h₄, tk₄, _, rfl, F₄, N₄, fun p hp hw => ?_, oC₄, m₄, ys', nn₄, rfl, hm₄, off₄, hl, hJ₄⟩
      rcases List.mem_cons.mp hp with rfl | hp
      · exact (hwC _ hw).1 rfl
      rcases List.mem_cons.mp hp with rfl | hp
      · exact (hwC _ hw).2 rfl
      · exact (off₄ p hp).1 hw
    cases ok with
    | false =>
      obtain ⟨h₄, tk₄, oC₄, nn₄, rfl, r⟩ := h₃
      exact close ys _ (Nat.le_succ_of_le hlen) ⟨h₄, tk₄, oC₄, nn₄, rfl, r⟩
    | true =>
      refine wpAny_bind (wpAny_mono h₃ (fun y s₄ h₄ => ?_) fun _ _ e => e)
      obtain ⟨h₄, tk₄, oC₄, nn₄, rfl, F₄, hm₄, N₄, off₄, hJ₄⟩ := h₄
      have zD := (N₄ (D, lst ys) (List.mem_append_right _ (.tail _ (.head _))))
      refine wpAny_bind (append_at (hsz := by rw [List.size_toArray, sizeLine_eq]; omega) zD.1 fun h₅ hs₅ hD₅ => wpAny_pure ?_)
      refine close (ys ++ [y]) _ (by simp; omega) ⟨h₅, tk₄, oC₄, nn₄, rfl, F₄.change hs₅ zD.2.1 zD.2.2, hm₄, fun p hp => ?_, off₄, hJ₄⟩
      rcases List.mem_append.mp hp with hp | hp
      · have := N₄ p (List.mem_append_left _ hp)
        exact ⟨hs₅.extBut _ _ (offown p hp).2 this.1, this.2⟩
      rcases List.mem_cons.mp hp with rfl | hp
      · have := N₄ (C, oC₄) (List.mem_append_right _ (.head _))
        exact ⟨hs₅.extBut _ _ hCD this.1, this.2⟩
      rcases List.mem_cons.mp hp with rfl | hp
      · exact ⟨hD₅.trans (congrArg some (lst_snoc ys y)), zD.2⟩
      · have := N₄ p (List.mem_append_right _ (.tail _ (.tail _ hp)))
        exact ⟨hs₅.extBut _ _ (off₄ p hp).2.2 this.1, this.2⟩
  · rintro h' tk n0 F₁ N₁ _ ⟨oC, m₂, ys, nn, rfl, hNs, hoff, _, hJ⟩
    exact hR h' tk ys nn oC F₁ N₁ hoff ⟨m₂, hNs⟩ hJ
theorem codeAny_compStart_1 {g0 : Comprehension} {elt iter : Expr} {ifs : List Expr} {rest : List Comprehension} {scope : Scope} {pos : Pos} {it acc : Value} {env : Env} {R : Result → Shared → Prop}
    (h0 : codeAny (model prog w) A (.compLoop (.ListComp elt (g0 :: ⟨target, iter, ifs, 0⟩ :: rest) scope pos) 1 it acc env) R s)
    (h : wpAny (model prog w) A (pyIter it) (fun it' s' => codeAny (model prog w) A (.compLoop (.ListComp elt (g0 :: ⟨target, iter, ifs, 0⟩ :: rest) scope pos) 1 it' acc env) R s')
      (notedBy (model prog w) A env fun x s' => R (.error x) s') s) :
    codeAny (model prog w) A (.compStart (.ListComp elt (g0 :: ⟨target, iter, ifs, 0⟩ :: rest) scope pos) 1 it acc env) R s := by
  refine codeAny_of_tree ?_
  show wpAny _ _ ((compStart (.ListComp elt (g0 :: ⟨target, iter, ifs, 0⟩ :: rest) scope pos) 1 it acc env).onRaise (fun x => do noteFrame x env; standAt theWindowsPlace)) _ _ s
  refine wpAny_notedAt ?_
  unfold compStart
  show wpAny _ _ (ask >>= _) _ _ s
  refine wpAny_bind (wpAny_askSetting (wpAny_ite ?_))
  split
  · first
      | exact wpAny_bind (wpAny_pure (wpAny_pure (And.intro rfl h0)))
      | exact wpAny_pure (And.intro rfl h0)
  · first
      | exact wpAny_bind (wpAny_rule (wpAny_bind (wpAny_standAt (wpAny_bind (wpAny_mono h (fun it' s' h' => wpAny_pure (And.intro rfl h')) fun _ _ x => x)))))
      | (refine wpAny_bind (wpAny_rule ?_); show wpAny _ _ (standAt iter.pos >>= _) _ _ s; exact wpAny_bind (wpAny_standAt (wpAny_bind (wpAny_mono h (fun it' s' h' => wpAny_pure (And.intro rfl h')) fun _ _ x => x))))
/-- what a clause does of which another follows -/
noncomputable abbrev afterC (e : Expr) (iter : Expr) (acc : Value) (env : Env) : Sem Unit := do
  let x ← eval iter env
  standAt iter.pos
  let x ← foldedSetIterable iter env x
  let _ ← runOwn (.compStart e 1 (← holding [x] (pyIter x)) acc env) env
theorem turn_0 {elt iter iter1 target1 : Expr} {ifs : List Expr} {scope : Scope} {cp : Pos} {it acc : Value} {env : Env} :
    compTurn (.ListComp elt [⟨target, iter, [], 0⟩, ⟨target1, iter1, ifs, 0⟩] scope cp) 0 it acc env = turnC iter.pos target [] it env (afterC (.ListComp elt [⟨target, iter, [], 0⟩, ⟨target1, iter1, ifs, 0⟩] scope cp) iter1 acc env) (.compLoop (.ListComp elt [⟨target, iter, [], 0⟩, ⟨target1, iter1, ifs, 0⟩] scope cp) 0 it acc env) := by
  unfold turnC afterC
  simp only [bind_assoc, pure_bind]
  rfl
theorem turn_1 {elt iter iter1 target1 test : Expr} {scope : Scope} {cp : Pos} {it acc : Value} {env : Env} :
    compTurn (.ListComp elt [⟨target, iter, [], 0⟩, ⟨target1, iter1, [test], 0⟩] scope cp) 1 it acc env = turnC iter1.pos target1 [test] it env (do let _ ← call (.builtin "list.append") [acc, ← eval elt env]) (.compLoop (.ListComp elt [⟨target, iter, [], 0⟩, ⟨target1, iter1, [test], 0⟩] scope cp) 1 it acc env) := by rfl
end

section
variable {prog : Program} {w : World} {A : Around} {E : Value → Shared → Prop} {s : Shared} {h₀ : Heap} {L : Addr} {m : Str → Option Value} {env : Env}
theorem compStart_self {target : Expr} {g0 : Comprehension} {elt iter : Expr} {ifs : List Expr} {rest : List Comprehension} {scope : Scope} {pos : Pos} {it acc : Value} {env : Env} {R : Result → Shared → Prop}
    (h0 : codeAny (model prog w) A (.compLoop (.ListComp elt (g0 :: ⟨target, iter, ifs, 0⟩ :: rest) scope pos) 1 it acc env) R s)
    (h : ∀ (Q : Value → Shared → Prop) (E' : Value → Shared → Prop), Q it s → wpAny (model prog w) A (pyIter it) Q E' s) :
    codeAny (model prog w) A (.compStart (.ListComp elt (g0 :: ⟨target, iter, ifs, 0⟩ :: rest) scope pos) 1 it acc env) R s := codeAny_compStart_1 h0 (h _ _ h0)
theorem mem_rearr {a b c : Led} {x y p : Addr × Obj} : p ∈ (a ++ b) ++ x :: y :: c ↔ p ∈ a ++ x :: y :: (b ++ c) := by
  simp only [List.mem_append, List.mem_cons]
  constructor
  · rintro ((h | h) | h | h | h)
    · exact .inl h
    · exact .inr (.inr (.inr (.inl h)))
    · exact .inr (.inl h)
    · exact .inr (.inr (.inl h))
    · exact .inr (.inr (.inr (.inr h)))
  · rintro (h | h | h | h | h)
    · exact .inl (.inl h)
    · exact .inr (.inl h)
    · exact .inr (.inr (.inl h))
    · exact .inl (.inr h)
    · exact .inr (.inr (.inr h))
open LCg in
/-- a comprehension of two clauses over a list of lists of pairs, the inner one with a test -/
theorem comp_two {elt iter test : Expr} {x x1 : Str} {px p2 px1 : Pos} {scope : Scope} {cl : List (Str × Addr)} {cp : Pos} {l : Addr} {vs : List Value} {news Z : Led} {ls : List (List (Nat × Str))} (f : Nat × Str → Bool) {Q : Value → Shared → Prop}
    (hh : A.handled = none) (hcell : ∀ y ∈ scope.names, y.2 ≠ .cell) (hkind : scope.kind = .function) (hx : scope.names.lookup x = some .local) (hx1 : scope.names.lookup x1 = some .local) (hd : (x == ("__debug__" : Str)) = false) (hls : s.heap.IsList l vs.toArray) (hz : vs.length ≤ 40)
    (F : Fr h₀ L s.heap m) (N : News h₀ L s.heap news) (hL : L ≠ l) (hT : All2 (ListAt (InL Z)) vs ls) (hZ : ∀ p ∈ Z, p ∈ news)
    (step : ∀ C D oC m₂ ys h tk own (E' : Value → Shared → Prop) v p, (@Ne Nat C D) → NsObj oC m₂ → m₂ x1 = some v → PairAt (InL Z) v p → (∀ p ∈ news, p.1 ≠ C ∧ p.1 ≠ D) → Fr h₀ L h m → News h₀ L h (own ++ (C, oC) :: (D, lst ys) :: news) →
      wpAny (model prog w) A (isTrue test (compEnvC scope cl C env) (eval test (compEnvC scope cl C env))) (fun ok s₃ => ok = f p ∧ ∃ h' tk', s₃ = { s with heap := h', toks := tk' } ∧ Fr h₀ L h' m ∧ News h₀ L h' (own ++ (C, oC) :: (D, lst ys) :: news)) E' { s with heap := h, toks := tk } ∧
      wpAny (model prog w) A (eval elt (compEnvC scope cl C env)) (fun y s₃ => y = v ∧ s₃ = { s with heap := h, toks := tk }) E' { s with heap := h, toks := tk })
    (fin : ∀ h' tk D ys, Fr h₀ L h' m → News h₀ L h' ((D, lst ys) :: news) → (∀ p ∈ news, p.1 ≠ D) → All2 (PairAt (InL Z)) ys (ls.flatten.filter f) → Q (.ref D) { s with heap := h', toks := tk }) :
    CompGo prog w A E env elt [⟨.Name x px, iter, [], 0⟩, ⟨.Name x1 px1, .Name x p2, [test], 0⟩] scope cl cp Q (.ref l) s := by
  have hlt : l < s.heap.objs.size := let ⟨o, e, _⟩ := hls; Heap.lt_size e
  have hne : l ≠ s.heap.objs.size := Nat.ne_of_lt hlt
  have hsz : vs.toArray.size = vs.length := List.size_toArray ..
  have W : Walks prog w A s.heap.objs.size [s.heap.objs.size, l] [s.heap.objs.size] vs.length _ _ := hsz ▸ Walks.list hh s.heap.objs.size l hne vs.toArray
  have W2 := KTurns.ofWalks (target := .Name x px) W (fun i v s Q E st q => go_name (l := l) s v _ Q E i st.1 q)
  have up : ∀ b o, s.heap.get? b = some o → (s.heap.push { cls := .type "list_iterator", data := .fields #[.ref l, .int 0 0] }).get? b = some o := fun b o e => Heap.get?_push_of_some _ e
  have hst : (s.heap.push { cls := .type "list_iterator", data := .fields #[.ref l, .int 0 0] }).IsListIter s.heap.objs.size l 0 ∧ (s.heap.push { cls := .type "list_iterator", data := .fields #[.ref l, .int 0 0] }).IsList l vs.toArray := ⟨⟨_, Heap.get?_push_size _ rfl, rfl, rfl⟩, hls.at fun o e => up _ o e⟩
  have hfp : ∀ b ∈ [s.heap.objs.size, l], b < (s.heap.push { cls := .type "list_iterator", data := .fields #[.ref l, .int 0 0] }).objs.size := fun b hb => by
    rw [Heap.size_push]
    rcases List.mem_cons.mp hb with rfl | hb
    · exact Nat.lt_succ_self _
    · rw [List.mem_singleton.mp hb]; exact Nat.lt_succ_of_lt hlt
  have N0 : News h₀ L (s.heap.push { cls := .type "list_iterator", data := .fields #[.ref l, .int 0 0] }) news := fun p hp => ⟨up _ _ (N p hp).1, (N p hp).2⟩
  refine wpAny_pyIter_list hls (comp_begin (s := { s with heap := s.heap.push { cls := .type "list_iterator", data := .fields #[.ref l, .int 0 0] } }) (RR := fun acc C => compPost (model prog w) A E none Q acc C) hcell hkind (F.push _) N0
    (fun h₁ tk Q' E' k hq => W.self 0 _ Q' E' (W.frame 0 _ _ hst fun b _ o e => k b o e) hq) fun D C h₁ oC tk hCD hlt2 k hC F₁ N₁ => ?_)
  have hfC : ∀ b ∈ [s.heap.objs.size, l], (@Ne Nat b C) ∧ (@Ne Nat b D) := fun b hb => hlt2 b (hfp b hb)
  have hnC : ∀ p ∈ news, (@Ne Nat p.1 C) ∧ (@Ne Nat p.1 D) := fun p hp => hlt2 _ (Heap.lt_size (N0 p hp).1)
  have hnI : ∀ p ∈ news, p.1 ∉ [s.heap.objs.size] := fun p hp hI => absurd (Heap.lt_size (N p hp).1) ((List.mem_singleton.mp hI) ▸ Nat.lt_irrefl _)
  obtain ⟨m₀, hm₀⟩ := hC
  refine comp_core (s := { s with heap := h₁, toks := tk }) (n := vs.length) turn_0 W2 (fun hm => ?_) (fun b hb => List.mem_singleton.mp hb ▸ next_is_new F) (fun p hp hI => ?_) (W.frame 0 _ _ hst fun b _ o e => k b o e) F₁ N₁
    (fun i n0 => ∃ oC m₂ ys, n0 = (C, oC) :: (D, lst ys) :: news ∧ NsObj oC m₂ ∧ ys.length ≤ 520 * i ∧ All2 (PairAt (InL Z)) ys ((ls.take i).flatten.filter f)) ⟨oC, m₀, [], rfl, hm₀, Nat.zero_le _, .nil⟩ ?_ ?_
  · rcases List.mem_cons.mp hm with e | hm
    · exact absurd F.ns.lt (e ▸ Nat.lt_irrefl _)
    · exact hL (List.mem_singleton.mp hm)
  · rcases List.mem_cons.mp hp with rfl | hp
    · exact (hfC _ (.head _)).1 (List.mem_singleton.mp hI).symm
    rcases List.mem_cons.mp hp with rfl | hp
    · exact (hfC _ (.head _)).2 (List.mem_singleton.mp hI).symm
    · exact hnI p hp hI
  · rintro i v n0 h tk own E' hi hP hSt ⟨oC, m₂, ys, rfl, hNs, hlen, hys⟩ hoff hownf hown F₂ N₂
    have hv : vs[i]? = some v := by simpa using hP
    obtain ⟨l9, hl9, hat⟩ := All2.at hT hv
    obtain ⟨la, na, ws, rfl, g, hTw, hzw⟩ := hat
    have offown : ∀ p ∈ own, p.1 ≠ C ∧ p.1 ≠ D := fun p hp => hfC _ (hownf p hp)
    have eC := (N₂ (C, oC) (List.mem_append_right _ (.head _)))
    have eD := (N₂ (D, lst ys) (List.mem_append_right _ (.tail _ (.head _))))
    refine (asg_name hx hkind) { s with heap := h, toks := tk } m₂ _ _ rfl (hNs.ns eC.1) fun h' tk' m' hn' hB hk => ?_
    obtain ⟨oC', heC', hoC'⟩ := ns_obj hn'
    have F₃ : Fr h₀ L h' m := ⟨F₂.ns.at' fun o e => hk _ o (Ne.symm eC.2.1) e, fun b o e => hk b o (fun q => by rw [q, eC.2.2] at e; cases e) (F₂.keep b o e), F₂.above⟩
    have N₃ : News h₀ L h' ((C, oC') :: (D, lst ys) :: (own ++ news)) := fun p hp => by
      rcases List.mem_cons.mp hp with rfl | hp
      · exact ⟨heC', eC.2⟩
      rcases List.mem_cons.mp hp with rfl | hp
      · exact ⟨hk _ _ (Ne.symm hCD) eD.1, eD.2⟩
      rcases List.mem_append.mp hp with hp | hp
      · have := N₂ p (List.mem_append_left _ hp)
        exact ⟨hk _ _ (offown p hp).1 this.1, this.2⟩
      · have := N₂ p (List.mem_append_right _ (.tail _ (.tail _ hp)))
        exact ⟨hk _ _ (hnC p hp).1 this.1, this.2⟩
    refine wpAny_tests_nil ?_
    rw [if_pos rfl]
    refine wpAny_bind (wpAny_Name (wpAny_loadName_local (by simp [compEnvC, relabel, hkind]) (lookup_relabel_local hx) hn' hB ?_) hd)
    refine wpAny_bind (wpAny_standAt (wpAny_bind ?_))
    rw [show foldedSetIterable (.Name x p2) (compEnvC scope cl C env) (.ref la) = pure (.ref la) from rfl]
    refine wpAny_pure ?_
    have gla := N₃ _ (.tail _ (.tail _ (List.mem_append_right _ (hZ _ g))))
    have hlw : h'.IsList la ws.toArray := ⟨_, gla.1, rfl, ⟨_, rfl⟩⟩
    refine wpAny_bind (wpAny_holding (wpAny_pyIter_list hlw (wpAny_bind (wpAny_runOwn ?_))))
    rw [Around.mark_none]
    have hlt1 : la < h'.objs.size := Heap.lt_size gla.1
    have hsz1 : ws.toArray.size = ws.length := List.size_toArray ..
    have V : Walks prog w A h'.objs.size [h'.objs.size, la] [h'.objs.size] ws.length _ _ := hsz1 ▸ Walks.list hh h'.objs.size la (Nat.ne_of_lt hlt1) ws.toArray
    have V2 := KTurns.ofWalks (target := .Name x1 px1) V (fun i v s Q E st q => go_name (l := la) s v _ Q E i st.1 q)
    have up1 : ∀ b o, h'.get? b = some o → (h'.push { cls := .type "list_iterator", data := .fields #[.ref la, .int 0 0] }).get? b = some o := fun b o e => Heap.get?_push_of_some _ e
    have hst1 : (h'.push { cls := .type "list_iterator", data := .fields #[.ref la, .int 0 0] }).IsListIter h'.objs.size la 0 ∧ (h'.push { cls := .type "list_iterator", data := .fields #[.ref la, .int 0 0] }).IsList la ws.toArray := ⟨⟨_, Heap.get?_push_size _ rfl, rfl, rfl⟩, hlw.at fun o e => up1 _ o e⟩
    have N₄ : News h₀ L (h'.push { cls := .type "list_iterator", data := .fields #[.ref la, .int 0 0] }) ((C, oC') :: (D, lst ys) :: (own ++ news)) := fun p hp => ⟨up1 _ _ (N₃ p hp).1, (N₃ p hp).2⟩
    have offon : ∀ p ∈ own ++ news, p.1 ≠ C ∧ p.1 ≠ D := fun p hp => (List.mem_append.mp hp).elim (offown p) (hnC p)
    have lt3 : ∀ p ∈ (C, oC') :: (D, lst ys) :: (own ++ news), p.1 ≠ h'.objs.size := fun p hp => Nat.ne_of_lt (Heap.lt_size (N₃ p hp).1)
    refine compStart_self ?_ (fun Q E' q => V.self 0 _ Q E' hst1 q)
    refine comp_turnsG (s := { s with heap := h'.push { cls := .type "list_iterator", data := .fields #[.ref la, .int 0 0] }, toks := tk' }) (n := ws.length) (c := 520 * i) (news := own ++ news) (oC := oC') (Bd := fun j m' => ∃ v, ws[j]? = some v ∧ m' x1 = some v) turn_1 V2 hlen (by omega) (fun hm => by
          rcases List.mem_cons.mp hm with e | hm
          · exact absurd F₃.ns.lt (e ▸ Nat.lt_irrefl _)
          · exact gla.2.1 (List.mem_singleton.mp hm).symm)
        (fun b hb => List.mem_singleton.mp hb ▸ next_is_new F₃) (fun p hp hI => lt3 p (.tail _ (.tail _ hp)) (List.mem_singleton.mp hI)) hst1 (F₃.push _) ⟨_, hoC'⟩ hCD (fun b hb => by
          rcases List.mem_cons.mp hb with rfl | hb
          · exact ⟨(lt3 _ (.head _)).symm, (lt3 _ (.tail _ (.head _))).symm⟩
          · rw [List.mem_singleton.mp hb]; exact hnC _ (hZ _ g)) offon N₄
        (fun j ys' nn => nn = own ++ news ∧ ys'.length ≤ 520 * i + j ∧ All2 (PairAt (InL Z)) ys' (((ls.take i).flatten ++ l9.take j).filter f)) ⟨rfl, hlen, by rw [List.take_zero, List.append_nil]; exact hys⟩
        (fun j v h hj hP => (asg_name hx1 hkind).mono fun m' hm => ⟨v, by simpa using hP, hm⟩) ?_ ?_
    · rintro j oC5 m5 ys5 nn5 h5 tk5 own5 E5 hj _ ⟨rfl, hl5, hy5⟩ hNs5 ⟨v5, hv5, hm5⟩ hoff5 hown5 F5 N5
      obtain ⟨p5, hp5, hat5⟩ := All2.at hTw hv5
      have st := fun h tk F N => step C D oC5 m5 ys5 h tk (own5 ++ own) E5 v5 p5 hCD hNs5 hm5 hat5 hnC F N
      refine wpAny_tests_one (wpAny_mono (st h5 tk5 F5 (news_sub N5 fun p hp => mem_rearr.mp hp)).1 (fun ok s₃ h₃ => ?_) fun _ _ e => e)
      obtain ⟨rfl, h6, tk6, rfl, F6, N6⟩ := h₃
      have N7 := news_sub (l' := own5 ++ (C, oC5) :: (D, lst ys5) :: (own ++ news)) N6 fun p hp => mem_rearr.mpr hp
      have e5 : ((ls.take i).flatten ++ l9.take (j + 1)).filter f = (((ls.take i).flatten ++ l9.take j).filter f) ++ [p5].filter f := by
        rw [List.take_add_one, hp5, ← List.append_assoc, List.filter_append]; rfl
      by_cases hf : f p5 = true
      · rw [if_pos hf]
        refine wpAny_mono (st h6 tk6 F6 N6).2 (fun y s₄ h₄ => ?_) fun _ _ e => e
        obtain ⟨rfl, rfl⟩ := h₄
        refine ⟨h6, tk6, oC5, own ++ news, rfl, F6, ⟨m5, hNs5⟩, N7, hoff5, rfl, by rw [List.length_append]; exact Nat.succ_le_succ hl5, ?_⟩
        rw [e5, List.filter_cons_of_pos hf]
        exact hy5.push hat5
      · rw [if_neg hf]
        refine ⟨h6, tk6, oC5, own ++ news, rfl, F6, ⟨m5, hNs5⟩, N7, hoff5, rfl, Nat.le_succ_of_le hl5, ?_⟩
        rw [e5, List.filter_cons_of_neg hf, List.filter_nil, List.append_nil]
        exact hy5
    · rintro h5 tk5 ys5 nn5 oC5 F5 N5 hoff5 ⟨m5, hm5⟩ ⟨rfl, hl5, hy5⟩
      refine wpAny_pure ⟨h5, tk5, (C, oC5) :: (D, lst ys5) :: news, rfl, F5, news_sub N5 fun p hp => mem_rearr (a := []) |>.mp hp, fun p hp => ?_, oC5, m5, ys5, rfl, hm5, by omega, ?_⟩
      · rcases List.mem_cons.mp hp with rfl | hp
        · exact hoff (C, oC) (.head _)
        rcases List.mem_cons.mp hp with rfl | hp
        · exact hoff (D, lst ys) (.tail _ (.head _))
        · exact hnI p hp
      · rw [All2.length hTw, List.take_length] at hy5
        rw [List.take_add_one, hl9, List.flatten_append]
        simpa using hy5
  · rintro h' tk n0 F₁ N₁ _ ⟨oC, m₂, ys, rfl, hNs, _, hys⟩
    have zC := N₁ (C, oC) (.head _)
    refine ⟨m₂, hNs.ns zC.1, fun h'' hs'' => fin h'' _ D ys (F₁.change hs'' zC.2.1 zC.2.2) (fun p hp => ?_) (fun p hp => (hnC p hp).2) ?_⟩
    · have z := N₁ p (.tail _ hp)
      refine ⟨hs''.extBut _ _ ?_ z.1, z.2⟩
      rcases List.mem_cons.mp hp with rfl | hp
      · exact Ne.symm hCD
      · exact (hnC p hp).1
    · rw [All2.length hT, List.take_length] at hys; exact hys
end

theorem broken_eq {pt : List PN} {tab : List (Str × Nat)} {T : Dt} {l : List Rw} (h : ∀ r ∈ l, refsAt pt (look T.es) r.node = pairsOf T r) : (nodes l).flatMap (brokenAt pt (look T.es) tab) = ((l.map (pairsOf T)).flatten).filter fun p => !tab.any fun a => a.1 == p.2 := by
  induction l with
  | nil => rfl
  | cons r l ih =>
    rw [List.map_cons, List.flatten_cons, List.filter_append, ← ih fun x hx => h x (.tail _ hx), ← h r (.head _)]; rfl
section
theorem rows43 : True := by
  k_with_none
  k_with "ktr_enter" =>
    (refine enter_cells (by k_asm) (by k_asm) (by k_asm) (by k_asm) (by k_asm) (by exact rfl) (by exact rfl) (by assumption) (by k_is) (by k_is) (by ktr_room) (by exact BindsTo.of_eq rfl) (by exact rfl) (by decide +kernel) ?_ (by exact rfl) (by exact rfl) (by exact rfl); k_whole; intro g' L' h' tk' cells' FG' F' N' Y' B' X' T' l1 kG'; (try k_lt l1); k_cells Y'; (try dsimp only [List.cons_append, List.nil_append] at N'); (try dsimp only); (try k_fold))
  k_with "ktr_enter" =>
    (refine code_defG (by k_asm) (by k_asm) (by k_asm) (by k_asm) (by k_asm) (by exact rfl) (by exact rfl) (by assumption) (by k_is) (by k_is) (by ktr_room) (by exact BindsTo.of_eq rfl) (by exact locs rfl) ?_ (by exact rfl) (by exact rfl) (by exact rfl) (by decide); k_whole; intro g' L' h' FG' F' N' B' X' T' kG'; (try dsimp only); (try k_fold))
  k_with "k_ne" =>
    (refine neN ?_; (try dsimp only); with_reducible first | assumption | exact Ne.symm (by assumption) | exact Nat.ne_of_gt (by assumption) | exact Nat.ne_of_lt (by assumption) | exact Nat.ne_of_gt (Nat.lt_succ_of_lt (by assumption)) | exact Nat.ne_of_lt (Nat.lt_succ_of_lt (by assumption)))
  k_with "k_lt" =>
    (intro l1; replace l1 := allLt_of l1; (try dsimp only [AllLt] at l1); (repeat (with_reducible (have O8 := And.left l1; replace l1 := And.right l1))))
  k_with "my pick" =>
    (first | (refine Pick1.head ?_; k_extra "k_all") | exact Pick1.tail (by k_ne) (by k_extra "my pick"))
  k_with "my sub" =>
    (first | exact List.forall_mem_nil _ | (refine List.forall_mem_cons.mpr ⟨by k_mem, ?_⟩; k_extra "my sub"))
  k_with "k_room" =>
    ((try simp only [depth_under_make, depth_under_kw, depth_in1, depth_deeper, depth_caller]); (try dsimp only [ktrTop]); omega)
  k_with "my and" =>
    (first | assumption | exact And.intro (by k_ne) (by k_extra "my and") | k_ne)
  k_with "my conj" =>
    (intro l1; (repeat (with_reducible (have O8 := And.left l1; replace l1 := And.right l1))))
  k_with "my off" =>
    ((rename OffL _ _ => O9); (try dsimp only [OffL, Off1, keys, nodeLed, List.map] at O9); revert O9; k_extra "my conj2")
  k_with "CompRest" =>
    (with_unfolding_all first | (refine LCg.CompRest.succ ?_; intro v' I' oI' C' oC' D' m' h' tk' E' hv' hC' hx' F' N' off' ne'; (first | lcg_open hv' | (obtain ⟨t9', hv9'⟩ := hv'; subst hv9')); (try dsimp only [LCg.Off3] at off'); revert off'; k_extra "my conj2"; revert ne'; k_extra "my conj") | refine LCg.CompRest.zero ?_)
  k_with "FinE" =>
    ((unfold LCg.FinE); intro D' h' tk' F' N' o1'; (try dsimp only [LCg.Off1] at o1'); (try dsimp only [List.nil_append, List.cons_append] at N'); (try dsimp only); revert o1'; k_extra "my conj")
  k_with "FinA" =>
    ((unfold LCg.FinA); intro D' h' tk' F' N' o1'; (try dsimp only [LCg.Off1] at o1'); (try dsimp only [List.nil_append, List.cons_append] at N'); (try dsimp only); revert o1'; k_extra "my conj")
  k_with "k_all" =>
    (first | exact List.forall_mem_nil _ | exact Off1.all (by with_reducible assumption) | exact AllLt.ne (by with_reducible assumption) | exact List.forall_mem_cons.mpr ⟨by k_ne, by k_extra "k_all"⟩)
  k_with "my conj2" =>
    (intro l2; (repeat (with_reducible (have l1 := And.left l2; replace l2 := And.right l2; revert l1; k_extra "my conj"))))
  k_with "my same" =>
    (intro z9 hz9; first | rfl | (refine same_step hz9 (by k_mem) ?_; k_extra "my same2") | ((simp only [List.mem_cons, List.not_mem_nil, or_false, not_or] at hz9); first | rfl | (simp only [hz9, if_false, if_neg, over, not_false_eq_true]; done) | (simp [hz9, over]; done)))
  k_with "my same2" =>
    (first | rfl | (refine same_step (by assumption) (by k_mem) ?_; k_extra "my same2"))
  k_with "TurnPost" =>
    (dsimp only [TurnPost])
  k_with "my for" =>
    (k_here; (rename Fr _ _ _ _ => lF'); (with_unfolding_all refine For_turns lF' ?_ (hE := by first | passes_own | assumption); k_whole))
  k_with "execs cons" =>
    (refine wpAny_execs_cons ?_; (try k_fold))
  k_with "room" =>
    (first | exact room2 (by assumption) (by exact rfl) | exact room3 (by assumption) (by exact rfl) | exact room1 (by assumption) (by exact rfl) | exact room0 (by assumption) | exact room4 (by assumption) (by exact rfl))
  k_with "k_room" =>
    (k_extra "room")
  k_with "my in" =>
    (with_reducible first | assumption | (refine List.mem_append_left _ ?_; assumption) | (refine List.mem_append_right _ ?_; k_extra "my in") | (refine List.mem_cons_of_mem _ ?_; k_extra "my in"))
  k_with "my tail" =>
    (intro p9 hp9; k_extra "my in")
  k_with "my subs" =>
    (first | exact List.forall_mem_nil _ | k_extra "my tail" | (refine List.forall_mem_cons.mpr ⟨by k_mem, ?_⟩; k_extra "my subs"))
  k_with "k_all" =>
    (first | (with_reducible assumption) | exact OffFr.all (by with_reducible assumption) (by k_mem) | exact AllLt.ne (by with_reducible assumption))
  k_with "execs cons" =>
    ((with_reducible show wpAny _ _ (execs _ (envX lawN _ _ _ _ _)) _ _ _); refine halt ?_)
  k_with "eval ListComp" =>
    (k_here; k_dflt (refine comp_eval (by k_asm) (by exact rfl) (by exact rfl) (by decide) ?_))
  k_with "CompGo" =>
    (refine halt ?_)
  k_with "compareOp NotEq ref ref" =>
    (refine halt ?_)
  k_with "subscriptTail Name Constant ref int" =>
    (k_here; k_dflt (refine item_tupleT (j := 1) (isTup_of (News.get (by k_asm) (by k_mem)) ⟨rfl, ⟨_, rfl⟩⟩) (by decide) (by decide) rfl rfl ?_))
  k_with "compareOp NotIn str ref" =>
    (k_here; k_dflt (refine dnotin (by exact dct_of (News.get (by k_asm) (by k_mem)) (by assumption)) (by assumption) (by exact rfl) ?_))
  k_with "call ref" =>
    (k_here; (with_reducible show wpAny _ _ (call (Value.ref 70) _) _ _ _); k_dflt (refine use_ctM (broken_p w H pt T _ (nodes (rows ++ es)) hT pl.ptok pl.outok) (by k_asm) (by k_asm) (by k_asm) (by k_asm) (by k_asm) (by exact rfl) (fun _ h => nomatch h) (fun _ h => h) (fun _ _ _ h => nomatch h) (by exact pre9 _ (news_all (by k_asm) (by k_extra "my tail"))) (by ktr_room) (by ktr_units) ?_); intro v9 fp9 h9 tk9 F9 N9 O9 R9; obtain ⟨Dp, np, vsp, Yp, e9, f9, hTp⟩ := R9; subst e9; subst f9; (try dsimp only); (try k_fold))
  trivial
theorem law_1314 (w : World) (h : LawAt w 14 (Law12 w)) : LawAt w 13 (Law12 w) := by
  intro mean mg mb dp un gd ca ccd outer A₀ base h₀ L m nn s Q E B F X N Tt hdp hun hJ hret hpo
  obtain ⟨a, K, R, Tb, P, u, u2, T, n, H, pt, rvs, pvs, rows, es, Z, kv, tk, scr, c1, c2, c3, c4, c5, oT, pl, hT, hZ, hoT, hkv, lo, hP, hpv, off, ne, d1, d2, d3, d4, d5⟩ := hJ
  have hz : pvs.length ≤ 40 := by rw [All2.length hpv, List.length_map]; exact Nat.le_trans pl.len (by decide)
  have pre9 : ∀ h : Heap, (∀ p ∈ Z, h.get? p.1 = some p.2) → Sees w.params H pt h ∧ T.In h := fun h hh => ⟨(hZ h hh).sees, (hZ h hh).dt⟩
  dsimp only [cellsL, List.cons_append, List.nil_append] at N
  have inZ : ∀ p ∈ Z, p ∈ ((Tb, oT) :: (R, listOf rvs.toArray n) :: cellsL L c1 c2 c3 c4 c5) ++ Z := fun p hp => List.mem_append_right _ hp
  refine wpAny_execs_cons ?_
  try k_fold
  k_steps
  refine unhalt (comp_two (l := P) (vs := pvs) (Z := Z) (fun p => !(tabOf ((rows ++ es).map (rowId (look T.es)))).any fun a => a.1 == p.2) rfl (by decide) rfl rfl rfl rfl (News.isList N9 (List.mem_append_left _ (inZ _ hP))) hz F9 N9 (N _ (inZ _ hP)).2.1.symm hpv (fun p hp => List.mem_append_left _ (inZ p hp)) ?_ ?_)
  · intro C D oC m₂ ys h3 tk3 own E' v p hCD hC hm hat off3 F4 N4
    obtain ⟨t, ta, tx, rfl, ht⟩ := hat
    have N5 := news_sub (l' := (C, oC) :: (L + 4, c4) :: (Tb, oT) :: (t, tupP p.1 p.2 ta tx) :: (own ++ _)) N4 (List.forall_mem_cons.mpr ⟨List.mem_append_right _ (.head _), List.forall_mem_cons.mpr ⟨List.mem_append_right _ (.tail _ (.tail _ (List.mem_append_left _ (by k_mem)))), List.forall_mem_cons.mpr ⟨List.mem_append_right _ (.tail _ (.tail _ (List.mem_append_left _ (by k_mem)))), List.forall_mem_cons.mpr ⟨List.mem_append_right _ (.tail _ (.tail _ (List.mem_append_left _ (inZ _ ht)))), fun p hp => hp⟩⟩⟩⟩)
    clear N4 N9
    refine ⟨?_, ?_⟩
    · skip
      k_steps
      · rw [TabIs.has hkv]
      · assumption
      · exact news_sub N5 fun p hp => .tail _ (.tail _ (.tail _ (.tail _ hp)))
    · k_steps
  · intro h3 tk3 D ys F4 N4 off3 hys
    k_steps
    rw [pl.ids, broken_eq fun r hr => refs_row (pl.gr.row r hr)] at hTp
    refine unhalt (ne_lists (News.isList N4 (.tail _ (List.mem_append_right _ (.head _)))) (News.isList N4 (.head _)) (hTp.mono fun _ _ z => z.mono fun a o z => (N4 (a, o) (.tail _ (List.mem_append_right _ (.tail _ z)))).1) (hys.mono fun _ _ z => z.mono fun a o z => (N4 (a, o) (.tail _ (List.mem_append_left _ (inZ _ z)))).1) (fun v v' x r r' => pair_eq (by ktr_units) r r') (by ktr_units) ?_)
    k_steps
    exact unhalt (h _ _ _ _ _ _ _ _ _ _ _ _ _ _ _ _ _ _ B F4 X (news_sub N4 fun p hp => .tail _ (List.mem_append_left _ hp)) Tt hdp hun (Law12.mk a K R Tb P u u2 T n H pt rvs pvs rows es Z kv _ scr c1 c2 c3 c4 c5 oT pl hT hZ hoT hkv lo hP hpv off ne d1 d2 d3 d4 d5) hret hpo)
end

section
variable {prog : Program} {w : World} {A : Around} {E : Value → Shared → Prop} {s : Shared} {h₀ : Heap} {L : Addr} {m : Str → Option Value} {env : Env}
open LCg in
/-- a comprehension over two lists side by side, with one test; the ledger stays as it is -/
theorem comp_zip0 {elt c iter : Expr} {x x₂ : Str} {px px₂ tp : Pos} {tk : Nat} {scope : Scope} {cl : List (Str × Addr)} {cp : Pos} {vs us : List Value} {R P : Addr} {news : Led} {Q : Value → Shared → Prop} (K : Nat → List Value → Prop)
    (hh : A.handled = none) (hcell : ∀ y ∈ scope.names, y.2 ≠ .cell) (hkind : scope.kind = .function) (hx : scope.names.lookup x = some .local) (hx₂ : scope.names.lookup x₂ = some .local) (hxx : x ≠ x₂) (hz : vs.length ≤ 2 ^ 20) (hlen : us.length = vs.length)
    (F : Fr h₀ L s.heap m) (N : News h₀ L s.heap news) (hls : s.heap.IsList R vs.toArray) (hus : s.heap.IsList P us.toArray) (hLR : L ≠ R) (hLP : L ≠ P) (h0 : K 0 [])
    (step : ∀ C D i oC m₂ ys h tk own (E' : Value → Shared → Prop) v u, (@Ne Nat C D) → vs[i]? = some v → us[i]? = some u → K i ys → NsObj oC m₂ → m₂ x = some v → m₂ x₂ = some u → (∀ p ∈ news, p.1 ≠ C ∧ p.1 ≠ D) → Fr h₀ L h m → News h₀ L h (own ++ (C, oC) :: (D, lst ys) :: news) →
      wpAny (model prog w) A (isTrue c (compEnvC scope cl C env) (eval c (compEnvC scope cl C env))) (fun ok s₃ => if ok = true then wpAny (model prog w) A (eval elt (compEnvC scope cl C env)) (fun y s₄ => KEnd h₀ L m (own ++ (C, oC) :: (D, lst ys) :: news) (K (i + 1) (ys ++ [y])) { s with heap := h, toks := tk } s₄) E' s₃
        else KEnd h₀ L m (own ++ (C, oC) :: (D, lst ys) :: news) (K (i + 1) ys) { s with heap := h, toks := tk } s₃) E' { s with heap := h, toks := tk })
    (fin : ∀ h' tk D ys, Fr h₀ L h' m → News h₀ L h' ((D, lst ys) :: news) → (∀ p ∈ news, p.1 ≠ D) → K vs.length ys → Q (.ref D) { s with heap := h', toks := tk }) :
    wpAny (model prog w) A (call (.type "zip") [.ref R, .ref P]) (CompGo prog w A E env elt [⟨.Tuple [.Name x px, .Name x₂ px₂] tk tp, iter, [c], 0⟩] scope cl cp Q) E s := by
  have hlt1 : R < s.heap.objs.size := let ⟨o, e, _⟩ := hls; Heap.lt_size e
  have hlt2 : P < s.heap.objs.size := let ⟨o, e, _⟩ := hus; Heap.lt_size e
  have hLlt : L < s.heap.objs.size := F.ns.lt
  have D := ktu_apart _ _ _ hlt1 hlt2
  have hmin : min vs.toArray.size us.toArray.size = vs.length := by rw [List.size_toArray, List.size_toArray, hlen, Nat.min_self]
  refine call_zip_2 hls hus fun h' hz' hTI hTO hi1 hi2 hsz hk => ?_
  have W := (WalksT.zip2 (prog := prog) (w := w) hh _ _ _ _ _ R P D vs.toArray us.toArray).toU
  have W2 := KTurns.ofWalksU (elts := [.Name x px, .Name x₂ px₂]) (k := tk) (pos := tp) W
  have fp7 : ∀ b ∈ [s.heap.objs.size + 4, s.heap.objs.size + 2, s.heap.objs.size + 3, s.heap.objs.size, s.heap.objs.size + 1, R, P], b < s.heap.objs.size + 5 := fun b hb => by
    have hb' : b = s.heap.objs.size + 4 ∨ b = s.heap.objs.size + 2 ∨ b = s.heap.objs.size + 3 ∨ b = s.heap.objs.size ∨ b = s.heap.objs.size + 1 ∨ b = R ∨ b = P := by simpa using hb
    rcases hb' with rfl | rfl | rfl | rfl | rfl | rfl | rfl
    · exact Nat.add_lt_add_left (by decide : 4 < 5) _
    · exact Nat.add_lt_add_left (by decide : 2 < 5) _
    · exact Nat.add_lt_add_left (by decide : 3 < 5) _
    · exact Nat.lt_add_of_pos_right (by decide : 0 < 5)
    · exact Nat.add_lt_add_left (by decide : 1 < 5) _
    · exact Nat.lt_of_lt_of_le hlt1 (Nat.le_add_right _ _)
    · exact Nat.lt_of_lt_of_le hlt2 (Nat.le_add_right _ _)
  have wr4 : ∀ b ∈ [s.heap.objs.size + 4, s.heap.objs.size + 3, s.heap.objs.size, s.heap.objs.size + 1], ∃ k, b = s.heap.objs.size + k := fun b hb => by
    have hb' : b = s.heap.objs.size + 4 ∨ b = s.heap.objs.size + 3 ∨ b = s.heap.objs.size ∨ b = s.heap.objs.size + 1 := by simpa using hb
    rcases hb' with rfl | rfl | rfl | rfl
    · exact ⟨_, rfl⟩
    · exact ⟨_, rfl⟩
    · exact ⟨0, rfl⟩
    · exact ⟨_, rfl⟩
  refine wpAny_pyIter_zip hz' ?_
  refine comp_all (s := { s with heap := h' }) (Bd := fun i m' => ∃ v u, vs[i]? = some v ∧ us[i]? = some u ∧ m' x = some v ∧ m' x₂ = some u) hcell hkind W2 (fun s Q E' st q => W.self 0 s Q E' st q) (by rw [hmin]; exact hz) ?_ ?_ ?_ ?_ ?_ (F.keeps hk) (N.grown hk) (fun i ys nn => nn = news ∧ K i ys) ⟨rfl, h0⟩ ?_ ?_ ?_
  · intro hm
    have hb' : L = s.heap.objs.size + 4 ∨ L = s.heap.objs.size + 2 ∨ L = s.heap.objs.size + 3 ∨ L = s.heap.objs.size ∨ L = s.heap.objs.size + 1 ∨ L = R ∨ L = P := by simpa using hm
    rcases hb' with e | e | e | e | e | e | e
    · exact ktu_ne 4 hLlt e
    · exact ktu_ne 2 hLlt e
    · exact ktu_ne 3 hLlt e
    · exact Nat.ne_of_lt hLlt e
    · exact ktu_ne 1 hLlt e
    · exact hLR e
    · exact hLP e
  · intro b hb
    obtain ⟨k, rfl⟩ := wr4 b hb
    exact ktu_new F (Nat.le_add_right _ _)
  · intro p hp hI
    obtain ⟨k, e⟩ := wr4 _ hI
    exact ktu_ne k (Heap.lt_size (N p hp).1) e
  · exact ⟨hz', hTI, ⟨_, _, hTO⟩, hi1, hi2, hls.at fun o e => hk _ o e, hus.at fun o e => hk _ o e⟩
  · intro b hb
    show b < h'.objs.size
    rw [hsz]
    exact fp7 b hb
  · rintro C i v h hi ⟨t, va, rfl, ⟨v1, v2, e1, e2, rfl⟩, ht⟩
    exact (asg_pair hh hx hx₂ hxx hkind ht).mono fun m' hm => ⟨v1, v2, by simpa using e1, by simpa using e2, hm.1, hm.2⟩
  · intro C D i oC m₂ ys nn h tk' own E' h1 h2 _ h3 h4 h5 h6 h7 h8 h9
    obtain ⟨rfl, hK⟩ := h3
    obtain ⟨v, u, e1, e2, hm1, hm2⟩ := h5
    refine wpAny_tests_one ?_
    refine wpAny_mono (step C D i oC m₂ ys h tk' own E' v u h1 e1 e2 hK h4 hm1 hm2 (fun p hp => (h6 p hp).2) h8 h9) (fun ok s₃ h => ?_) fun _ _ e => e
    cases ok with
    | true => exact wpAny_mono h (fun y s₄ h => KEnd.g h4 h6 h) fun _ _ e => e
    | false => exact KEnd.g h4 h6 h
  · intro h' tk' D ys nn F' N' off' ⟨e, hK⟩
    subst e
    rw [hmin] at hK
    exact fin h' tk' D ys F' N' (fun p hp => (off' p hp).2) hK
end
theorem strs_snoc : ∀ {vs : List Value} {ss : List Str} {y : Str} {t : Tok}, StrsAre vs ss → StrsAre (vs ++ [.str y t]) (ss ++ [y])
  | _, _, _, _, .nil => .cons _ _ .nil
  | _, _, _, _, .cons y t h => .cons y t (strs_snoc h)
/-- an int of a list of ints -/
noncomputable abbrev IntV (v : Value) (z : Nat) : Prop := ∃ t, v = .int ((z : Nat) : Int) t
theorem nv_ints : ∀ (l : List (Nat × Tok)), All2 IntV (nv l) (l.map (·.1))
  | [] => .nil
  | _ :: r => .cons ⟨_, rfl⟩ (nv_ints r)
theorem int_eq {A : Around} {s : Shared} {v v' : Value} {z : Nat} (h : IntV v z) (h' : IntV v' z) : EqAt A s v v' true := by
  obtain ⟨t, rfl⟩ := h
  obtain ⟨t', rfl⟩ := h'
  have r := EqAt.int_int (A := A) (s := s) ((z : Nat) : Int) t ((z : Nat) : Int) t'
  rw [beq_self_eq_true] at r; exact r
/-- the rows that refer to a name -/
noncomputable abbrev told (T : Dt) (x : Str) (r : Rw) : Bool := ((pairsOf T r).map (·.2)).any fun y => y == x
noncomputable abbrev tellers (T : Dt) (x : Str) (l : List Rw) : List Nat := nodes (l.filter (told T x))
theorem tell_eq {pt : List PN} {T : Dt} {x : Str} {l : List Rw} (h : ∀ r ∈ l, refsAt pt (look T.es) r.node = pairsOf T r) : (nodes l).filter (refersTo pt (look T.es) x) = tellers T x l := by
  induction l with
  | nil => rfl
  | cons r l ih =>
    have e : refersTo pt (look T.es) x r.node = told T x r := by
      unfold refersTo told
      rw [h r (.head _), List.any_map]; rfl
    show List.filter _ (r.node :: nodes l) = _
    unfold tellers
    cases hb : told T x r with
    | true => rw [List.filter_cons_of_pos (e.trans hb), List.filter_cons_of_pos hb, ih fun y hy => h y (.tail _ hy)]; rfl
    | false => rw [List.filter_cons_of_neg (by rw [e, hb]; decide), List.filter_cons_of_neg (by rw [hb]; decide), ih fun y hy => h y (.tail _ hy)]
theorem tell_yes {T : Dt} {x : Str} {l : List Rw} {i : Nat} {r : Rw} (h : l[i]? = some r) (hb : told T x r = true) : tellers T x (l.take (i + 1)) = tellers T x (l.take i) ++ [r.node] := by
  unfold tellers nodes
  rw [List.take_add_one, h, List.filter_append, List.map_append]
  show _ ++ (List.filter _ [r]).map _ = _
  rw [List.filter_cons_of_pos hb]; rfl
theorem tell_no {T : Dt} {x : Str} {l : List Rw} {i : Nat} {r : Rw} (h : l[i]? = some r) (hb : told T x r = false) : tellers T x (l.take (i + 1)) = tellers T x (l.take i) := by
  unfold tellers nodes
  rw [List.take_add_one, h, List.filter_append, List.map_append]
  show _ ++ (List.filter _ [r]).map _ = _
  rw [List.filter_cons_of_neg (by rw [hb]; decide)]
  exact List.append_nil _
theorem ne_rep {a : Addr} {l l' : Led} (h : ∀ p ∈ l, p.1 ≠ a) (e : keys l' = keys l) : ∀ p ∈ l', p.1 ≠ a := fun p hp => by
  have k : p.1 ∈ keys l := e ▸ List.mem_map_of_mem hp
  obtain ⟨q, hq, e⟩ := List.mem_map.mp k
  rw [← e]; exact h q hq
theorem name_led {g h : Heap} {L : Addr} {r : Led} (_N : News g L h r) : ∃ b, b = r := ⟨r, rfl⟩
theorem two_strs {x y : Str} {t u : Tok} {j : Nat} {v : Value} (h : [Value.str x t, Value.str y u][j]? = some v) : ∃ z tz, v = .str z tz := by
  match j, h with
  | 0, h => exact ⟨_, _, (Option.some.inj h).symm⟩
  | 1, h => exact ⟨_, _, (Option.some.inj h).symm⟩
theorem name_list {g h : Heap} {L a : Addr} {x y : Str} {t u : Tok} {n : Nat} {X : Led} (N : News g L h ((a, listOf [Value.str x t, Value.str y u].toArray n) :: X)) : ∃ (b : Addr) (vs : List Value), b = a ∧ (∀ (j : Nat) (v : Value), vs[j]? = some v → ∃ z tz, v = Value.str z tz) ∧ News g L h ((a, listOf vs.toArray n) :: X) :=
  ⟨a, [Value.str x t, Value.str y u], rfl, fun _ _ h => two_strs h, N⟩
section
theorem rows44 : True := by
  k_with_none
  k_with "ktr_enter" =>
    (refine enter_cells (by k_asm) (by k_asm) (by k_asm) (by k_asm) (by k_asm) (by exact rfl) (by exact rfl) (by assumption) (by k_is) (by k_is) (by ktr_room) (by exact BindsTo.of_eq rfl) (by exact rfl) (by decide +kernel) ?_ (by exact rfl) (by exact rfl) (by exact rfl); k_whole; intro g' L' h' tk' cells' FG' F' N' Y' B' X' T' l1 kG'; (try k_lt l1); k_cells Y'; (try dsimp only [List.cons_append, List.nil_append] at N'); (try dsimp only); (try k_fold))
  k_with "ktr_enter" =>
    (refine code_defG (by k_asm) (by k_asm) (by k_asm) (by k_asm) (by k_asm) (by exact rfl) (by exact rfl) (by assumption) (by k_is) (by k_is) (by ktr_room) (by exact BindsTo.of_eq rfl) (by exact locs rfl) ?_ (by exact rfl) (by exact rfl) (by exact rfl) (by decide); k_whole; intro g' L' h' FG' F' N' B' X' T' kG'; (try dsimp only); (try k_fold))
  k_with "k_ne" =>
    (refine neN ?_; (try dsimp only); with_reducible first | assumption | exact Ne.symm (by assumption) | exact Nat.ne_of_gt (by assumption) | exact Nat.ne_of_lt (by assumption) | exact Nat.ne_of_gt (Nat.lt_succ_of_lt (by assumption)) | exact Nat.ne_of_lt (Nat.lt_succ_of_lt (by assumption)))
  k_with "k_lt" =>
    (intro l1; replace l1 := allLt_of l1; (try dsimp only [AllLt] at l1); (repeat (with_reducible (have O8 := And.left l1; replace l1 := And.right l1))))
  k_with "my pick" =>
    (first | (refine Pick1.head ?_; k_extra "k_all") | exact Pick1.tail (by k_ne) (by k_extra "my pick"))
  k_with "my sub" =>
    (first | exact List.forall_mem_nil _ | (refine List.forall_mem_cons.mpr ⟨by k_mem, ?_⟩; k_extra "my sub"))
  k_with "k_room" =>
    ((try simp only [depth_under_make, depth_under_kw, depth_in1, depth_deeper, depth_caller]); (try dsimp only [ktrTop]); omega)
  k_with "my and" =>
    (first | assumption | exact And.intro (by k_ne) (by k_extra "my and") | k_ne)
  k_with "my conj" =>
    (intro l1; (repeat (with_reducible (have O8 := And.left l1; replace l1 := And.right l1))))
  k_with "my off" =>
    ((rename OffL _ _ => O9); (try dsimp only [OffL, Off1, keys, nodeLed, List.map] at O9); revert O9; k_extra "my conj2")
  k_with "CompRest" =>
    (with_unfolding_all first | (refine LCg.CompRest.succ ?_; intro v' I' oI' C' oC' D' m' h' tk' E' hv' hC' hx' F' N' off' ne'; (first | lcg_open hv' | (obtain ⟨t9', hv9'⟩ := hv'; subst hv9')); (try dsimp only [LCg.Off3] at off'); revert off'; k_extra "my conj2"; revert ne'; k_extra "my conj") | refine LCg.CompRest.zero ?_)
  k_with "FinE" =>
    ((unfold LCg.FinE); intro D' h' tk' F' N' o1'; (try dsimp only [LCg.Off1] at o1'); (try dsimp only [List.nil_append, List.cons_append] at N'); (try dsimp only); revert o1'; k_extra "my conj")
  k_with "FinA" =>
    ((unfold LCg.FinA); intro D' h' tk' F' N' o1'; (try dsimp only [LCg.Off1] at o1'); (try dsimp only [List.nil_append, List.cons_append] at N'); (try dsimp only); revert o1'; k_extra "my conj")
  k_with "k_all" =>
    (first | exact List.forall_mem_nil _ | exact Off1.all (by with_reducible assumption) | exact AllLt.ne (by with_reducible assumption) | exact List.forall_mem_cons.mpr ⟨by k_ne, by k_extra "k_all"⟩)
  k_with "my conj2" =>
    (intro l2; (repeat (with_reducible (have l1 := And.left l2; replace l2 := And.right l2; revert l1; k_extra "my conj"))))
  k_with "my same" =>
    (intro z9 hz9; first | rfl | (refine same_step hz9 (by k_mem) ?_; k_extra "my same2") | ((simp only [List.mem_cons, List.not_mem_nil, or_false, not_or] at hz9); first | rfl | (simp only [hz9, if_false, if_neg, over, not_false_eq_true]; done) | (simp [hz9, over]; done)))
  k_with "my same2" =>
    (first | rfl | (refine same_step (by assumption) (by k_mem) ?_; k_extra "my same2"))
  k_with "TurnPost" =>
    (dsimp only [TurnPost])
  k_with "my for" =>
    (k_here; (rename Fr _ _ _ _ => lF'); (with_unfolding_all refine For_turns lF' ?_ (hE := by first | passes_own | assumption); k_whole))
  k_with "execs cons" =>
    (refine wpAny_execs_cons ?_; (try k_fold))
  k_with "room" =>
    (first | exact room2 (by assumption) (by exact rfl) | exact room3 (by assumption) (by exact rfl) | exact room1 (by assumption) (by exact rfl) | exact room0 (by assumption) | exact room4 (by assumption) (by exact rfl))
  k_with "k_room" =>
    (k_extra "room")
  k_with "my in" =>
    (with_reducible first | assumption | (refine List.mem_append_left _ ?_; assumption) | (refine List.mem_append_right _ ?_; k_extra "my in") | (refine List.mem_cons_of_mem _ ?_; k_extra "my in"))
  k_with "my tail" =>
    (intro p9 hp9; k_extra "my in")
  k_with "my subs" =>
    (first | exact List.forall_mem_nil _ | k_extra "my tail" | (refine List.forall_mem_cons.mpr ⟨by k_mem, ?_⟩; k_extra "my subs"))
  k_with "my ne" =>
    (intro l3; (try dsimp only [NeAll, NeL, keys, List.map] at l3); revert l3; k_extra "my conj2")
  k_with "k_all" =>
    (first | (with_reducible assumption) | exact OffFr.all (by with_reducible assumption) (by k_mem) | exact AllLt.ne (by with_reducible assumption))
  k_with "exec For Name List cons nil" =>
    (k_extra "my for")
  k_with "pyIter" =>
    (refine halt ?_)
  k_with "pyIter ref" =>
    (refine halt ?_)
  k_with "eval ListComp" =>
    (k_here; k_dflt (refine comp_eval (by k_asm) (by exact rfl) (by exact rfl) (by decide) ?_))
  k_with "CompGo" =>
    (refine halt ?_)
  k_with "call type:zip" =>
    (refine halt ?_)
  k_with "compareOp NotEq ref ref" =>
    (refine halt ?_)
  k_with "compareOp In str ref" =>
    (k_here; k_dflt (refine in_list_strs (News.isList (by k_asm) (by k_mem)) (by assumption) ?_))
  k_with "subscriptTail Name Constant ref int" =>
    (k_here; k_dflt ((obtain ⟨ti9, tn9, hl9, it9⟩ := row_tup (pre9 _ (news_all (by k_asm) (by k_extra "my tail")))); refine item_tupleT (j := 0) it9 (by decide) (by decide) rfl rfl ?_))
  k_with "subscriptTail Name Constant ref int" =>
    (k_here; k_dflt (refine item_tupleT (j := 1) (isTup_of (News.get (by k_asm) (by k_mem)) ⟨rfl, ⟨_, rfl⟩⟩) (by decide) (by decide) rfl rfl ?_))
  k_with "call ref" =>
    (k_here; (with_reducible show wpAny _ _ (call (Value.ref 75) _) _ _ _); k_dflt (refine use_ctM (referring_p w H pt T _ _ _ (nodes (rows ++ es)) hT pl.ptok pl.outok) (by k_asm) (by k_asm) (by k_asm) (by k_asm) (by k_asm) (by exact rfl) (fun _ h => nomatch h) (fun _ h => h) (fun _ _ _ h => nomatch h) (by exact pre8 _ (news_all (by k_asm) (by k_extra "my tail"))) (by ktr_room) (by ktr_units) ?_); intro v9 fp9 h9 tk9 F9 N9 O9 R9; obtain ⟨Dp, np, lp, e9, f9, hTp⟩ := R9; subst e9; subst f9; (try dsimp only); (try k_fold))
  trivial
theorem law_14 (w : World) : LawAt w 14 (Law12 w) := by
  intro mean mg mb dp un gd ca ccd outer A₀ base h₀ L m nn s Q E B F X N Tt hdp hun hJ hret hpo
  obtain ⟨a, K, R, Tb, P, u, u2, T, n, H, pt, rvs, pvs, rows, es, Z, kv, tk, scr, c1, c2, c3, c4, c5, oT, pl, hT, hZ, hoT, hkv, lo, hP, hpv, off, ne, d1, d2, d3, d4, d5⟩ := hJ
  have pre8 : ∀ h : Heap, (∀ p ∈ Z, h.get? p.1 = some p.2) → Sees w.params H pt h ∧ T.In h := fun h hh => ⟨(hZ h hh).sees, (hZ h hh).dt⟩
  have hlen := All2.length (hZ s.heap (news_all N (by k_extra "my tail"))).rws
  have hz : rvs.length ≤ 2 ^ 20 := by rw [hlen]; exact Nat.le_trans pl.len (by decide)
  have hz2 : pvs.length = rvs.length := by rw [All2.length hpv, List.length_map, hlen]
  have ne2 := ne
  revert ne2
  k_extra "my ne"
  refine wpAny_execs_cons ?_
  try k_fold
  k_steps
  rename Fr _ _ _ _ => F1
  rename News _ _ _ _ => N1
  obtain ⟨l, vs2, rfl, hvs2, N2⟩ := name_list N1
  clear N1
  have hll : ∀ p ∈ (Tb, oT) :: (R, listOf rvs.toArray n) :: (cellsL L c1 c2 c3 c4 c5 ++ Z), p.1 ≠ l := fun p hp => by
    rcases List.mem_cons.mp hp with rfl | hp
    · k_ne
    rcases List.mem_cons.mp hp with rfl | hp
    · k_ne
    · exact AllLt.ne (by assumption) p hp
  refine unhalt (turns_over (l := l) (vs := vs2) (n := 0) [] (fun j _ nn => ∃ c5' cv, c5'.data = .cell cv ∧ nn = (l, listOf vs2.toArray 0) :: (Tb, oT) :: (R, listOf rvs.toArray n) :: (cellsL L c1 c2 c3 c4 c5' ++ Z)) rfl go_name F1 N2 (.head _) ⟨_, _, d5, rfl⟩ (fun j m nn h => by obtain ⟨_, _, _, rfl⟩ := h; exact .head _) ?_ ?_)
  · intro j v I ito h1 tk1 u1 nn1 hv hJ hlt hne F1 N1
    k_fold
    have going : Going := ⟨⟩
    obtain ⟨c5', cv, d5', rfl⟩ := hJ
    obtain ⟨nm, tn, rfl⟩ := hvs2 _ _ hv
    have offI : OffFr ((I, ito) :: (l, listOf vs2.toArray 0) :: (Tb, oT) :: (R, listOf rvs.toArray n) :: cellsL L c1 c2 c3 c4 c5') Z := OffFr.cons (fun p hp => hne p (.tail _ (.tail _ (.tail _ (List.mem_append_right _ hp))))) (OffFr.cons (fun p hp => hll p (.tail _ (.tail _ (List.mem_append_right _ hp)))) (off.rep rfl))
    have hoff := off1_of (l := (l, listOf vs2.toArray 0) :: (Tb, oT) :: (R, listOf rvs.toArray n) :: cellsL L c1 c2 c3 c4 c5') (a := I) fun p hp => by
      rcases List.mem_cons.mp hp with rfl | hp
      · exact hne _ (.head _)
      · exact hne p (.tail _ (by
          rcases List.mem_cons.mp hp with rfl | hp
          · exact .head _
          rcases List.mem_cons.mp hp with rfl | hp
          · exact .tail _ (.head _)
          · exact .tail _ (.tail _ (List.mem_append_left _ hp))))
    have hofl := off1_of (l := (Tb, oT) :: (R, listOf rvs.toArray n) :: cellsL L c1 c2 c3 c4 c5) (a := l) fun p hp => hll p (by
      rcases List.mem_cons.mp hp with rfl | hp
      · exact .head _
      rcases List.mem_cons.mp hp with rfl | hp
      · exact .tail _ (.head _)
      · exact .tail _ (.tail _ (List.mem_append_left _ hp)))
    dsimp only [cellsL, Off1] at hoff hofl
    revert hoff
    k_extra "my conj"
    revert hofl
    k_extra "my conj"
    dsimp only [cellsL, List.cons_append, List.nil_append] at N1 offI
    dsimp only [over] at F1
    k_steps
    rename Obj => o5
    rename o5.data = Data.cell (some (Value.str nm _)) => d7
    obtain ⟨FR, hFR⟩ := name_led N9
    have inZ : ∀ p ∈ Z, p ∈ FR := by rw [hFR]; exact fun p hp => List.mem_append_left _ (by k_extra "my in")
    have mR : (R, listOf rvs.toArray n) ∈ FR := by rw [hFR]; exact List.mem_append_left _ (by k_mem)
    have m5 : (L + 1 + 1 + 1 + 1 + 1, o5) ∈ FR := by rw [hFR]; exact List.mem_append_left _ (by k_mem)
    have mD : (Dp, listOf (nv lp).toArray np) ∈ FR := by rw [hFR]; exact List.mem_append_right _ (.head _)
    have sub : ∀ p ∈ (I, ito) :: (l, listOf vs2.toArray 0) :: (Tb, oT) :: (R, listOf rvs.toArray n) :: (cellsL L c1 c2 c3 c4 o5 ++ Z), p ∈ FR := by rw [hFR]; exact fun p hp => List.mem_append_left _ hp
    rw [← hFR] at N9
    clear hFR O9 offI
    refine unhalt (comp_zip0 (vs := rvs) (us := pvs) (news := FR) (fun i ys => All2 IntV ys (tellers T nm ((rows ++ es).take i))) rfl (by decide) rfl rfl rfl (by decide) hz hz2 F9 N9 (News.isList N9 mR) (News.isList N9 (inZ _ hP)) (N9 _ mR).2.1.symm (N9 _ (inZ _ hP)).2.1.symm .nil ?_ ?_)
    · intro C D i oC m₂ ys h3 tk3 own E' v u' hCD hv1 hu1 hK hC hm1 hm2 off3 F3 N3
      have dn := hZ h3 (news_all N3 fun p hp => List.mem_append_right _ (.tail _ (.tail _ (inZ p hp))))
      obtain ⟨r9, hr9, hrow9⟩ := All2.at dn.rws hv1
      obtain ⟨t, rfl⟩ := row_ref hrow9
      obtain ⟨la, na, ws, rfl, g9, hTw, hzw⟩ := hpv.at2 hu1 (show ((rows ++ es).map (pairsOf T))[i]? = some (pairsOf T r9) by rw [List.getElem?_map, hr9]; rfl)
      clear dn hrow9
      have mC : (C, oC) ∈ own ++ (C, oC) :: (D, LCg.lst ys) :: FR := List.mem_append_right _ (.head _)
      have inF : ∀ p ∈ FR, p ∈ own ++ (C, oC) :: (D, LCg.lst ys) :: FR := fun p hp => List.mem_append_right _ (.tail _ (.tail _ hp))
      generalize own ++ (C, oC) :: (D, LCg.lst ys) :: FR = AL at N3 mC inF ⊢
      have inA : ∀ p ∈ Z, p ∈ AL := fun p hp => inF p (inZ p hp)
      have pre9 : ∀ h : Heap, (∀ p ∈ AL, h.get? p.1 = some p.2) → RowAt (fun a o => h.get? a = some o) (.ref t) r9 := fun h hh => All2.at2 (hZ h fun p hp => hh p (inA p hp)).rws hv1 hr9
      have N5 := news_sub (l' := (C, oC) :: (L + 1 + 1 + 1 + 1 + 1, o5) :: AL) N3 (List.forall_mem_cons.mpr ⟨mC, List.forall_mem_cons.mpr ⟨inF _ m5, fun p hp => hp⟩⟩)
      clear N3 N9 F9
      k_steps
      refine unhalt (comp_map (l := la) (vs := ws) (fun i ys nn => nn = (C, oC) :: (L + 1 + 1 + 1 + 1 + 1, o5) :: AL ∧ StrsAre ys (((pairsOf T r9).take i).map (·.2))) rfl (by decide) rfl rfl (News.isList N5 (.tail _ (.tail _ (inA _ g9)))) (Nat.le_trans hzw (by decide)) F3 N5 (N5 _ (.tail _ (.tail _ (inA _ g9)))).2.1.symm ⟨rfl, .nil⟩ ?_ ?_)
      · intro I5 C5 D5 j5 v5 oC5 m6 ys5 nn5 h5 tk5 own5 E5 hCD5 hv5 hJ5 hC5 hm5 off5 hI5 F5 N6
        obtain ⟨rfl, hs5⟩ := hJ5
        obtain ⟨p5, hp5, t5, ta5, tx5, rfl, ht5⟩ := All2.at hTw hv5
        have N7 := news_sub (l' := (C5, oC5) :: (t5, tupP p5.1 p5.2 ta5 tx5) :: (own5 ++ (C5, oC5) :: (D5, LCg.lst ys5) :: ((C, oC) :: (L + 1 + 1 + 1 + 1 + 1, o5) :: AL))) N6 (List.forall_mem_cons.mpr ⟨List.mem_append_right _ (.head _), List.forall_mem_cons.mpr ⟨List.mem_append_right _ (.tail _ (.tail _ (.tail _ (.tail _ (inA _ ht5))))), fun p hp => hp⟩⟩)
        clear N5 N6
        k_steps
        exact ⟨h5, _, oC5, _, rfl, F5, ⟨_, hC5⟩, news_sub N7 fun p hp => .tail _ (.tail _ hp), off5, rfl, by rw [List.take_add_one, hp5, List.map_append]; exact strs_snoc hs5⟩
      · intro h6 tk6 D6 ys6 nn6 F6 N6 off6 hJ6
        obtain ⟨rfl, hs6⟩ := hJ6
        rw [All2.length hTw, List.take_length] at hs6
        clear N5 F3
        k_steps
        · rename _ = true => hb
          exact ⟨_, _, rfl, F6, news_sub N6 fun p hp => .tail _ (.tail _ (.tail _ hp)), by rw [tell_yes hr9 hb]; exact hK.push ⟨_, rfl⟩⟩
        · rename _ = false => hb
          exact ⟨_, _, rfl, F6, news_sub N6 fun p hp => .tail _ (.tail _ (.tail _ hp)), by rw [tell_no hr9 hb]; exact hK⟩
    · intro h4 tk4 D4 ys4 F4 N4 off4 hK4
      k_steps
      rw [hlen, List.take_length] at hK4
      rw [tell_eq fun r hr => refs_row (pl.gr.row r hr)] at hTp
      have hn4 := nv_ints lp
      rw [hTp] at hn4
      refine unhalt (ne_lists (News.isList N4 (.tail _ mD)) (News.isList N4 (.head _)) hn4 hK4 (fun v v' x r r' => int_eq r r') (by ktr_units) ?_)
      k_steps
      exact TurnEnd.intro F4 N4 (.tail _ (sub _ (.head _))) (fun p hp => .tail _ (sub p (.tail _ hp))) (ne_rep hne rfl) ⟨fun _ _ => rfl, o5, _, d7, rfl⟩
  · intro u1 nn1 h1 tk1 hJ F1 N1
    obtain ⟨c5', cv, d5', rfl⟩ := hJ
    dsimp only [over] at F1
    have going : Going := ⟨⟩
    k_steps
    exact hret _ _ _ _ F1 N1
end

/-- the law, statement by statement -/
theorem law_all : PySem.Challenge.rw_on0192_01.Holds :=
  law_top fun w => law_03 w (law_34 w (law_45 w (law_56 w (law_67 w (law_78 w (law_89 w (law_910 w (law_1011 w (law_1112 w (law_1213 w (law_1314 w (law_14 w))))))))))))
end Mine
theorem PySem.Challenge.cw_on0192_01_holds : PySem.Challenge.rw_on0192_01.Holds :=
  Mine.law_all
namespace Mine

end Mine
