import PyProof.Rows.All
import Wide.All
import OpenK.AllK
import Wide.FinOn
import Lean
import PySem.Challenge.RW_nu0180_01
set_option Elab.async false
set_option maxRecDepth 100000
set_option maxHeartbeats 4000000
set_option compiler.extract_closed false
set_option linter.all false
set_option genSizeOf false
set_option genInjectivity false
namespace Mine
local macro_rules | `(tactic| omega) => `(tactic| ((fail_if_success fail_if_success omega (splitDisjunctions := true)); first | lia | omega (splitDisjunctions := true)))

section
set_option tactic.hygienic false
open PySem PySem.W PyProof.Rows PySem.Calls PySem.Spec
theorem hideG {G : Prop} (k : ∀ P : Prop, (G -> P) -> P) : G := k G id
noncomputable def Γ0 : PySem.Ctx := ⟨.builtin "claim.caller" {}, none, none, [], none⟩
noncomputable def wp0 {α : Type} (M : Model) (t : Sem α) (Q : α -> Shared -> Prop) (E : Value -> Shared -> Prop) (s : Shared) : Prop :=
 ∀ p, Sem.wp M Γ0 t (fun a _ s' => Q a s') (fun e _ s' => E e s') p s
section
variable {α β : Type} {M : Model} {E : Value -> Shared -> Prop} {s : Shared}
theorem wp0_mono {t : Sem α} {Q Q' : α -> Shared -> Prop} {E' : Value -> Shared -> Prop} (h : wp0 M t Q E s) (hQ : ∀ a s, Q a s -> Q' a s) (hE : ∀ e s, E e s -> E' e s) : wp0 M t Q' E' s :=
 fun p => Sem.wp_mono M Γ0 t (fun a _ s => hQ a s) (fun e _ s => hE e s) p s (h p)
theorem wp0_bind {m : Sem α} {f : α -> Sem β} {Q : β -> Shared -> Prop} (h : wp0 M m (fun a s' => wp0 M (f a) Q E s') E s) : wp0 M (m >>= f) Q E s := fun p => by
 rw [Sem.wp_bind']
 exact Sem.wp_mono M Γ0 m (fun a p' s' h' => h' p') (fun _ _ _ h' => h') p s (h p)
theorem wp0_any {t : Sem α} {Q : α -> Shared -> Prop} (h : wpAny M callerA t Q E s) : wp0 M t Q E s := fun p => h Γ0 p caller_in
end
theorem ends0 {prog : Program} {w : World} {t : Sem Fin} {s : Shared} {R : Result -> Shared -> Prop} (hreg : s.asleep)
  (h : wp0 (model prog w) t (fun fin s' => ∃ f, fin = .done f /\ (R (.ok f) s' /\ leftWithCleanup s'.gens = false)) (fun e s' => R (.error e) s' /\ leftWithCleanup s'.gens = false) s) :
  ∃ n r s' s'', runN (denote table) prog w n s ⟨t, .builtin "claim.caller" {}, default, []⟩ = .halted (outcomeOf r) s' /\
   schedN (denote table) prog w n (.single s ⟨t, .builtin "claim.caller" {}, default, []⟩) = .halted (outcomeOf r) s' /\ s'.forget = s''.forget /\ R r s'' := by
 have z : Sem.wp (model prog w) Γ0 t (Sem.finPost (model prog w) Γ0 (fun r s' => R r s' /\ leftWithCleanup s'.gens = false)) (fun e _ s' => R (.error e) s' /\ leftWithCleanup s'.gens = false) default s := by
  refine Sem.wp_mono _ Γ0 t (fun fin p' s' h' => ?_) (fun _ _ _ h' => h') default s (h default)
  obtain ⟨f, rfl, hf⟩ := h'
  exact hf
 refine hideG ?_; intro PG9 hG9
 obtain ⟨n, r, s₁, s₂, hs, hn, hfo, hR⟩ := wp_halts_full (M := model prog w) (R := R) hreg z
 refine hG9 ?_; clear hG9 PG9
 exact ⟨n, r, s₂, s₁, hn, hs, hfo, hR⟩
theorem from0 {c : ClaimW} {tree : List Value -> Sem Fin} {w : World} {s : Shared} {free : Addr -> Prop} {gens : Prop} {kept : Heap -> Prop} (hz : s.asleep) (hgens : s.gens = #[])
  (hspec : ∀ args, c.pre args = true -> WData.layableAll args = true ->
   ∀ ord : List DictEntry -> List DictEntry, (∀ l, (ord l).Perm l) ->
   ∃ vs s₁, layAllW c.records (classAt s.heap) w.params ord args s = some (vs, s₁) /\
    wp0 (model c.prog w) (tree vs) (fun fin s' => ∃ f, fin = .done f /\ (c.Ends s args vs s₁ (.ok f) s' /\ s'.os = s.os /\ AllBare s'.gens /\ kept s'.heap))
     (fun e s' => c.Ends s args vs s₁ (.error e) s' /\ s'.os = s.os /\ AllBare s'.gens /\ kept s'.heap) s₁) :
  c.CallFrom (fun vs => ⟨tree vs, .builtin "claim.caller" {}, default, []⟩) w free gens kept s := by
 intro args hpre hlay ord hord
 refine hideG ?_; intro PG9 hG9
 obtain ⟨vs, s₁, hlaid, hcode⟩ := hspec args hpre hlay ord hord
 refine hG9 ?_; clear hG9 PG9
 have hal := layAllW_rest _ _ _ hlaid
 refine hideG ?_
 intro PG0 hG0
 obtain ⟨k, r, s', s'', hrun, hsched, hfo, hcase, hos, hkp⟩ := ends0 (prog := c.prog) (w := w) (t := tree vs) (s := s₁)
  (R := fun r s' => c.Ends s args vs s₁ r s' /\ s'.os = s.os /\ kept s'.heap)
  (Shared.asleep_of_life hal.2.2.2 hz)
  (wp0_mono hcode (by
   intro fin s' hz29
   refine hideG ?_; intro PG9 hG9
   obtain ⟨f, e, h1, h2, h3, h4⟩ := hz29
   refine hG9 ?_; clear hG9 PG9
   exact ⟨f, e, ⟨h1, h2, h4⟩, leftWithCleanup_false_of_bare h3⟩) (by
   intro e s' hz29
   refine hideG ?_; intro PG9 hG9
   obtain ⟨h1, h2, h3, h4⟩ := hz29
   refine hG9 ?_; clear hG9 PG9
   exact ⟨⟨h1, h2, h4⟩, leftWithCleanup_false_of_bare h3⟩))
 refine hideG ?_; intro PG9 hG9
 obtain ⟨eh, _, _, eo, _⟩ := Shared.forget_eq hfo
 refine hG9 ?_; clear hG9 PG9
 have hcase := hcase.congr eh
 have hkp : kept s'.heap := by first | exact eh ▸ hkp | (rw [eh] at hkp; exact hkp) | (rw [<- eh] at hkp; exact hkp)
 rw [<- eo] at hos
 have hlife : s'.heap.life = s.heap.life := (runN_life _ _ _ hrun).trans hal.2.2.2
 refine hG0 ⟨vs, s₁, hlaid, k, _, s', hsched, ?_, (fun _ i x hx => by rw [hgens] at hx; simp at hx), hkp, by rw [hlife], Shared.rest_eq hos⟩
 refine hideG ?_
 intro PG hG
 rcases hcase with ⟨v, e9, d1, d2, d3, d4, d5⟩ | ⟨e, ob, cls, e9, d1, d2, d3, d4, d5⟩
 ·exact hG (.inl ⟨v, by rw [e9]; rfl, d1, d2, d3, fun b o y _ => d4 b o y, d5⟩)
 ·exact hG (.inr ⟨e, ob, cls, by rw [e9]; rfl, d1, d2, d3, d4, fun b o y _ => d5 b o y⟩)
theorem any0 {r : RowW} {run : Value -> List Value -> Sem Value} {tree : List Value -> Sem Fin} {q : Program} {loose defs kps : List Str} {writes : Bool} {Xt : Shared -> Bool} {XP : (Str -> Option Value) -> Heap -> Prop} {α : Type} {Yf : Shared -> α} {Ya : World -> α} {YP : World -> Heap -> Prop} {N : Nat}
  (left : LeftO r.prog q loose Xt Yf Ya N) (hY : ∀ w s, Yf s = Ya w -> YP w s.heap) (hYk : ∀ w h h', YP w h -> (∀ b o, h.get? b = some o -> h'.get? b = some o) -> YP w h') (hX : ∀ s, Xt s = true -> XP (s.heap.nsMap mainGlobals) s.heap) (hXk : ∀ mg h h', XP mg h -> (∀ b o, h.get? b = some o -> h'.get? b = some o) -> XP mg h')
  (hRf : ∀ s, Xt s = true -> RecFacts r.records s.heap) (hwr : (!writes || r.records.isEmpty) = true) (ok : (chainsOk q && opensWell r.prog && (frees r && r.within.isEmpty)) = true) (hb : r.prog.bare) (hw : r.promised)
  (ht : ∀ vs (w : World) (s : Shared) mg f (Q : Fin -> Shared -> Prop) (E : Value -> Shared -> Prop), s.heap.Ns mainGlobals mg -> mg r.name = some f -> wp0 (model r.prog w) (run f vs) (fun v s' => Q (.done (.ret v)) s') E s -> wp0 (model r.prog w) (tree vs) Q E s)
  (pin : ∀ w s, s.heap.isNs mainGlobals = true -> Ground q loose [] XP w s (s.heap.nsMap mainGlobals) (s.heap.nsMap builtinsNs) s.heap -> ∀ n ∈ defs, isTheDefsW r.prog s.heap n)
  (call : ∀ (w : World) (s₀ s₁ : Shared) (mg mb : Str -> Option Value), Ground q loose r.records XP w s₀ mg mb s₁.heap -> YP w s₁.heap -> ∀ (args : List WData) (vs : List Value) (as : List Addr),
   r.claim.pre args = true -> WData.layableAll args = true -> Laid r.records w s₀ s₁ args vs as -> sysModules < s₀.heap.objs.size -> ∃ f, mg r.name = some f /\
    wp0 (model r.prog w) (run f vs) (fun v s' => GoodWG r.claim (classAt s₀.heap) (ExcName.means s₀.heap) args s₁ (.ok (.ret v)) s')
     (fun e s' => GoodWG r.claim (classAt s₀.heap) (ExcName.means s₀.heap) args s₁ (.error e) s') s₁) : r.claim.HoldsOpenBy (fun vs => ⟨tree vs, .builtin "claim.caller" {}, default, []⟩) defs kps writes := by
 obtain ⟨ok, k5⟩ := Bool.and_eq_true_iff.mp ok
 obtain ⟨hch, o1⟩ := Bool.and_eq_true_iff.mp ok
 obtain ⟨k5, k6⟩ := Bool.and_eq_true_iff.mp k5
 refine hideG ?_; intro PG9 hG9
 obtain ⟨hsame, hu, ha, hap, hm⟩ := frees_parts k5
 refine hG9 ?_; clear hG9 PG9
 refine ⟨⟨hb, o1, by show r.makers.map _ = []; rw [hm]; rfl⟩, hw.witness, fun w => ⟨(left.behind hX hch w).1, fun s' hs' => ?_⟩⟩
 refine hideG ?_; intro PG9 hG9
 obtain ⟨s₀, hf, hg0, s, hT, hz, hgens, hg, G00, y⟩ := (left.behind (XP := fun mg h => XP mg h /\ RecFacts r.records h) (fun s hs => ⟨hX s hs, hRf s hs⟩) hch w).2 s' hs'
 refine hG9 ?_; clear hG9 PG9
 have G0 : Ground q loose [] XP w s (s.heap.nsMap mainGlobals) (s.heap.nsMap builtinsNs) s.heap := ⟨G00.T, G00.B, G00.D, G00.TE, G00.TD, G00.W, G00.X.1, G00.cls, G00.has, G00.apart, G00.once, G00.K⟩
 have RF := G00.X.2
 have hT' := hT
 refine ⟨s₀, hf, hg0, s, hT, pin w s hg G0, RF.1, RF.2.1, ?_⟩
 have hgens : s.gens = #[] := Array.eq_empty_of_size_eq_zero (beq_iff_eq.mp hgens)
 have G : Ground q loose r.records XP w s _ _ s.heap := RF.ground G0
 refine from0 (c := r.claim) hz hgens fun args hpre hlay ord hord => ?_
 obtain ⟨⟨vs, s₁⟩, hlaid⟩ := Option.isSome_iff_exists.mp (layAllW_isSome (P := w.params) (ord := ord) G.has args r.args s (pre_splitW hpre).1)
 have keeps := layAllW_keeps _ _ _ hlaid
 have hal := layAllW_rest _ _ _ hlaid
 refine hideG ?_; intro PG9 hG9
 obtain ⟨as, hrd, hin, hold⟩ := reads_layAllW hord _ _ _ hlaid hlay s₁.heap (fun _ _ e => e)
 refine hG9 ?_; clear hG9 PG9
 have L : Laid r.records w s s₁ args vs as := ⟨⟨ord, hord, hlaid⟩, hrd, hin, hold, keeps, hal.1.trans hgens, hal.2.2.1⟩
 have G₁ := G.keeps hXk keeps
 obtain ⟨f, hf, h⟩ := call w s s₁ _ _ G₁ (hYk _ _ _ (hY w s y) keeps) args vs as hpre hlay L G.low
 have hi := ident_freeW hu ha hap
 have hwi : r.claim.within = [] := List.isEmpty_iff.mp k6
 exact ⟨vs, s₁, hlaid, ht vs w s₁ _ f _ _ G₁.T.g hf (wp0_mono h (fun v s' g => ⟨_, rfl, have z := g.laid (c := r.claim) hsame hwi hi L; ⟨z.1, z.2.1, z.2.2, fun q => ⟨namesKept_of hT' hg kps keeps g.2.1.old, noTable hwr q⟩⟩⟩) fun e s' g => have z := g.laid (c := r.claim) hsame hwi hi L; ⟨z.1, z.2.1, z.2.2, fun q => ⟨namesKept_of hT' hg kps keeps g.2.1.old, noTable hwr q⟩⟩)⟩
noncomputable abbrev Walk0 (q : Program) (loose : List Str) (XP : (Str -> Option Value) -> Heap -> Prop) (YP : World -> Heap -> Prop) (r : RowW) (d : DefRec) (kwd : List (Str × Expr)) (run : Value -> List Value -> Sem Value) : Prop :=
 ∀ (w : World) (s₀ s₁ : Shared) (mg mb : Str -> Option Value), Ground q loose r.records XP w s₀ mg mb s₁.heap -> YP w s₁.heap -> ∀ (a : Addr) (o : Obj) (pm cd doc dV kV : Value), s₁.heap.get? a = some o ->
  o.data = .func { docDef d.name d.params d.body d.scope pm cd doc with defaults := dV, kwdefaults := kV } -> s₁.heap.CodeRec cd d.name -> Dflts mg s₁.heap d.params kwd dV kV -> mg d.name = some (.ref a) -> s₁.gens = #[] ->
  ∀ (args : List WData) (vals : List Value) (as : List Addr), r.claim.pre args = true -> WData.layableAll args = true -> ReadsAllW r.records (classAt s₀.heap) s₁.heap vals args as -> WellAll w.params s₁.heap vals args -> (∀ a ∈ as, (a == sysModules) = false) ->
   wp0 (model r.prog w) (run (.ref a) vals) (fun v s' => GoodWG r.claim (classAt s₀.heap) (ExcName.means s₀.heap) args s₁ (.ok (.ret v)) s')
    (fun e s' => GoodWG r.claim (classAt s₀.heap) (ExcName.means s₀.heap) args s₁ (.error e) s') s₁
theorem holds_open0 {r : OpenRow} {q : Program} {loose : List Str} {Xt : Shared -> Bool} {XP : (Str -> Option Value) -> Heap -> Prop} {α : Type} {Yf : Shared -> α} {Ya : World -> α} {YP : World -> Heap -> Prop} {d : DefRec} {kwd : List (Str × Expr)} {N : Nat}
  (left : LeftO r.prog q loose Xt Yf Ya N) (hY : ∀ w s, Yf s = Ya w -> YP w s.heap) (hYk : ∀ w h h', YP w h -> (∀ b o, h.get? b = some o -> h'.get? b = some o) -> YP w h')
  (hX : ∀ s, Xt s = true -> XP (s.heap.nsMap mainGlobals) s.heap) (hXk : ∀ mg h h', XP mg h -> (∀ b o, h.get? b = some o -> h'.get? b = some o) -> XP mg h')
  (hdef : defOf q r.name = some (d, kwd)) (hp : r.prog.theDef r.name = some (d.params, d.body, d.scope)) (hk : kwWritten? d.params.kwonlyargs d.params.kw_defaults = some kwd) (hRf : ∀ s, Xt s = true -> RecFacts r.records s.heap) (hwr : (!r.writes || r.records.isEmpty) = true)
  (k1 : r.wellSaid = true) (ok : (chainsOk q && opensWell r.prog && (frees r.toRowW && r.within.isEmpty)) = true) (hb : r.prog.bare) (hw : r.toRowW.promised)
  (call : Walk0 q loose XP YP r.toRowW d kwd fun f vs => PySem.call f vs) : r.Holds := by
 refine ⟨k1, hw, any0 (r := r.toRowW) (run := fun f vs => PySem.call f vs) (tree := fun vs => do match <- nsGet mainNs r.name with
   | some f => do ret (<- PySem.call f vs)
   | none => unsupported "claim.caller:no-such-global") left hY hYk hX hXk hRf hwr ok hb hw
  (fun vs w s mg f Q E hg hf h => wp0_bind (wp0_any (wpAny_nsGet hg (by rw [hf]; exact wp0_bind (wp0_mono h (fun _ _ x => wp0_any (wpAny_pure x)) fun _ _ x => x)))))
  (fun w s hg G n hn => ?_) fun w s₀ s₁ mg mb G Y args vs as hpre hlay L low => ?_⟩
 ·obtain rfl : n = r.name := by split at hn <;> simp_all
  exact pinned_of_view hg G hdef hp hk
 ·refine hideG ?_; intro PG9 hG9
  obtain ⟨a, o, pm, cd, doc, dV, kV, h1, h2, h3, h4, h5⟩ := G.fn hdef
  refine hG9 ?_; clear hG9 PG9
  exact ⟨.ref a, h1, call w s₀ s₁ mg mb G Y a o pm cd doc dV kV h2 h3 h4 h5 (defOf_name hdef ▸ h1) L.gens args vs as hpre hlay L.reads L.well (L.low low)⟩
end
section
open PySem PySem.W PyProof.Rows
set_option maxHeartbeats 0
noncomputable def stF (p : Program) (w : World) := Fast.tw10156331382660048174 (Fast.tw11892475500146522536 Fast.tw14364793385576792824) p w
theorem stF_eq {p : Program} {w : World} : stepT (denote treeTable) p w = stF p w := by
 rw [Fast.te10156331382660048174, Fast.te11892475500146522536, Fast.te14364793385576792824]; rfl
noncomputable def topT (ok : Thread -> Bool) (st : SharedT -> Thread -> Option (SharedT × Thread)) : Nat -> SharedT -> Thread -> Option SharedT
 | 0, _, _ => none
 | n + 1, s, t => cond (through t) (some s) (cond (ok t) ((st s t).bind fun x => topT ok st n x.1 x.2) none)
theorem topT_run {p : Program} {w : World} {n₀ : Nat} {ann : Option Value} : ∀ {n : Nat} {s s' : SharedT} {t : Thread}, topT (Fast.tw6613529449190102663 n₀ ann) (stF p w) n s t = some s' -> topRun treeTable p w n₀ ann n s.abs t = some s'.abs
 | 0, _, _, _, h => by cases h
 | n + 1, s, s', t, h => by
  have h : cond (through t) (some s) (cond (Fast.tw6613529449190102663 n₀ ann t) ((stF p w s t).bind fun x => topT (Fast.tw6613529449190102663 n₀ ann) (stF p w) n x.1 x.2) none) = some s' := h
  unfold topRun
  cases ht : through t with
  | true => rw [ht] at h; cases h; rfl
  | false =>
   rw [ht, <- congrFun (congrFun (congrFun Fast.te6613529449190102663 n₀) ann) t] at h
   cases hk : stepOk n₀ ann t with
   | false => rw [hk] at h; cases h
   | true =>
    rw [hk, <- stF_eq] at h
    cases hs : stepT (denote treeTable) p w s t with
    | none => rw [hs] at h; cases h
    | some r => rw [hs] at h; rw [stepT_spec hs]; exact topT_run (n := n) (by rw [<- stF_eq]; exact h)
noncomputable def t0 (P : Params) : BT := ((((((((((BT.nil.ins 0 (boot_o_0 P)).ins 1 (boot_o_1 P)).ins 2 (boot_o_2 P)).ins 3 (boot_o_3 P)).ins 4 (boot_o_4 P)).ins 5 (boot_o_5 P)).ins 6 (boot_o_6 P)).ins 7 (boot_o_7 P)).ins 8 (boot_o_8 P)).ins 9 (boot_o_9 P)).ins 10 (boot_o_10 P)
noncomputable def s0 (w : World) (os : OsState) : SharedT := ⟨t0 w.params, 11, {}, #[], boot_drawn, boot_toks, os⟩
theorem s0_abs (w : World) (os : OsState) : (s0 w os).abs = ⟨boot_heap w.params, #[], boot_drawn, boot_toks, os⟩ := by
 have h : (absHeap (t0 w.params) 11 {}) = boot_heap w.params := by kernel_rfl
 show Shared.mk (absHeap (t0 w.params) 11 {}) _ _ _ _ = _
 rw [h]; rfl
noncomputable def getT (s : SharedT) (a : Addr) : Option Obj := cond (Nat.blt a s.n) ((s.tree.get a).bind alive) none
theorem getT_ok {s : SharedT} {a : Addr} {o : Obj} (h : getT s a = some o) : s.abs.heap.get? a = some o := by
 unfold getT at h
 cases hn : Nat.blt a s.n with
 | false => rw [hn] at h; cases h
 | true =>
  rw [hn] at h
  obtain ⟨o', e, h⟩ := Option.bind_eq_some_iff.mp h
  exact (abs_get (Nat.le_of_ble_eq_true hn) e).trans h
theorem getsT {s : SharedT} : ∀ {as : List Addr} {l : List Obj}, as.map (getT s) = l.map some -> as.map s.abs.heap.get? = l.map some
 | [], l, h => h
 | a :: as, [], h => by cases h
 | a :: as, o :: l, h => by
  obtain ⟨h1, h2⟩ := List.cons.inj h
  exact congr (congrArg List.cons (getT_ok h1)) (getsT h2)
theorem obsT {K : Params -> Frag} {as ts : List Addr} {e : ∀ P, as = (K P).map (·.1)} {s : SharedT} {w : World} (h : (as.map (getT s), ts.map (getT s)) = (kmHook K as e ts).val w) :
  (kmHook K as e ts).obs s.abs = (kmHook K as e ts).val w := by
 obtain ⟨h1, h2⟩ := Prod.mk.inj h
 have e1 : ((K w.params).map fun p => some p.2) = ((K w.params).map (·.2)).map some := by rw [List.map_map]; rfl
 have e2 : (ts.map fun _ => some (tabObj #[])) = (ts.map fun _ => tabObj #[]).map some := by rw [List.map_map]; rfl
 exact Prod.ext ((getsT (h1.trans e1)).trans e1.symm) ((getsT (h2.trans e2)).trans e2.symm)
theorem left_run {p q : Program} {loose : List Str} {Xt : Shared -> Bool} {α : Type} {Yf : Shared -> α} {Ya : World -> α} {Yt : SharedT -> α} {N M : Nat} {g0 : Bool}
  (hY : ∀ s w, Yt s = Ya w -> Yf s.abs = Ya w)
  (e : opening p = plainProg p.main.scope.names) (hN : Nat.ble 600 N = true) (f : ∀ s, fenceModules? p s = some s) (le : Nat.ble M N = true)
  (run : ∀ (w : World) (os : OsState), (topT (Fast.tw6613529449190102663 11 (some (.ref 6))) (stF p w) M (s0 w os) (topStub p)).map (fun s =>
   ((staticsOk (importedModules p.main.body) (boot_heap w.params) s.abs.heap && namesBound p s.abs.heap && gensDone s.abs && laidKept (boot_heap w.params) s.abs.heap),
    Fast.tw4187177175401517315 q loose (importedModules p.main.body) Xt g0 s.abs, Yt s)) = some (true, openGood q loose, Ya w)) : LeftO p q loose Xt Yf Ya N g0 := fun w => by
 obtain ⟨s₀, hs, hv⟩ := Option.map_eq_some_iff.mp (boot_open e hN f w)
 refine hideG ?_; intro PG9 hG9
 obtain ⟨h, gs, d, k, os⟩ := s₀
 refine hG9 ?_; clear hG9 PG9
 obtain ⟨rfl, rfl, rfl, rfl⟩ : h = boot_heap w.params /\ gs = #[] /\ d = boot_drawn /\ k = boot_toks := by simpa using hv
 obtain ⟨s₁, h1, h2⟩ := Option.map_eq_some_iff.mp (run w os)
 obtain ⟨l1, l2, l3⟩ : _ /\ _ /\ _ := by simpa only [Prod.mk.injEq] using h2
 have r := topRun_mono (N - M) _ _ _ _ (topT_run h1)
 rw [show M + (N - M) = N by have := Nat.le_of_ble_eq_true le; omega, s0_abs] at r
 have z1 : ((boot_heap w.params).isNs mainGlobals && (#[] : Array GenState).size == 0) = true := by kernel_rfl
 have z2 : (boot_heap w.params).objs.size = 11 := by kernel_rfl
 have z3 : (boot_heap w.params).nsMap mainGlobals "__annotations__" = some (.ref 6) := by kernel_rfl
 have t : topFrom treeTable p w N ⟨boot_heap w.params, #[], boot_drawn, boot_toks, os⟩ = some s₁.abs := by
  unfold topFrom
  dsimp only
  rw [z1, z2, z3, r]
  show (match staticsOk (importedModules p.main.body) (boot_heap w.params) s₁.abs.heap && namesBound p s₁.abs.heap && gensDone s₁.abs && laidKept (boot_heap w.params) s₁.abs.heap with | true => _ | false => _) = _
  rw [l1]
 unfold openEnds
 rw [hs]
 show (topFrom treeTable p w N _).map _ = _
 rw [t]
 exact congrArg some (Prod.ext ((congrFun (congrFun (congrFun (congrFun (congrFun (congrFun Fast.te4187177175401517315 _) _) _) _) _) _).trans l2) (hY _ _ l3))
noncomputable def vw : Program := PySem.W.view PySem.Challenge.pw_nu0180_01 [42]
noncomputable def lo : List Str := (["_wall", "ShapeError", "TableFault", "MOST_OFFSET", "check_room", "number_at", "signed", "OctetsIn", "number_octets", "OctetsOut", "laid", "MOST_CLASSES", "Anchor", "told_anchor", "difference", "read_anchor", "write_anchor", "written"] : List Str) ++ (["anchor_behind", "read_marks", "write_marks", "told_marks", "class_count", "read_anchor_rows", "write_anchor_rows", "told_rows", "Coverage", "coverage_of", "_law_draw", "_law_source", "_law_number", "_law_u16", "_law_anchor", "_law_marks", "_law_rows", "_law_caught", "_law_laid"] : List Str)
theorem lawSaid : PySem.Challenge.rw_nu0180_01.wellSaid = true := by
 delta PySem.W.OpenLaw.wellSaid
 repeat' (first | with_reducible refine PySem.W.look_both ?_ ?_ | (delta PySem.W.OpenRow.wellSaid) | (delta PySem.W.OpenRow.partSaid) | (delta PySem.W.looksOpen))
 all_goals (try rw [Fast.te17119622794617984870])
 all_goals (try rw [Fast.te17868728402115742887])
 all_goals (try rw [Fast.named_eq])
 all_goals (try rw [Fast.te8326940854005059898])
 all_goals (try rw [Fast.te13343964577679436407])
 all_goals (try rw [Fast.te8377067652309620493])
 all_goals (try rw [Fast.te8179353310426384613])
 all_goals (try rw [Fast.te797321630700447069])
 all_goals (try rw [Fast.te16286561074155671207])
 all_goals (try rw [Fast.te6984425678791042302])
 all_goals (try rw [Fast.sDec_eq])
 all_goals decide +kernel
theorem head0 (H : Hook) {d : DefRec} {kwd : List (Str × Expr)} (hl : LeftO PySem.Challenge.rw_nu0180_01.row.prog vw lo (fun s => xlAt vw [] s && recOk (RowW.records (OpenRow.toRowW PySem.Challenge.rw_nu0180_01.row)) s) (Hook.obs H) (Hook.val H) 6400)
  (a1 : defOf vw PySem.Challenge.rw_nu0180_01.row.name = some (d, kwd)) (a2 : PySem.Challenge.rw_nu0180_01.row.prog.theDef PySem.Challenge.rw_nu0180_01.row.name = some (d.params, d.body, d.scope)) (a3 : kwWritten? d.params.kwonlyargs d.params.kw_defaults = some kwd) (a4 : PySem.Challenge.rw_nu0180_01.row.wellSaid = true)
  (hw : PySem.Challenge.rw_nu0180_01.row.promised) (hc : Walk0 vw lo (XL vw []) (Hook.says H) PySem.Challenge.rw_nu0180_01.row.toRowW d kwd fun f vs => call f vs) : PySem.Challenge.rw_nu0180_01.row.Holds :=
 holds_open0 hl (Hook.of H) (Hook.keeps H) (fun s e => xl_of s (Bool.and_eq_true_iff.mp e).1) XL.keeps a1 a2 a3 (fun s e => recFacts_of (Bool.and_eq_true_iff.mp e).2) (by rfl) a4 (by decide +kernel) ⟨rfl, rfl, rfl, rfl, rfl, by decide +kernel⟩ hw hc
local macro_rules | `(tactic| o_head $H) => `(tactic| apply head0 $H)
noncomputable def hd : {T : Prop // T -> PySem.Challenge.rw_nu0180_01.Holds} := by
 refine' Subtype.mk _ ?_
 rotate_left
 intro h
 w_on
 refine holds_law lawSaid fun said => ?_
 k_head
 case hl => exact left_run (M := 3200) (fun s w => obsT) (by kernel_rfl) (by decide) (fun s => by kernel_rfl) (by decide) (fun w os => by kernel_rfl)
 case hw => w_witness2
 case a1 => rfl
 case a2 => rfl
 case a3 => rfl
 case a4 => assumption
 exact h
end
section
set_option tactic.hygienic false
open PySem PySem.W PyProof.Rows PySem.Calls PySem.Spec
def rA : Lean.Syntax := (Lean.Unhygienic.run `(Lean.Parser.Tactic.tacticSeq| intros; rfl)).raw
theorem reg : (PySem.Challenge.rw_nu0180_01, Mine.hd.heap_1) = (PySem.Challenge.rw_nu0180_01, Mine.hd.heap_1) := by k_fill; rfl
noncomputable def LO : List Str := lo ++ [("law" : Str)]
structure Gd (w : World) (mean : ExcName -> Option Value) (mg mb : Str -> Option Value) (base : Heap) : Prop where
 kin : (hd.heap_1 w.params).In base
 top : Top topProg LO mean mg mb base
noncomputable def Kn (base : Heap) (outer : List Env) (h : Heap) (kn : List (Addr × Obj)) : Prop :=
 ∀ p ∈ kn, h.get? p.1 = some p.2 /\ base.get? p.1 = none /\ p.1 ∉ outer.filterMap (·.frame)
structure Kp (S : List Addr) (h h' : Heap) : Prop where
 kp : ∀ b o, h.get? b = some o -> b ∉ S -> h'.get? b = some o
 ex : ∀ b o, h.get? b = some o -> ∃ o', h'.get? b = some o'
theorem Kp.trans {S : List Addr} {h h' h'' : Heap} (x : Kp S h h') (y : Kp S h' h'') : Kp S h h'' := ⟨fun b o e n => y.kp b o (x.kp b o e n) n, fun b o e => let ⟨o', e'⟩ := x.ex b o e; y.ex b o' e'⟩
theorem Kp.mono {S S' : List Addr} {h h' : Heap} (x : Kp S h h') (hs : ∀ a ∈ S, a ∈ S' \/ h.get? a = none) : Kp S' h h' := ⟨fun b o e n => x.kp b o e fun q => (hs b q).elim n fun z => (by rw [z] at e; cases e), x.ex⟩
theorem Kp.all {h h' : Heap} (x : Kp [] h h') : ∀ b o, h.get? b = some o -> h'.get? b = some o := fun b o e => x.kp b o e (by simp)
theorem Kp.of {h h' : Heap} {S : List Addr} (x : ∀ b o, h.get? b = some o -> h'.get? b = some o) : Kp S h h' := ⟨fun b o e _ => x b o e, fun b o e => ⟨o, x b o e⟩⟩
theorem Kp.fresh {S : List Addr} {h h' : Heap} (x : Kp S h h') {a : Addr} (e : h'.get? a = none) : h.get? a = none := by
 cases q : h.get? a with
 | none => rfl
 | some o => obtain ⟨o', e'⟩ := x.ex a o q; rw [e] at e'; cases e'
theorem Kn.nil {base : Heap} {outer : List Env} {h : Heap} : Kn base outer h [] := fun _ hp => nomatch hp
section
variable {base g h h' : Heap} {outer : List Env} {A : Around} {L : Addr} {m m' : Str -> Option Value} {news kn : List (Addr × Obj)} {S : List Addr}
theorem funFrames_hide' {base h : Heap} {as : List Addr} : ∀ {l : List Env}, h.FunFrames base l -> (∀ a ∈ as, a ∉ l.filterMap (·.frame)) -> (hideAll h as).FunFrames base l
 | [], _, _ => trivial
 | env :: l, ⟨hk, ⟨L, o, hf, hn, ho, hd⟩, hr⟩, hne => by
  refine ⟨hk, ⟨L, o, hf, hn, hideAll_get _ ho fun q => hne L q ?_, hd⟩, funFrames_hide' hr fun a ha q => hne a ha ?_⟩
  ·rw [List.filterMap_cons, hf]; exact .head _
  ·rw [List.filterMap_cons]; split
   ·exact q
   ·exact .tail _ q
theorem frames_kp {base h h' : Heap} {S : List Addr} (k : Kp S h h') : ∀ {l : List Env}, h.FunFrames base l -> (∀ a ∈ S, a ∉ l.filterMap (·.frame)) -> h'.FunFrames base l
 | [], _, _ => trivial
 | env :: l, ⟨hk, ⟨L, o, hf, hn, ho, hd⟩, hr⟩, hne => by
  refine ⟨hk, ⟨L, o, hf, hn, k.kp _ _ ho fun q => hne L q ?_, hd⟩, frames_kp k hr fun a ha q => hne a ha ?_⟩
  ·rw [List.filterMap_cons, hf]; exact .head _
  ·rw [List.filterMap_cons]; split
   ·exact q
   ·exact .tail _ q
theorem below_kp (B : Below A base outer h) (k : Kp S h h') (h1 : ∀ a ∈ S, base.get? a = none) (h2 : ∀ a ∈ S, a ∉ outer.filterMap (·.frame)) : Below A base outer h' :=
 ⟨B.stack, fun b o e => k.kp b o (B.stays b o e) fun q => (by rw [h1 b q] at e; cases e), frames_kp k B.frames h2⟩
theorem exitKp (hg : ∀ b o, h.get? b = some o -> b ∉ kn.map (·.1) -> g.get? b = some o) (hkn : ∀ p ∈ kn, h.get? p.1 = some p.2) (F' : Fr g L h' m') (N' : News g L h' news) (hs : ∀ p ∈ kn, p ∈ news \/ (p.1 ∈ S /\ ∃ o, (p.1, o) ∈ news)) : Kp S h h' := by
 refine ⟨fun b o e n => ?_, fun b o e => ?_⟩
 ·by_cases q : b ∈ kn.map (·.1)
  ·obtain ⟨p, hp, rfl⟩ := List.mem_map.mp q
   rcases hs p hp with z | ⟨z, _⟩
   ·have := hkn p hp
    rw [this] at e; cases e
    exact (N' p z).1
   ·exact absurd z n
  ·exact F'.keep _ _ (hg b o e q)
 ·by_cases q : b ∈ kn.map (·.1)
  ·obtain ⟨p, hp, rfl⟩ := List.mem_map.mp q
   rcases hs p hp with z | ⟨_, o', z⟩
   ·exact ⟨_, (N' p z).1⟩
   ·exact ⟨_, (N' _ z).1⟩
  ·exact ⟨o, F'.keep _ _ (hg b o e q)⟩
theorem fr_kp (F : Fr g L h m) (k : Kp S h h') (h1 : ∀ a ∈ S, g.get? a = none) (h2 : L ∉ S) : Fr g L h' m := by
 refine hideG ?_; intro PG9 hG9
 obtain ⟨oL, es, ep, hL, r⟩ := F.ns
 refine hG9 ?_; clear hG9 PG9
 exact ⟨⟨oL, es, ep, k.kp _ _ hL h2, r⟩, fun b o e => k.kp b o (F.keep b o e) fun q => (by rw [h1 b q] at e; cases e), F.above⟩
theorem fr_kp0 (F : Fr g L h m) (k : Kp [] h h') : Fr g L h' m := fr_kp F k (fun _ h => nomatch h) (fun h => nomatch h)
theorem news_kp0 (N : News g L h news) (k : Kp [] h h') : News g L h' news := fun p hp => ⟨k.all _ _ (N p hp).1, (N p hp).2⟩
theorem not_frame (B : Below A base outer g) (N : News g L h news) {env : Env} (hf : env.frame = some L) : ∀ p ∈ news, p.1 ∉ (env :: outer).filterMap (·.frame) := fun p hp q => by
 rw [List.filterMap_cons, hf] at q
 rcases List.mem_cons.mp q with e | q
 ·exact (N p hp).2.1 e
 ·obtain ⟨o, ho, _⟩ := (B.frames.mem q).2
  rw [(N p hp).2.2] at ho; cases ho
theorem kn_of (B : Below A base outer g) (N : News g L h news) {env : Env} (hf : env.frame = some L) : Kn base (env :: outer) h news := fun p hp =>
 ⟨(N p hp).1, (by
  cases q : base.get? p.1 with
  | none => rfl
  | some o => have := B.stays _ _ q; rw [(N p hp).2.2] at this; cases this), not_frame B N hf p hp⟩
end
end
section
set_option tactic.hygienic false
open PySem PySem.W PyProof.Rows PySem.Calls PySem.Spec
section
variable {w : World} {prog : Program} {A : Around} {R : Result -> Shared -> Prop} {h : Heap} {g : Array GenState} {d : Drawn} {t : Nat} {os : OsState}
noncomputable abbrev excTup (rest : List Value) : Obj := { cls := .type "tuple", data := .seq rest.toArray }
noncomputable abbrev excObj (tup : Addr) : Obj := { cls := .ref 61, data := .fields #[.ref tup, .none, .none, .none, .bool false, .none] }
theorem exc_new {rest : List Value} (X : (hd.heap_1 w.params).In h)
  (hq : R (.ok (.ret (.ref (h.objs.size + 1)))) ⟨(h.push (excTup rest)).push (excObj h.objs.size), g, d, t, os⟩) (hrest : rest.length <= sizeLine) :
  codeAny (model prog w) A (.builtin "Exception.__new__" ⟨.ref 61 :: rest, []⟩) R ⟨h, g, d, t, os⟩ := by
 have F := PySem.F.excBase_Exception
 refine codeAny_builtinAt F.entry ?_
 refine PySem.wpAt_bind ?_
 refine PySem.wpAt_bind (PySem.wpAt_stack fun p below => PySem.wpAt_of_wpAny ?_)
 have L1 : Looks (model prog w) h (isType (.ref 61)) true := .of_peek X (by kernel_rfl)
 have L2 : Looks (model prog w) h (isSubtype (.ref 61) (.type "Exception")) true := .of_peek X (by kernel_rfl)
 have L3 : Looks (model prog w) h (Bind.madeHere "BaseException.__new__" (.ref 61)) () := .of_peek X (by kernel_rfl)
 have L4 : Looks (model prog w) h (isSubtype (.ref 61) (.type "AttributeError")) false := .of_peek X (by kernel_rfl)
 have L5 : Looks (model prog w) h (isSubtype (.ref 61) (.type "NameError")) false := .of_peek X (by kernel_rfl)
 have hends := F.ends
 wp_walk
 refine PySem.wpAt_of_wpAny ?_
 rw [F.owner]
 repeat (first | (with_reducible refine Looks.at (by assumption) ?_) | wp_step)
 have hC := X 61 _ (by with_unfolding_all rfl)
 repeat wp_step
 show R _ _
 rw [Heap.size_push]
 exact hq
theorem exc_make {rest : List Value} (X : (hd.heap_1 w.params).In h) (hrest : rest.length <= sizeLine)
  (hq : codeAny (model prog w) (A.under (.builtin "type.__call__" ⟨.ref 61 :: rest, []⟩)) (.call (.ref 38) ⟨.ref (h.objs.size + 1) :: rest, []⟩) (InitBack (h.objs.size + 1) R) ⟨(h.push (excTup rest)).push (excObj h.objs.size), g, d, t, os⟩) :
  codeAny (model prog w) A (.call (.ref 61) ⟨rest, []⟩) R ⟨h, g, d, t, os⟩ := by
 have F := PySem.F.excBase_Exception
 have hC := X 61 _ (by with_unfolding_all rfl)
 have L1 : Looks (model prog w) h (specialOf (.ref 61) "__call__") (some (.builtin "type.__call__")) := .of_peek X (by kernel_rfl)
 have L2 : Looks (model prog w) h (isInstance (.ref 61) (.type "type")) true := .of_peek X (by kernel_rfl)
 have L3 : Looks (model prog w) h (mroOf (.ref 61)) [.ref 61, .ref 48, .type "Exception", .type "BaseException", .type "object"] := .of_peek X (by kernel_rfl)
 have L4 : Looks (model prog w) h (Bind.madeBy (.ref 61)) (some "Exception.__new__") := .of_peek X (by kernel_rfl)
 have L5 : Looks (model prog w) h (checkBuiltinCall "Exception.__new__" ⟨.ref 61 :: rest, []⟩) () := .of_peek X (by kernel_rfl)
 have L6 : Looks (model prog w) h (typeLookup (.ref 61) "__init__") (some (.ref 38)) := .of_peek X (by kernel_rfl)
 have L7 : Looks (model prog w) h (isSubtype (.ref 61) (.ref 61)) true := .of_peek X (by kernel_rfl)
 refine codeAny_of_tree ?_
 refine nd_load hC ?_
 show wpAny _ _ (callAny.viaDunder (.ref 61) _) _ _ _
 refine wpAny_bind (L1.at ?_)
 dsimp only
 rw [tc_bind]
 refine wpAny_bind (wpAny_pure (wpAny_bind (wpAny_pure ?_)))
 refine wpAny_pure (a := Fin.again (.call (.builtin "type.__call__") ⟨.ref 61 :: rest, []⟩)) (And.intro rfl ?_)
 refine codeAny_call_builtin_at (Code.quiet_builtin _ (by decide +kernel)) entry_typeCall (check_slot tc_kind tc_split L2 (tc_args _ _ _) ?_)
 unfold Builtin.«type.__call__»
 repeat (first | with_reducible refine wpAny_call ?_ | lk)
 refine codeAny_call_builtin_code (Code.quiet_builtin _ F.quiet) (L5.at ?_)
 refine exc_new X ?_ hrest
 have k : ∀ b o, h.get? b = some o -> ((h.push (excTup rest)).push (excObj h.objs.size)).get? b = some o := fun b o e => Heap.get?_push_of_some _ (Heap.get?_push_of_some _ e)
 have hx : ((h.push (excTup rest)).push (excObj h.objs.size)).get? (h.objs.size + 1) = some (excObj h.objs.size) := by heap_get
 have t1 : Looks (model prog w) ((h.push (excTup rest)).push (excObj h.objs.size)) (typeOf (.ref (h.objs.size + 1))) (.ref 61) := (Looks.ld hx).andThen .now
 have i1 := L6.keeps k
 have i7 := L7.keeps k
 have b1 : Looks (model prog w) ((h.push (excTup rest)).push (excObj h.objs.size)) (bindSpecial (.ref 38) (.ref (h.objs.size + 1))) (.ref 38, [.ref (h.objs.size + 1)]) := bind_fn (X.keeps k) _ (by rfl)
 repeat (first | with_reducible refine wpAny_call ?_ | lk)
 refine codeAny_mono hq fun r s' z => ?_
 rcases r with e | (v | _ | _ | _) <;> first | exact z | exact z.elim | skip
 obtain ⟨rfl, z⟩ := z
 exact wpAny_pure (wpAny_pure z)
end
end
section
set_option tactic.hygienic false
open PySem PySem.W PyProof.Rows PySem.Calls PySem.Spec
theorem slot_wd_get : Slot "wrapper_descriptor" "__get__" "wrapper_descriptor.__get__" := .of (owner := "wrapper_descriptor") (n := "__get__") (by rw [typeLookup_type, builtinLookup_eq_fast]; kernel_rfl) (by decide +kernel) (by decide +kernel) (by decide +kernel)
  (.inl (by decide +kernel)) (by rw [isSubtype_type]; kernel_rfl)
theorem entry_wd_get : entryFor table "wrapper_descriptor.__get__" = some Builtin.«wrapper_descriptor.__get__» := entryFor_of_tree (by kernel_rfl)
theorem wd_args (a b c : Value) : argsOk "wrapper_descriptor.__get__" ⟨[a, b, c], []⟩ := by unfold argsOk; kernel_rfl
section
variable {w : World} {prog : Program} {A : Around} {R : Result -> Shared -> Prop} {E : Value -> Shared -> Prop} {h : Heap} {g : Array GenState} {d : Drawn} {t : Nat} {os : OsState}
noncomputable abbrev superObj (e : Addr) : Obj := { cls := .type "super", dict := none, data := .fields #[.ref 48, .ref e, .ref 61], slots := #[] }
noncomputable abbrev mwObj (e : Addr) : Obj := { cls := .type "method-wrapper", data := .fields #[.builtin "Exception.__init__", .ref e] }
theorem exc_super_ga {so e tup : Addr} {tk : Tok} {Q : Fin -> Shared -> Prop} (hso : h.get? so = some (superObj e)) (he : h.get? e = some (excObj tup)) (X : (hd.heap_1 w.params).In h) (hne : e ≠ 61)
  (hq : Q (.done (.ret (.ref h.objs.size))) ⟨h.push (mwObj e), g, d, t, os⟩) :
  wpAny (model prog w) A (Builtin.«super.__getattribute__» ⟨[.ref so, .str "__init__" tk], []⟩) Q E ⟨h, g, d, t, os⟩ := by
 have hlk := slot_wd_get.lookup
 have hne' : (Value.ref e == Value.ref 61) = false := by simp [hne]
 have hdt : (superObj e).data = .fields #[.ref 48, .ref e, .ref 61] := rfl
 have f0 : (#[.ref 48, .ref e, .ref 61] : Array Value)[0]? = some (.ref 48) := rfl
 have f1 : (#[.ref 48, .ref e, .ref 61] : Array Value)[1]? = some (.ref e) := rfl
 have f2 : (#[.ref 48, .ref e, .ref 61] : Array Value)[2]? = some (.ref 61) := rfl
 have L1 : Looks (model prog w) h (mroOf (.ref 61)) [.ref 61, .ref 48, .type "Exception", .type "BaseException", .type "object"] := .of_peek X (by kernel_rfl)
 have L2 : Looks (model prog w) h (notOfAnOpaqueClass ("__init__" : Str).toString "" (.ref 61)) () := .of_peek X (by kernel_rfl)
 have L3 : Looks (model prog w) h (classOwn (.type "Exception") "__init__") (some (.builtin "Exception.__init__")) := .of_peek X (by kernel_rfl)
 have L4 : Looks (model prog w) h (typeOf (.builtin "Exception.__init__")) (.type "wrapper_descriptor") := .of_peek X (by kernel_rfl)
 have L5 : Looks (model prog w) h (isSubtype (.ref 61) (.type "Exception")) true := .of_peek X (by kernel_rfl)
 have t1 : Looks (model prog w) h (typeOf (.ref e)) (.ref 61) := (Looks.ld he).andThen .now
 have hT : (⟨h, g, d, t, os⟩ : Shared).TypeIs (.builtin "Exception.__init__") "wrapper_descriptor" := by first | exact rfl | exact ⟨_, rfl, rfl⟩ | (show typeOf _ = _; kernel_rfl)
 have hs : ".".intercalate ("Exception.__init__".cutAt '.').dropLast = "Exception" := by decide +kernel
 unfold Builtin.«super.__getattribute__»
 repeat (first
  | (with_reducible refine wpAny_field hso hdt f0 ?_) | (with_reducible refine wpAny_field hso hdt f1 ?_) | (with_reducible refine wpAny_field hso hdt f2 ?_)
  | (with_reducible refine Looks.at (by assumption) ?_)
  | (with_reducible refine wpAny_call_entry slot_wd_get hT entry_wd_get ?_ (wd_args _ _ _))
  | (with_reducible refine Looks.at (t := isSubtype (.ref 61) (.type (".".intercalate ("Exception.__init__".cutAt '.').dropLast))) (by rw [hs]; assumption) ?_)
  | (rw [hne']; simp only [Bool.false_eq_true, if_false])
  | wp_step
  | dsimp only)
 refine ⟨_, rfl, ?_⟩
 repeat (first | wp_step | dsimp only)
 exact hq
theorem exc_super_method {so e tup : Addr} {pl : Sem Bool} {Q : Value × List Value -> Shared -> Prop} (hso : h.get? so = some (superObj e)) (he : h.get? e = some (excObj tup)) (X : (hd.heap_1 w.params).In h) (hne : e ≠ 61)
  (hq : Q (.ref h.objs.size, []) ⟨h.push (mwObj e), g, d, t + 1, os⟩) :
  wpAny (model prog w) A (getMethod (.ref so) "__init__" pl) Q E ⟨h, g, d, t, os⟩ := by
 have hlk := F.ks_slot_super_ga.lookup
 have hcan := F.ks_canon_super_ga
 have hT : ∀ t', (⟨h, g, d, t', os⟩ : Shared).TypeIs (.ref so) "super" := fun _ => ⟨_, hso, rfl⟩
 refine wpAny_bind (wpAny_specialOf (hT _) hlk ?_)
 refine wpAny_bind (wpAny_bind (wpAny_mkText (wpAny_holding (wpAny_bind (wpAny_typeOf (hT _) (wpAny_bind (wpAny_of_eq hlk ?_)))))))
 refine wpAny_bind (wpAny_of_eq (show (if onTheHeap (.type "super") then typeLookup (.type "super") "__getattr__" else pure none) = pure none from rfl) ?_)
 refine wpAny_bind (wpAny_attempt (wpAny_holding ?_))
 refine wpAny_bind (wpAny_of_eq (F.ks_slot_super_ga.bind _) ?_)
 refine wpAny_mono (Q := fun v s' => v = .ref h.objs.size /\ s' = ⟨h.push (mwObj e), g, d, t + 1, os⟩) (E := fun _ _ => False)
  (wpAny_call_entry F.ks_slot_super_ga (hT _) F.ks_entry_super_ga (exc_super_ga hso he X hne ⟨_, rfl, rfl, rfl⟩) (F.ks_gaArgs_super _ _)) (fun v s' hv => ?_) fun _ _ z => z.elim
 obtain ⟨rfl, rfl⟩ := hv
 exact wpAny_pure (wpAny_pure hq)
end
end
section
set_option tactic.hygienic false
open PySem PySem.W PyProof.Rows PySem.Calls PySem.Spec
section
variable {w : World} {prog : Program} {A : Around} {R : Result -> Shared -> Prop} {E : Value -> Shared -> Prop} {h : Heap} {g : Array GenState} {d : Drawn} {t : Nat} {os : OsState}
theorem exc_mw_call {mw e tup : Addr} {msg : Value} {Q : Value -> Shared -> Prop} (hmw : h.get? mw = some (mwObj e)) (he : h.get? e = some (excObj tup)) (X : (hd.heap_1 w.params).In h)
  (hq : Q .none ⟨(h.push (excTup [msg])).update e (Obj.mapFields (·.setIfInBounds 0 (.ref h.objs.size))), g, d, t, os⟩) :
  wpAny (model prog w) A (call (.ref mw) [msg] []) Q E ⟨h, g, d, t, os⟩ := by
 have FB := PySem.F.excBase_Exception
 have L5 : Looks (model prog w) h (isSubtype (.ref 61) (.type "Exception")) true := .of_peek X (by kernel_rfl)
 have t1 : Looks (model prog w) h (typeOf (.ref e)) (.ref 61) := (Looks.ld he).andThen .now
 refine wpAny_call ?_
 refine codeAny_of_tree ?_
 show wpAny _ A.in1 (callAny (.ref mw) _) _ _ _
 refine wpAny_bind (wpAny_load hmw ?_)
 have hC := X 61 _ (by with_unfolding_all rfl)
 repeat (first | (with_reducible refine Looks.at (by assumption) ?_) | wp_step | dsimp only)
 refine ⟨Code.quiet_builtin _ (by decide +kernel), codeAny_builtin FB.initEntry ?_⟩
 unfold Builtin.«BaseException.__init__»
 repeat (first | (with_reducible refine Looks.at (by assumption) ?_) | wp_step | dsimp only)
 exact hq
end
end
section
set_option tactic.hygienic false
open PySem PySem.W PyProof.Rows PySem.Calls PySem.Spec
open Builtin Builtin.ObjectAttr
section
variable {w : World} {prog : Program} {A : Around} {R : Result -> Shared -> Prop} {E : Value -> Shared -> Prop} {h : Heap} {g : Array GenState} {d : Drawn} {t : Nat} {os : OsState}
noncomputable abbrev excAt (vs : Array Value) (dx : Option Addr) : Obj := { cls := .ref 61, dict := dx, data := .fields vs }
theorem exc_setattr {e : Addr} {vs : Array Value} {dx : Option Addr} {name : Str} {v : Value} {Q : Unit -> Shared -> Prop} (X : (hd.heap_1 w.params).In h) (he : h.get? e = some (excAt vs dx))
  (L6 : Looks (model prog w) h (typeLookup (.ref 61) name) none)
  (hst : ∀ tk, wpAny (model prog w) A.in1 (storeInOwnDict (.ref e) (.ref 61) (.str name tk) name v false) (fun fin s' => fin = .done (.ret .none) /\ Q () s') E ⟨h, g, d, t + 1, os⟩) :
  wpAny (model prog w) A (setAttr (.ref e) name v) Q E ⟨h, g, d, t, os⟩ := by
 have SF := PySem.F.store_object
 have SE := PySem.F.store_Exception
 have t1 : Looks (model prog w) h (typeOf (.ref e)) (.ref 61) := (Looks.ld he).andThen .now
 have L1 : Looks (model prog w) h (typeLookup (.ref 61) "__setattr__") (some (.builtin "object.__setattr__")) := .of_peek X (by kernel_rfl)
 have L2 : Looks (model prog w) h (isSubtype (.ref 61) (.type "object")) true := .of_peek X (by kernel_rfl)
 have L3 : Looks (model prog w) h (isInstance (.ref e) (.type "object")) true := by unfold isInstance; exact t1.andThen L2
 have L4 : Looks (model prog w) h (refuseIfOverridden (.ref e) "__setattr__") () := by
  have L5 : Looks (model prog w) h (mroOf (.ref 61)) [.ref 61, .ref 48, .type "Exception", .type "BaseException", .type "object"] := .of_peek X (by kernel_rfl)
  intro A' Q' E' s' k q
  rw [refuse_eq]
  refine wpAny_bind ?_
  refine t1 A' _ E' s' k ?_
  refine wpAny_bind ?_
  refine L5 A' _ E' s' k ?_
  rw [refuseLoop_ref, refuseLoop_ref]
  rw [SE.passes]
  exact wpAny_pure q
 refine wpAny_bind (wpAny_mkText ?_)
 dsimp only
 have b1 : Looks (model prog w) h (bindSpecial (.builtin "object.__setattr__") (.ref e)) (.builtin "object.__setattr__", [.ref e]) := Looks.of_pure (SF.slot.bind (.ref e))
 repeat (first | with_reducible refine wpAny_call ?_ | lk)
 have ha := SF.args (.ref e) (.str name t) v
 refine codeAny_call_builtin SF.slot.plain SF.entry ?_
 refine check_slot (i := "object.__setattr__") (owner := "object") (n := "__setattr__") (self := .ref e) (rest := [.str name t, v]) (kw := []) SF.kind SF.split L3 ha ?_
 show wpAny _ _ (Builtin.«object.__setattr__» ⟨[.ref e, .str name t, v], []⟩) _ _ _
 rw [osa_eq]
 have L7 : Looks (model prog w) h (storeTaker? none) none := Looks.of_pure rfl
 refine wpAny_bind ?_
 refine L4.at ?_
 refine wpAny_bind ?_
 refine t1.at ?_
 refine wpAny_bind ?_
 refine L6.at ?_
 refine wpAny_bind ?_
 refine L7.at ?_
 refine wpAny_mono (hst t) (fun fin s' z => ?_) fun _ _ z => z
 obtain ⟨rfl, z⟩ := z
 exact wpAny_pure (wpAny_pure z)
theorem exc_store1 {e : Addr} {vs : Array Value} {name : Str} {v : Value} {Q : Unit -> Shared -> Prop} (X : (hd.heap_1 w.params).In h) (he : h.get? e = some (excAt vs none))
  (L6 : Looks (model prog w) h (typeLookup (.ref 61) name) none)
  (hq : ∀ h' tk', h'.get? e = some (excAt vs (some h.objs.size)) -> h'.Ns1 h.objs.size (fun y => if y = name then some v else none) -> Kp [e] h h' -> Q () ⟨h', g, d, tk', os⟩) :
  wpAny (model prog w) A (setAttr (.ref e) name v) Q E ⟨h, g, d, t, os⟩ := by
 refine exc_setattr X he L6 fun tk => ?_
 have hC := X 61 _ (by with_unfolding_all rfl)
 have hes : e ≠ h.objs.size := Nat.ne_of_lt (Heap.lt_size he)
 unfold storeInOwnDict ownDictForStores
 iterate 12 wp_step
 refine wpAny_bind (wpAny_load hC ?_)
 iterate 12 wp_step
 have hgd : ((h.push { cls := .type "dict", data := .dict #[] }).update e fun o => { cls := o.cls, dict := some h.objs.size, data := o.data, slots := o.slots }).get? h.objs.size = some { cls := .type "dict", data := .dict #[] } :=
  (Heap.get?_update_ne _ _ _ _ hes.symm).trans (Heap.get?_push_at rfl rfl)
 have hge : ((h.push { cls := .type "dict", data := .dict #[] }).update e fun o => { cls := o.cls, dict := some h.objs.size, data := o.data, slots := o.slots }).get? e = some (excAt vs (some h.objs.size)) :=
  Heap.get?_update_self _ (Heap.get?_push_of_some _ he) rfl
 have hgk : ∀ b o, h.get? b = some o -> b ≠ e -> ((h.push { cls := .type "dict", data := .dict #[] }).update e fun o => { cls := o.cls, dict := some h.objs.size, data := o.data, slots := o.slots }).get? b = some o := fun b o hb hn =>
  (Heap.get?_update_ne _ _ _ _ hn).trans (Heap.get?_push_of_some _ hb)
 generalize (h.push { cls := .type "dict", data := .dict #[] }).update e (fun o => { cls := o.cls, dict := some h.objs.size, data := o.data, slots := o.slots }) = h₁ at hgd hge hgk ⊢
 have hn1 : h₁.Ns1 h.objs.size (fun _ => none) := Heap.Ns1.of_empty ⟨_, #[], _, hgd, rfl, fun e he => absurd he (by simp), fun _ => rfl⟩
 refine wpAny_bind (wpAny_pure ?_)
 refine wpAny_bind (wpAny_nsSet1 hn1 fun h' hn' hs => ?_)
 refine hideG ?_; intro PG9 hG9
 obtain ⟨oD, esD, epD, hoD, hdD, hcD⟩ := hn'.count (Within.cons name v Within.nil)
 refine hG9 ?_; clear hG9 PG9
 refine wpAny_bind (wpAny_lookBehind hoD (by rw [hdD]; exact pastItsLine_dict (Nat.le_trans hcD (by rw [List.length_cons, List.length_nil, sizeLine_eq]; omega))) ?_)
 refine wpAny_pure ⟨rfl, ?_⟩
 have hge' := (hs.2 e hes).trans hge
 have hk' : ∀ b o, h.get? b = some o -> b ≠ e -> h'.get? b = some o := fun b o hb hn => (hs.2 b (Nat.ne_of_lt (Heap.lt_size hb))).trans (hgk b o hb hn)
 refine hq h' _ hge' hn' ⟨fun b o hb hn => hk' b o hb (by simpa using hn), fun b o hb => ?_⟩
 by_cases z : b = e
 ·subst z; exact ⟨_, hge'⟩
 ·exact ⟨_, hk' b o hb z⟩
theorem exc_store2 {e dx : Addr} {vs : Array Value} {name : Str} {v : Value} {mA : Str -> Option Value} {ns : List Str} {Q : Unit -> Shared -> Prop} (X : (hd.heap_1 w.params).In h) (he : h.get? e = some (excAt vs (some dx)))
  (L6 : Looks (model prog w) h (typeLookup (.ref 61) name) none) (hn : h.Ns1 dx mA) (hw : Within mA ns) (hsz : ns.length < 1000) (hne : e ≠ dx)
  (hq : ∀ h' tk', h'.get? e = some (excAt vs (some dx)) -> h'.Ns1 dx (fun y => if y = name then some v else mA y) -> Kp [dx] h h' -> Q () ⟨h', g, d, tk', os⟩) :
  wpAny (model prog w) A (setAttr (.ref e) name v) Q E ⟨h, g, d, t, os⟩ := by
 refine exc_setattr X he L6 fun tk => ?_
 have hC := X 61 _ (by with_unfolding_all rfl)
 iterate 12 wp_step
 refine wpAny_bind (wpAny_load hC ?_)
 iterate 4 wp_step
 show wpAny _ _ (storeInDict dx (.str name tk) name v) _ _ _
 refine wpAny_bind (wpAny_pure ?_)
 refine wpAny_bind (wpAny_nsSet1 hn fun h' hn' hs => ?_)
 refine hideG ?_; intro PG9 hG9
 obtain ⟨oD, esD, epD, hoD, hdD, hcD⟩ := hn'.count (Within.cons name v hw)
 refine hG9 ?_; clear hG9 PG9
 refine wpAny_bind (wpAny_lookBehind hoD (by rw [hdD]; exact pastItsLine_dict (Nat.le_trans hcD (by rw [List.length_cons, sizeLine_eq]; omega))) ?_)
 refine wpAny_pure ⟨rfl, ?_⟩
 refine hq h' _ ((hs.2 e hne).trans he) hn' ⟨fun b o hb hn => (hs.2 b (by simpa using hn)).trans hb, fun b o hb => ?_⟩
 by_cases z : b = dx
 ·subst z; exact ⟨_, hoD⟩
 ·exact ⟨_, (hs.2 b z).trans hb⟩
end
end
section
set_option tactic.hygienic false
open PySem PySem.W PyProof.Rows PySem.Calls PySem.Spec
noncomputable abbrev PW : Program := PySem.Challenge.pw_nu0180_01
theorem reg5 : (PySem.Challenge.rw_nu0180_01, Mine.hd.heap_1) = (PySem.Challenge.rw_nu0180_01, Mine.hd.heap_1) := by k_fill; rfl
section
variable {w : World} {mean : ExcName -> Option Value} {mg mb : Str -> Option Value} {A : Around} {base : Heap} {outer : List Env} {s : Shared} {R : Result -> Shared -> Prop}
noncomputable def ExNs (h : Heap) (dx : Addr) (msg atv : Value) : Prop := h.Ns1 dx (fun y => if y = "at" then some atv else if y = "what" then some msg else none) /\ handedIn msg = true
theorem ExNs.at {h h' : Heap} {dx : Addr} {msg atv : Value} (x : ExNs h dx msg atv) (k : ∀ o, h.get? dx = some o -> h'.get? dx = some o) : ExNs h' dx msg atv := ⟨x.1.at k, x.2⟩
structure Exc0 (h₀ h : Heap) (e : Addr) (msg atv : Value) : Prop where
 obj : ∃ tup dx, h.get? e = some (excAt #[.ref tup, .none, .none, .none, .bool false, .none] (some dx)) /\ ExNs h dx msg atv /\ dx ≠ e /\ h₀.get? dx = none
theorem exc_init {e tup : Addr} {msg atv : Value} (B : Below A base outer s.heap) (G : Gd w mean mg mb base) (hdp : A.depth < 900) (hu : A.units + 200 < cLine)
  {args : Args} (hargs : args = ⟨[.ref e, msg, atv], []⟩ \/ (args = ⟨[.ref e, msg], []⟩ /\ atv = .int (-1) 209))
  (he : s.heap.get? e = some (excObj tup)) (hb : base.get? e = none) (hm : handedIn msg = true)
  (hR : ∀ h' tk', Exc0 s.heap h' e msg atv -> Kp [e] s.heap h' -> R (.ok (.ret .none)) { s with heap := h', toks := tk' }) :
  codeAny (model PW w) A (.call (.ref 38) args) R s := by
 have X : (hd.heap_1 w.params).In s.heap := G.kin.keeps B.stays
 have ho := X 38 _ (by with_unfolding_all rfl)
 refine ks_codeAny_call_defAt (binds := [("self", .ref e), ("what", msg), ("at", atv)]) (by unfold recursionLimit; omega) ho rfl (G.top.nolimit.keeps B.stays) (codeRec_of X (by rfl)) rfl (by rcases hargs with rfl | ⟨rfl, rfl⟩ <;> exact binds_K X rfl (by with_unfolding_all rfl) rfl rfl rfl) (by decide) (locs rfl) (fun h₁ hns hk₁ => ?_) rfl rfl rfl
 have hse : s.heap.objs.size ≠ e := Nat.ne_of_gt (Heap.lt_size he)
 have he₁ : h₁.get? e = some (excObj tup) := hk₁ _ _ he
 have hgk : ∀ b o, (hideAll s.heap [e]).get? b = some o -> h₁.get? b = some o := fun b o q => hk₁ b o (of_hideAll _ q)
 have nb : ∀ b o, base.get? b = some o -> b ∉ [e] := fun b o q z => by rw [List.mem_singleton.mp z, hb] at q; cases q
 have st : base.StaysIn (hideAll s.heap [e]) := fun b o q => hideAll_get _ (B.stays b o q) (nb b o q)
 have F : Fr (hideAll s.heap [e]) s.heap.objs.size h₁ (fun x => ([("self", Value.ref e), ("what", msg), ("at", atv)] : List (Str × Value)).reverse.lookup x) := ⟨hns, hgk, Nat.le_of_eq (hideAll_size _ _)⟩
 have N : News (hideAll s.heap [e]) s.heap.objs.size h₁ [(e, excObj tup)] := fun p hp => by
  rw [List.mem_singleton.mp hp]
  exact ⟨he₁, hse.symm, hideAll_none _ (by simp)⟩
 have Xg := G.kin.keeps st
 have Tg := G.top.keeps st
 have I : InstAt h₁ e (excObj tup) 61 none := ⟨he₁, rfl, rfl, trivial⟩
 have hne61 : e ≠ 61 := fun q => by subst q; have := X 61 _ (by with_unfolding_all rfl); rw [he] at this; cases this
 refine ks_wpAt_execs_cons ?_
 refine ks_wpAt_Expr_any ?_
 refine ks_wpAt_MethodCall ?_
 refine ks_node (s := { s with heap := h₁, toks := s.toks + 3 }) (cda := 37) (cc := 25) (D := 48) (C := 61) (K := Mine.hd.heap_1 w.params) F Xg N Tg (by with_unfolding_all rfl) rfl rfl I (by with_unfolding_all rfl) rfl rfl (by with_unfolding_all rfl) (by rfl) (by rfl) (by rfl) rfl rfl rfl rfl rfl (by rfl) (by rfl) ?_
 intro so h₂ F₂ N₂ _
 have he₂ : h₂.get? e = some (excObj tup) := (N₂ _ (.tail _ (.head _))).1
 have k₂ : Kp [] s.heap h₂ := Kp.of fun b o q => by
  by_cases z : b = e
  ·subst z; rw [he] at q; cases q; exact he₂
  ·exact F₂.keep _ _ (hideAll_get _ q (by simpa using z))
 have X₂ := Xg.keeps F₂.keep
 refine exc_super_method (t := s.toks + 3) (N₂ _ (.head _)).1 he₂ X₂ hne61 ?_
 have hmw : (h₂.push (mwObj e)).get? h₂.objs.size = some (mwObj e) := Heap.get?_push_size h₂ rfl
 refine callWith_of (P := fun h => h.get? h₂.objs.size = some (mwObj e) /\ h.get? e = some (excObj tup) /\ (Mine.hd.heap_1 w.params).In h) rfl (fun h hP => ⟨.machine, .inr (.inl rfl), (Looks.ld (part := none) hP.1).andThen .now⟩) (evalArgs_plain ?_)
 have F₃ := F₂.push (mwObj e)
 show wpAny _ _ (spliced ((false, eval (.Name "what" _) _) :: [])) _ _ _
 refine wpAny_bind (wpAny_Name (wpAny_loadName_local rfl rfl F₃.ns rfl ?_) (by decide))
 refine wpAny_bind (wpAny_pure (wpAny_bind (wpAny_holding (wpAny_pure (wpAny_pure ⟨⟨hmw, Heap.get?_push_of_some _ he₂, X₂.keeps fun b o q => Heap.get?_push_of_some _ q⟩, ?_⟩)))))
 refine exc_mw_call (tup := tup) hmw (Heap.get?_push_of_some _ he₂) (X₂.keeps fun b o q => Heap.get?_push_of_some _ q) ?_
 refine PySem.wpAt_of_wpAny ?_
 have hpe : ∀ h' : Heap, ((h₂.push (mwObj e)).push (excTup [msg])).update e (Obj.mapFields (·.setIfInBounds 0 (.ref (h₂.push (mwObj e)).objs.size))) = h' -> h'.get? e = some (excAt #[.ref (h₂.push (mwObj e)).objs.size, .none, .none, .none, .bool false, .none] none) /\ (∀ b o, b ≠ e -> h₂.get? b = some o -> h'.get? b = some o) := by
  rintro h' rfl
  exact ⟨Heap.get?_update_self _ (Heap.get?_push_of_some _ (Heap.get?_push_of_some _ he₂)) rfl, fun b o z q => (Heap.get?_update_ne _ _ _ _ z).trans (Heap.get?_push_of_some _ (Heap.get?_push_of_some _ q))⟩
 generalize ((h₂.push (mwObj e)).push (excTup [msg])).update e (Obj.mapFields (·.setIfInBounds 0 (.ref (h₂.push (mwObj e)).objs.size))) = h₃ at hpe ⊢
 obtain ⟨he₃, k₃⟩ := hpe _ rfl
 generalize (h₂.push (mwObj e)).objs.size = tp at he₃
 clear hpe hmw F₃
 have Xb : ∀ {h' : Heap}, (∀ b o, b ≠ e -> h₂.get? b = some o -> h'.get? b = some o) -> (Mine.hd.heap_1 w.params).In h' := fun k a o q => k a o (fun z => by subst z; have := G.kin _ _ q; rw [hb] at this; cases this) (X₂ _ _ q)
 have X₃ := Xb k₃
 have n₃ : h₃.Ns s.heap.objs.size _ := F₂.ns.at' fun o q => k₃ _ o hse q
 refine wpAny_execs_cons (plainObj_wpAny_Assign_Attribute (wpAny_Name (wpAny_loadName_local rfl rfl n₃ rfl (wpAny_Name (wpAny_loadName_local rfl rfl n₃ rfl ?_) (by decide))) (by decide)))
 refine exc_store1 X₃ he₃ (.of_peek X₃ (by kernel_rfl)) fun h₄ tk₄ he₄ hn₄ k₄ => ?_
 have k₄' : ∀ b o, b ≠ e -> h₂.get? b = some o -> h₄.get? b = some o := fun b o z q => k₄.kp b o (k₃ b o z q) (by simpa using z)
 have X₄ := Xb k₄'
 have n₄ : h₄.Ns s.heap.objs.size _ := F₂.ns.at' fun o q => k₄' _ o hse q
 have hd₄ : e ≠ h₃.objs.size := Nat.ne_of_lt (Heap.lt_size he₃)
 refine wpAny_execs_cons (plainObj_wpAny_Assign_Attribute (wpAny_Name (wpAny_loadName_local rfl rfl n₄ rfl (wpAny_Name (wpAny_loadName_local rfl rfl n₄ rfl ?_) (by decide))) (by decide)))
 refine exc_store2 X₄ he₄ (.of_peek X₄ (by kernel_rfl)) hn₄ (Within.cons _ _ Within.nil) (by decide) hd₄ fun h₅ tk₅ he₅ hn₅ k₅ => ?_
 refine wpAny_execs_nil ?_
 have hdn : s.heap.get? h₃.objs.size = none := by
  cases q : s.heap.get? h₃.objs.size with
  | none => rfl
  | some o => exact absurd (Heap.lt_size (k₃ _ o hd₄.symm (k₂.all _ o q))) (Nat.lt_irrefl _)
 have hk5 : ∀ b o, s.heap.get? b = some o -> b ≠ e -> h₅.get? b = some o := fun b o q z => by
  have hlt : b ≠ h₃.objs.size := Nat.ne_of_lt (Heap.lt_size (k₃ b o z (k₂.all b o q)))
  exact k₅.kp b o (k₄' b o z (k₂.all b o q)) (by simpa using hlt)
 refine hR h₅ tk₅ ⟨_, _, he₅, ⟨hn₅, hm⟩, hd₄.symm, hdn⟩ ⟨fun b o q z => hk5 b o q (by simpa using z), fun b o q => ?_⟩
 by_cases z : b = e
 ·subst z; exact ⟨_, he₅⟩
 ·exact ⟨_, hk5 b o q z⟩
theorem below_under {c : Code} (B : Below A base outer s.heap) (hc : c.envs = []) : Below (A.under c) base outer s.heap := by
 refine ⟨?_, B.stays, B.frames⟩
 show pushEnvs c.envs A.frames = _
 rw [hc]; exact B.stack
theorem exc_call {msg atv : Value} {rest : List Value} (B : Below A base outer s.heap) (G : Gd w mean mg mb base) (hdp : A.depth < 890) (hu : A.units + 250 < cLine)
  (hargs0 : handedIn msg = true /\ (rest = [msg, atv] \/ (rest = [msg] /\ atv = .int (-1) 209)))
  (hR : ∀ h' tk' e, Exc0 s.heap h' e msg atv -> Kp [] s.heap h' -> s.heap.get? e = none -> R (.ok (.ret (.ref e))) { s with heap := h', toks := tk' }) :
  codeAny (model PW w) A (.call (.ref 61) ⟨rest, []⟩) R s := by
 have X : (Mine.hd.heap_1 w.params).In s.heap := G.kin.keeps B.stays
 obtain ⟨hm, hargs⟩ := hargs0
 have hlen : rest.length <= sizeLine := by rcases hargs with rfl | ⟨rfl, rfl⟩ <;> (rw [sizeLine_eq]; simp)
 refine exc_make X hlen ?_
 have hf : s.heap.get? (s.heap.objs.size + 1) = none := Heap.get?_none_of_le (by omega)
 have B' : Below A base outer ((s.heap.push (excTup rest)).push (excObj s.heap.objs.size)) := below_kp (S := []) B (Kp.of fun b o q => Heap.get?_push_of_some _ (Heap.get?_push_of_some _ q)) (fun _ h => nomatch h) (fun _ h => nomatch h)
 refine exc_init (s := { s with heap := (s.heap.push (excTup rest)).push (excObj s.heap.objs.size) }) (e := s.heap.objs.size + 1) (tup := s.heap.objs.size) (msg := msg) (atv := atv) (below_under B' rfl) G ?_ ?_ ?_ ?_ ?_ hm fun h' tk' x k => ?_
 ·rw [depth_under_make]; omega
 ·show A.units + _ + 200 < cLine
  have : (Code.builtin "type.__call__" ⟨.ref 61 :: rest, []⟩).cUnits <= 5 := by
   rcases hargs with rfl | ⟨rfl, rfl⟩ <;> (show 1 + 3 * _ <= 5; exact Nat.le_of_ble_eq_true rfl)
  omega
 ·rcases hargs with rfl | ⟨rfl, rfl⟩
  ·exact .inl rfl
  ·exact .inr ⟨rfl, rfl⟩
 ·show Heap.get? _ _ = _
  heap_get
 ·cases q : base.get? (s.heap.objs.size + 1) with
  | none => rfl
  | some o => have := B.stays _ _ q; rw [hf] at this; cases this
 ·refine hideG ?_; intro PG9 hG9
  obtain ⟨tp, dx, y1, y2, y3, y4⟩ := x
  refine hG9 ?_; clear hG9 PG9
  have y5 : s.heap.get? dx = none := by
   cases q : s.heap.get? dx with
   | none => rfl
   | some o => have := Heap.get?_push_of_some (excObj s.heap.objs.size) (Heap.get?_push_of_some (excTup rest) q); rw [show ((s.heap.push (excTup rest)).push (excObj s.heap.objs.size)).get? dx = none from y4] at this; cases this
  refine ⟨rfl, hR h' tk' _ ⟨tp, dx, y1, y2, y3, y5⟩ (Kp.of fun b o q => k.kp b o (Heap.get?_push_of_some _ (Heap.get?_push_of_some _ q)) ?_) hf⟩
  intro z
  have z := List.mem_singleton.mp z
  subst z
  rw [hf] at q; cases q
end
end
section
set_option tactic.hygienic false
open PySem PySem.W PyProof.Rows PySem.Calls PySem.Spec
section
variable {w : World} {mean : ExcName -> Option Value} {mg mb : Str -> Option Value} {A : Around} {base : Heap} {outer : List Env} {s : Shared} {R : Result -> Shared -> Prop} {E : Value -> Shared -> Prop}
theorem exc_raiseStmt {env : Env} {x : Sem Value} {Q : Flow -> Shared -> Prop} (hh : A.handled = none)
  (h : wpAny (model PW w) A x (fun v s' => ∃ e msg atv h₀, v = .ref e /\ (hd.heap_1 w.params).In s'.heap /\ Exc0 h₀ s'.heap e msg atv /\ E (.ref e) s') E s) :
  wpAny (model PW w) A (raiseStmt env (some x) none) Q E s := by
 unfold raiseStmt
 refine wpAny_bind (wpAny_mono h (fun v s' h' => ?_) fun _ _ z => z)
 refine hideG ?_; intro PG9 hG9
 obtain ⟨e, msg, atv, _, rfl, X, ⟨tup, dx, he, _, _, _⟩, hE⟩ := h'
 refine hG9 ?_; clear hG9 PG9
 have t1 : Looks (model PW w) s'.heap (typeOf (.ref e)) (.ref 61) := (Looks.ld he).andThen .now
 have L1 : Looks (model PW w) s'.heap (isSubtype (.ref 61) (.type "BaseException")) true := .of_peek X (by kernel_rfl)
 have L2 : Looks (model PW w) s'.heap (typeOf (.ref 61)) (.type "type") := .of_peek X (by kernel_rfl)
 have L3 : Looks (model PW w) s'.heap (isType (.ref e)) false := fun A' Q' E' s₂ k q => by
  unfold isType
  repeat (first | with_reducible refine wpAny_bind (wpAny_loadPart (k _ _ he) ?_) | wp_step | exact q)
 have L4 : Looks (model PW w) s'.heap (isExcClass (.ref e)) false := fun A' Q' E' s₂ k q => by
  refine wpAny_bind ?_
  refine L3 A' _ E' s₂ k ?_
  exact wpAny_pure q
 have L5 : Looks (model PW w) s'.heap (isInstance (.ref e) (.type "BaseException")) true := by unfold isInstance; exact t1.andThen L1
 have L6 : Looks (model PW w) s'.heap (raisedInstance (.ref e)) (.ref e) := fun A' Q' E' s₂ k q => by
  refine wpAny_bind ?_
  refine t1 A' _ E' s₂ k ?_
  refine wpAny_bind ?_
  refine L2 A' _ E' s₂ k ?_
  exact wpAny_pure q
 refine wpAny_bind (wpAny_pure ?_)
 refine wpAny_bind (wpAny_holding ?_)
 refine wpAny_bind ?_
 refine L4.here ?_
 refine wpAny_bind ?_
 refine L5.here ?_
 refine wpAny_pure ?_
 refine wpAny_bind ?_
 refine L3.here ?_
 refine wpAny_bind ?_
 refine L6.here ?_
 refine wpAny_bind (wpAny_bind (wpAny_field he rfl (x := .none) rfl ?_))
 refine wpAny_pure ?_
 exact wpAny_raiseNew_none hh hE
noncomputable def fr (l : List Env) : List Addr := l.filterMap (·.frame)
theorem fr_tail {env : Env} {outer : List Env} {L b : Addr} (hf : env.frame = some L) (hb : b ∈ fr outer) : b ∈ fr (env :: outer) := by
 unfold fr; rw [List.filterMap_cons, hf]; exact .tail _ hb
structure FlyAt (base : Heap) (outer : List Env) (e : Addr) (atv fl : Value) (S : List Addr) (h₀ h : Heap) : Prop where
 stays : base.StaysIn h
 new : base.get? e = none
 new₀ : h₀.get? e = none
 frames : h.FunFrames base outer
 ex : ∃ vs T oT ts dx msg, h.get? e = some (excAt vs (some dx)) /\ vs[1]? = some (.ref T) /\ base.get? T = none /\ h₀.get? T = none /\ T ≠ e /\ h.get? T = some oT /\ oT.data = .fields ts /\ ts[3]? = some fl /\
  ExNs h dx msg atv /\ h₀.get? dx = none
 kp : Kp S h₀ h
 up : ∀ a ∈ fr outer, ∀ o, h₀.get? a = some o -> ∃ sl, h.get? a = some { o with slots := sl }
noncomputable abbrev FlyD (base : Heap) (outer : List Env) (e : Addr) (atv : Value) (S : List Addr) (h₀ h : Heap) : Prop := FlyAt base outer e atv .none S h₀ h
theorem ns1_slots {h h' : Heap} {a : Addr} {m : Str -> Option Value} (x : h.Ns1 a m) (k : ∀ o, h.get? a = some o -> (∀ vs, o.data ≠ .fields vs) -> ∃ sl, h'.get? a = some { o with slots := sl }) : h'.Ns1 a m := by
 refine hideG ?_; intro PG9 hG9
 obtain ⟨o, es, ep, ho, hd, r⟩ := x
 refine hG9 ?_; clear hG9 PG9
 obtain ⟨sl, hs⟩ := k o ho fun vs q => by rw [hd] at q; cases q
 exact ⟨_, es, ep, hs, hd, r⟩
theorem exNs_slots {h h' : Heap} {dx : Addr} {msg atv : Value} (x : ExNs h dx msg atv) (k : ∀ o, h.get? dx = some o -> (∀ vs, o.data ≠ .fields vs) -> ∃ sl, h'.get? dx = some { o with slots := sl }) : ExNs h' dx msg atv := ⟨ns1_slots x.1 k, x.2⟩
theorem fly_entry {env : Env} {L e dx : Addr} {vs : Array Value} {head atv msg : Value} {hadNext : Bool} {S : List Addr} {h₀ : Heap} {Q : Unit -> Shared -> Prop}
  (hfr : A.frames = some (env :: outer)) (hl : s.heap.FunFrames base (env :: outer)) (hf : env.frame = some L) (he : s.heap.get? e = some (excAt vs (some dx))) (hsz : 1 < vs.size)
  (hst : base.StaysIn s.heap) (hne : base.get? e = none) (hne0 : h₀.get? e = none) (hn : ExNs s.heap dx msg atv) (hdx : h₀.get? dx = none)
  (hk : Kp S h₀ s.heap) (hS : ∀ a ∈ fr (env :: outer), a ∈ S \/ h₀.get? a = none) (hup : ∀ a ∈ fr (env :: outer), ∀ o, h₀.get? a = some o -> ∃ sl, s.heap.get? a = some { o with slots := sl })
  (h : ∀ h', FlyAt base (env :: outer) e atv (rawInt L) S h₀ h' -> Q () { s with heap := h' }) :
  wpAny (model PW w) A (do let a <- frameOf env; let pl <- entryPlaceOf L hadNext; let b <- EntryCells.newEntry head a .none (rawInt L) .none pl; setField (.ref e) 1 b) Q E s := by
 have hne1 : e ∉ fr (env :: outer) := fun hm => by
  refine hideG ?_; intro PG9 hG9
  obtain ⟨_, o, ho, hnf⟩ := hl.mem hm
  refine hG9 ?_; clear hG9 PG9
  rw [he] at ho; cases ho; exact hnf vs rfl
 refine wpAny_bind (wpAny_frameOf_fun hfr hl hf fun h₁ hs₁ => ?_)
 refine wpAny_bind (wpAny_entryPlaceOf fun pl hpl => ?_)
 refine wpAny_bind (wpAny_newObj_type ?_ (hpl.sizeOk5 _ _ _ _ _))
 have he₁ : h₁.get? e = some (excAt vs (some dx)) := (hs₁.2.1 e hne1).trans he
 have st₁ : base.StaysIn h₁ := fun b o hb => (hs₁.2.1 b fun hm => by rw [(hl.mem hm).1] at hb; cases hb).trans (hst b o hb)
 have hT0 : h₁.objs.size = s.heap.objs.size := hs₁.1
 have hTs : s.heap.get? h₁.objs.size = none := Heap.get?_none_of_le (by omega)
 have hd3 : ([head, .ref L, .none, rawInt L, .none] ++ (if pl.isEmpty then List.replicate 6 Value.none else pl)).toArray[3]? = some (rawInt L) := by simp
 generalize ([head, .ref L, .none, rawInt L, .none] ++ (if pl.isEmpty then List.replicate 6 Value.none else pl)).toArray = ts at hd3 ⊢
 have hTe : h₁.objs.size ≠ e := Nat.ne_of_gt (Heap.lt_size he₁)
 refine wpAny_setField (Heap.get?_push_of_some _ he₁) rfl hsz (h _ ?_)
 have keep : ∀ b o, b ≠ e -> h₁.get? b = some o -> ((h₁.push { cls := .type "traceback", dict := none, data := .fields ts }).update e (Obj.mapFields (·.setIfInBounds 1 (Value.ref h₁.objs.size)))).get? b = some o := fun b o hbe hb =>
  (Heap.get?_update_ne _ _ _ _ hbe).trans (Heap.get?_push_of_some _ hb)
 have frs := hl.of_slotsOnly hs₁
 have hT0' : h₀.get? h₁.objs.size = none := hk.fresh hTs
 have sl : ∀ b o, s.heap.get? b = some o -> (∀ vs, o.data ≠ .fields vs) -> ∃ sl, ((h₁.push { cls := .type "traceback", dict := none, data := .fields ts }).update e (Obj.mapFields (·.setIfInBounds 1 (Value.ref h₁.objs.size)))).get? b = some { o with slots := sl } := fun b o hb hnf => by
  obtain ⟨sl, q⟩ := hs₁.2.2 b o hb
  exact ⟨sl, keep b _ (fun z => by rw [z, he] at hb; cases hb; exact hnf vs rfl) q⟩
 refine ⟨fun b o hb => keep b o (fun q => by rw [q, hne] at hb; cases hb) (st₁ b o hb), hne, hne0, ?_, ?_, ⟨?_, ?_⟩, fun b hb o q => ?_⟩
 ·exact Heap.FunFrames.of_keeps (fun b o hb hnf => ⟨o, keep b o (fun q => by rw [q, he₁] at hb; cases hb; exact hnf vs rfl) hb, rfl⟩) frs
 ·refine ⟨vs.setIfInBounds 1 (.ref h₁.objs.size), h₁.objs.size, _, ts, dx, msg, Heap.get?_update_self _ (Heap.get?_push_of_some _ he₁) rfl, by simp [hsz], ?_, hT0', hTe, (Heap.get?_update_ne _ _ _ _ hTe).trans (Heap.get?_push_size _ rfl), rfl, hd3, exNs_slots hn fun o q1 q2 => sl dx o q1 q2, hdx⟩
  cases q : base.get? h₁.objs.size with
  | none => rfl
  | some o => have := hst _ _ q; rw [hTs] at this; cases this
 ·intro b o q z
  have hbf : b ∉ fr (env :: outer) := fun m => (hS b m).elim z fun y => by rw [y] at q; cases q
  exact keep b o (fun y => by rw [y, hne0] at q; cases q) ((hs₁.2.1 b hbf).trans (hk.kp b o q z))
 ·intro b o q
  obtain ⟨o', y⟩ := hk.ex b o q
  obtain ⟨sl, z⟩ := hs₁.2.2 b o' y
  exact ⟨_, keep b _ (fun w => by rw [w, hne0] at q; cases q) z⟩
 ·obtain ⟨sl, y⟩ := hup b hb o q
  obtain ⟨sl2, z⟩ := hs₁.2.2 b _ y
  exact ⟨sl2, keep b _ (fun w => by rw [w, hne0] at q; cases q) z⟩
theorem fly_mark {l : List Env} {e : Addr} {atv fl : Value} {S : List Addr} {h₀ : Heap} {f : Option Addr} {Q : Unit -> Shared -> Prop} (x : FlyAt base l e atv fl S h₀ s.heap)
  (h : ∀ h', FlyAt base l e atv (f.elim .none fun a => rawInt a) S h₀ h' -> Q () { s with heap := h' }) : wpAny (model PW w) A (setFlight (.ref e) f) Q E s := by
 refine hideG ?_; intro PG9 hG9
 obtain ⟨x1, x2, x3, x4, ⟨vs, T, oT, ts, dx, msg, he, h1, hTb, hT0, hTe, hT, hTd, h3, hn, hdx⟩, x6, x7⟩ := x
 refine hG9 ?_; clear hG9 PG9
 refine wpAny_bind (wpAny_field he rfl h1 ?_)
 refine wpAny_setField hT hTd (Array.getElem?_eq_some_iff.mp h3).1 (h _ ?_)
 have hd' := Obj.data_mapFields hTd (·.setIfInBounds 3 (f.elim .none fun a => rawInt a))
 have other : ∀ b, b ≠ T -> (s.heap.update T (Obj.mapFields (·.setIfInBounds 3 (f.elim .none fun a => rawInt a)))).get? b = s.heap.get? b := fun b hb => Heap.get?_update_ne _ _ _ _ hb
 have self := Heap.get?_update_self (Obj.mapFields (·.setIfInBounds 3 (f.elim .none fun a => rawInt a))) hT (Obj.isFreed_of_fields hd')
 refine ⟨fun b o hb => (other b fun q => by rw [q, hTb] at hb; cases hb).trans (x1 b o hb), x2, x3, ?_, ?_, ⟨fun b o q z => (other b fun y => by rw [y, hT0] at q; cases q).trans (x6.kp b o q z), fun b o q => ?_⟩, fun b hb o q => ?_⟩
 ·exact Heap.FunFrames.of_keeps (fun b o hb hnf => ⟨o, (other b fun q => by rw [q, hT] at hb; cases hb; exact hnf ts hTd).trans hb, rfl⟩) x4
 ·exact ⟨vs, T, _, _, dx, msg, (other e hTe.symm).trans he, h1, hTb, hT0, hTe, self, hd', by simp [(Array.getElem?_eq_some_iff.mp h3).1], hn.at fun o q => (other dx fun y => by rw [y, hT] at q; cases q; obtain ⟨o', es, ep, z, zd, _⟩ := hn.1; rw [y, hT] at z; cases z; rw [hTd] at zd; cases zd).trans q, hdx⟩
 ·obtain ⟨o', y⟩ := x6.ex b o q
  exact ⟨o', (other b fun w => by rw [w, hT0] at q; cases q).trans y⟩
 ·obtain ⟨sl, y⟩ := x7 b hb o q
  exact ⟨sl, (other b fun w => by rw [w, hT0] at q; cases q).trans y⟩
theorem fly_note {env : Env} {L e : Addr} {atv : Value} {S : List Addr} {h₀ : Heap} {Q : Unit -> Shared -> Prop} (hfr : A.frames = some (env :: outer)) (hf : env.frame = some L)
  (x : FlyD base (env :: outer) e atv S h₀ s.heap) (hS : ∀ a ∈ fr (env :: outer), a ∈ S \/ h₀.get? a = none)
  (h : ∀ h', FlyAt base (env :: outer) e atv (rawInt L) S h₀ h' -> Q () { s with heap := h' }) : wpAny (model PW w) A (noteFrame (.ref e) env) Q E s := by
 refine hideG ?_; intro PG9 hG9
 obtain ⟨x1, x2, x3, x4, ⟨vs, T, oT, ts, dx, msg, he, h1, hTb, hT0, hTe, hT, hTd, h3, hn, hdx⟩, x6, x7⟩ := x
 refine hG9 ?_; clear hG9 PG9
 unfold noteFrame
 simp only [hf]
 refine wpAny_bind (wpAny_field he rfl h1 ?_)
 refine wpAny_bind (wpAny_field hT hTd h3 ?_)
 rw [if_neg (show ¬ ((Value.none == rawInt L) = true) from by simp [rawInt])]
 refine wpAny_bind (wpAny_setField hT hTd (Array.getElem?_eq_some_iff.mp h3).1 ?_)
 have hd' := Obj.data_mapFields hTd (·.setIfInBounds 3 Value.none)
 have other : ∀ b, b ≠ T -> (s.heap.update T (Obj.mapFields (·.setIfInBounds 3 Value.none))).get? b = s.heap.get? b := fun b hb => Heap.get?_update_ne _ _ _ _ hb
 have self := Heap.get?_update_self (Obj.mapFields (·.setIfInBounds 3 Value.none)) hT (Obj.isFreed_of_fields hd')
 have hdT : dx ≠ T := fun y => by obtain ⟨o', es, ep, z, zd, _⟩ := hn.1; rw [y, hT] at z; cases z; rw [hTd] at zd; cases zd
 refine fly_entry (s := { s with heap := _ }) (dx := dx) (msg := msg) hfr ?_ hf ((other e hTe.symm).trans he) (Array.getElem?_eq_some_iff.mp h1).1 (fun b o hb => (other b fun q => by rw [q, hTb] at hb; cases hb).trans (x1 b o hb)) x2 x3 (hn.at fun o q => (other dx hdT).trans q) hdx
  ⟨fun b o q z => (other b fun y => by rw [y, hT0] at q; cases q).trans (x6.kp b o q z), fun b o q => ?_⟩ hS (fun b hb o q => ?_) h
 ·exact Heap.FunFrames.of_keeps (fun b o hb hnf => ⟨o, (other b fun q => by rw [q, hT] at hb; cases hb; exact hnf ts hTd).trans hb, rfl⟩) x4
 ·obtain ⟨o', y⟩ := x6.ex b o q
  exact ⟨o', (other b fun w => by rw [w, hT0] at q; cases q).trans y⟩
 ·obtain ⟨sl, y⟩ := x7 b hb o q
  exact ⟨sl, (other b fun w => by rw [w, hT0] at q; cases q).trans y⟩
theorem fly_note0 {env : Env} {L e : Addr} {msg atv : Value} {S : List Addr} {h₀ : Heap} {Q : Unit -> Shared -> Prop} (hfr : A.frames = some (env :: outer)) (hf : env.frame = some L)
  (hl : s.heap.FunFrames base (env :: outer)) (hst : base.StaysIn s.heap) (x : Exc0 h₀ s.heap e msg atv) (hne : base.get? e = none) (hne0 : h₀.get? e = none)
  (hk : Kp S h₀ s.heap) (hS : ∀ a ∈ fr (env :: outer), a ∈ S \/ h₀.get? a = none) (hup : ∀ a ∈ fr (env :: outer), ∀ o, h₀.get? a = some o -> ∃ sl, s.heap.get? a = some { o with slots := sl })
  (h : ∀ h', FlyAt base (env :: outer) e atv (rawInt L) S h₀ h' -> Q () { s with heap := h' }) : wpAny (model PW w) A (noteFrame (.ref e) env) Q E s := by
 refine hideG ?_; intro PG9 hG9
 obtain ⟨tup, dx, he, hn, hde, hdx⟩ := x
 refine hG9 ?_; clear hG9 PG9
 unfold noteFrame
 simp only [hf]
 refine wpAny_bind (wpAny_field he rfl (x := .none) rfl ?_)
 exact fly_entry (dx := dx) (msg := msg) hfr hl hf he (by simp) hst hne hne0 hn hdx hk hS hup h
theorem fly_leave {env : Env} {L e : Addr} {atv : Value} {S : List Addr} {h₀ : Heap} {Q : Unit -> Shared -> Prop} (hfr : A.frames = some (env :: outer)) (hf : env.frame = some L)
  (x : FlyD base (env :: outer) e atv S h₀ s.heap) (hS : ∀ a ∈ fr (env :: outer), a ∈ S \/ h₀.get? a = none)
  (h : ∀ h', FlyD base outer e atv S h₀ h' -> Q () { s with heap := h' }) : wpAny (model PW w) A (leaving env (.ref e)) Q E s := by
 unfold leaving
 refine wpAny_bind (fly_note hfr hf x hS fun h₁ x₁ => ?_)
 refine fly_mark (s := { s with heap := h₁ }) (f := none) x₁ fun h₂ x₂ => h h₂ ?_
 exact ⟨x₂.stays, x₂.new, x₂.new₀, x₂.frames.2.2, x₂.ex, x₂.kp, fun b hb => x₂.up b (fr_tail hf hb)⟩
theorem fly_leave0 {env : Env} {L e : Addr} {msg atv : Value} {S : List Addr} {h₀ : Heap} {Q : Unit -> Shared -> Prop} (hfr : A.frames = some (env :: outer)) (hf : env.frame = some L)
  (hl : s.heap.FunFrames base (env :: outer)) (hst : base.StaysIn s.heap) (x : Exc0 h₀ s.heap e msg atv) (hne : base.get? e = none) (hne0 : h₀.get? e = none)
  (hk : Kp S h₀ s.heap) (hS : ∀ a ∈ fr (env :: outer), a ∈ S \/ h₀.get? a = none) (hup : ∀ a ∈ fr (env :: outer), ∀ o, h₀.get? a = some o -> ∃ sl, s.heap.get? a = some { o with slots := sl })
  (h : ∀ h', FlyD base outer e atv S h₀ h' -> Q () { s with heap := h' }) : wpAny (model PW w) A (leaving env (.ref e)) Q E s := by
 unfold leaving
 refine wpAny_bind (fly_note0 hfr hf hl hst x hne hne0 hk hS hup fun h₁ x₁ => ?_)
 refine fly_mark (s := { s with heap := h₁ }) (f := none) x₁ fun h₂ x₂ => h h₂ ?_
 exact ⟨x₂.stays, x₂.new, x₂.new₀, x₂.frames.2.2, x₂.ex, x₂.kp, fun b hb => x₂.up b (fr_tail hf hb)⟩
theorem FlyAt.back {e : Addr} {atv fl : Value} {S S' S₂ : List Addr} {h₀ h₁ h : Heap} (x : FlyAt base outer e atv fl S h₁ h) (k : Kp S' h₀ h₁) (hS : ∀ a, a ∈ S \/ a ∈ S' -> a ∈ S₂ \/ h₀.get? a = none) (hu : ∀ a ∈ fr outer, ∀ o, h₀.get? a = some o -> h₁.get? a = some o) : FlyAt base outer e atv fl S₂ h₀ h := by
 refine hideG ?_; intro PG9 hG9
 obtain ⟨x1, x2, x3, x4, ⟨vs, T, oT, ts, dx, msg, he, h1, hTb, hT0, hTe, hT, hTd, h3, hn, hdx⟩, x6, x7⟩ := x
 refine hG9 ?_; clear hG9 PG9
 refine ⟨x1, x2, k.fresh x3, x4, ⟨vs, T, oT, ts, dx, msg, he, h1, hTb, k.fresh hT0, hTe, hT, hTd, h3, hn, k.fresh hdx⟩, ⟨fun b o q z => ?_, fun b o q => ?_⟩, fun b hb o q => x7 b hb o (hu b hb o q)⟩
 ·have z1 : b ∉ S' := fun y => (hS b (.inr y)).elim z fun w => by rw [w] at q; cases q
  have z2 : b ∉ S := fun y => (hS b (.inl y)).elim z fun w => by rw [w] at q; cases q
  exact x6.kp b o (k.kp b o q z1) z2
 ·obtain ⟨o', y⟩ := k.ex b o q
  exact x6.ex b o' y
end
end
section
set_option tactic.hygienic false
open PySem PySem.W PyProof.Rows PySem.Calls PySem.Spec
section
variable {w : World} {mean : ExcName -> Option Value} {mg mb : Str -> Option Value} {A : Around} {base : Heap} {outer : List Env} {s : Shared} {R : Result -> Shared -> Prop} {E : Value -> Shared -> Prop}
theorem Exc0.back {h₀ h₁ h : Heap} {e : Addr} {msg atv : Value} {S : List Addr} (x : Exc0 h₁ h e msg atv) (k : Kp S h₀ h₁) : Exc0 h₀ h e msg atv :=
 let ⟨tup, dx, a, b, c, d⟩ := x.obj; ⟨tup, dx, a, b, c, k.fresh d⟩
section
variable {g h₀ : Heap} {L' a : Addr} {m' : Str -> Option Value} {news kn : List (Addr × Obj)} {S : List Addr} {s₁ : Shared} {name : Str} {scope : Scope} {cd : Value} {e : Addr} {h' : Heap} {tk : Nat} {E' : Value -> Shared -> Prop} {R' : Value -> Shared -> Prop}
theorem frames_up {kn : List (Addr × Obj)} {h : Heap} (B' : Below A base outer g) (F' : Fr g L' h m') (N' : News g L' h news) (hg : ∀ b o, h₀.get? b = some o -> b ∉ kn.map (·.1) -> g.get? b = some o)
  (hs : ∀ p ∈ kn, p ∈ news \/ (p.1 ∈ S /\ ∃ o, (p.1, o) ∈ news)) : ∀ a ∈ fr outer, ∀ o, h₀.get? a = some o -> h.get? a = some o := fun a ha o q => by
 by_cases hk : a ∈ kn.map (·.1)
 ·obtain ⟨p, hp, rfl⟩ := List.mem_map.mp hk
  refine hideG ?_; intro PG9 hG9
  obtain ⟨_, o', ho, _⟩ := B'.frames.mem ha
  refine hG9 ?_; clear hG9 PG9
  have z : g.get? p.1 = none := by
   rcases hs p hp with z | ⟨_, o2, z⟩
   ·exact (N' _ z).2.2
   ·exact (N' _ z).2.2
  rw [z] at ho; cases ho
 ·exact F'.keep _ _ (hg _ _ q hk)
theorem frames_upL {kn : List (Addr × Obj)} {h : Heap} {env : Env} (hf : env.frame = some L') (B' : Below A base outer g) (F' : Fr g L' h m') (N' : News g L' h news) (hg : ∀ b o, h₀.get? b = some o -> b ∉ kn.map (·.1) -> g.get? b = some o)
  (hs : ∀ p ∈ kn, p ∈ news \/ (p.1 ∈ S /\ ∃ o, (p.1, o) ∈ news)) : ∀ a ∈ fr (env :: outer), ∀ o, h₀.get? a = some o -> h.get? a = some o := fun a ha o q => by
 unfold fr at ha
 rw [List.filterMap_cons, hf] at ha
 rcases List.mem_cons.mp ha with z | z
 ·subst z
  by_cases hk : a ∈ kn.map (·.1)
  ·obtain ⟨p, hp, rfl⟩ := List.mem_map.mp hk
   rcases hs p hp with z | ⟨_, o2, z⟩
   ·exact absurd rfl (N' _ z).2.1
   ·exact absurd rfl (N' _ z).2.1
  ·have := hg _ _ q hk
   rw [Heap.get?_none_of_le F'.above] at this; cases this
 ·exact frames_up B' F' N' hg hs a z o q
end
end
end
section
set_option tactic.hygienic false
open PySem PySem.W PyProof.Rows PySem.Calls PySem.Spec
noncomputable abbrev nh (l : List Env) (A : Around) : Around := { A with handled := none, frames := some l }
theorem nh_ex {A : Around} {base h : Heap} {outer : List Env} (hh : A.handled = none) (B : Below A base outer h) : ∃ A₀ : Around, A = nh outer A₀ := ⟨A, by have := B.stack; cases A; cases hh; cases this; rfl⟩
section
variable {w : World} {mean : ExcName -> Option Value} {mg mb : Str -> Option Value} {A : Around} {base : Heap} {outer : List Env} {s : Shared} {R : Result -> Shared -> Prop} {E E' : Value -> Shared -> Prop} {R' : Value -> Shared -> Prop}
variable {g h₀ : Heap} {L' a : Addr} {m' : Str -> Option Value} {news kn : List (Addr × Obj)} {S : List Addr} {name : Str} {scope : Scope} {cd : Value}
inductive Sof (S : List Addr) : Prop
 | mk
end
theorem okU {g h h' : Heap} {L d : Addr} {m : Str -> Option Value} {news : List (Addr × Obj)} {o o' : Obj} {gg : Obj -> List (Addr × Obj)} (F : Fr g L h m) (N : News g L h news) (U : UpdF d o news gg) (k : Kp [d] h h') (hx : h'.get? d = some o') : Fr g L h' m /\ News g L h' (gg o') := by
 refine hideG ?_; intro PG9 hG9
 obtain ⟨pre, post, rfl, hg, a, b⟩ := U.split
 refine hG9 ?_; clear hG9 PG9
 have nd := N (d, o) (by simp)
 refine ⟨fr_kp F k (fun z hz => by rw [List.mem_singleton.mp hz]; exact nd.2.2) (fun hz => nd.2.1 (List.mem_singleton.mp hz).symm), ?_⟩
 rw [hg]
 intro p hp
 have ne : p.1 ≠ d -> p ∈ pre ++ post -> h'.get? p.1 = some p.2 /\ p.1 ≠ L /\ g.get? p.1 = none := fun q hq => by
  have y := N p (by rcases List.mem_append.mp hq with z | z <;> simp [z])
  exact ⟨k.kp _ _ y.1 (by simpa using q), y.2⟩
 rcases List.mem_append.mp hp with z | z
 ·exact ne (a p z) (List.mem_append_left _ z)
 ·rcases List.mem_cons.mp z with rfl | z
  ·exact ⟨hx, nd.2⟩
  ·exact ne (b p z) (List.mem_append_right _ z)
noncomputable abbrev srcD (w : World) (l : List UInt8) (at_ : Int) (t1 tb t2 ta : Tok) : Obj := dictOf [⟨PyData.keyHash w.params "data", .str "data" t1, .bytes l.toArray tb⟩, ⟨PyData.keyHash w.params "at", .str "at" t2, .int at_ ta⟩] 2
end
section
set_option tactic.hygienic false
open PySem PySem.W PyProof.Rows PySem.Calls PySem.Spec
theorem tkA {i k n : Nat} (h : i + k = n + 1) (hl : i < n) : n + 1 - (i + 1) < k := by omega
theorem tkB {i n : Nat} (hl : i < n) : i + 1 + (n + 1 - (i + 1)) = n + 1 := by omega
section
variable {w : World} {mean : ExcName -> Option Value} {mg mb : Str -> Option Value} {A : Around} {base : Heap} {outer : List Env} {s : Shared} {R : Result -> Shared -> Prop} {E : Value -> Shared -> Prop}
section
variable {g h₀ : Heap} {L' a : Addr} {m' : Str -> Option Value} {news kn : List (Addr × Obj)} {S : List Addr} {s₁ : Shared} {name : Str} {scope : Scope} {cd : Value} {e : Addr} {h' : Heap} {tk : Nat} {E' : Value -> Shared -> Prop} {R' : Value -> Shared -> Prop}
theorem body_raise0E {env : Env} (hf : env.frame = some L') {msg atv : Value} (B' : Below A base outer g) (F' : Fr g L' s₁.heap m') (N' : News g L' s₁.heap news) (hg : ∀ b o, h₀.get? b = some o -> b ∉ kn.map (·.1) -> g.get? b = some o) (hkn : ∀ p ∈ kn, h₀.get? p.1 = some p.2)
  (hs : ∀ p ∈ kn, p ∈ news \/ (p.1 ∈ S /\ ∃ o, (p.1, o) ∈ news)) (hL : h₀.get? L' = none) (x : Exc0 s₁.heap h' e msg atv) (k : Kp [] s₁.heap h') (hn : s₁.heap.get? e = none) (st : base.StaysIn h') (fl : h'.FunFrames base (env :: outer))
  (hq : ∀ h'', FlyD base outer e atv (S ++ fr outer) h₀ h'' -> R' (.ref e) { s₁ with heap := h'', toks := tk }) :
  wpAny (model PW w) (A.deeper env) (leaving env (.ref e)) (fun _ s'' => R' (.ref e) s'') E' { s₁ with heap := h', toks := tk } := by
 have k0 : Kp S h₀ s₁.heap := exitKp hg hkn F' N' hs
 have hb : base.get? e = none := by
  cases q : base.get? e with
  | none => rfl
  | some o => have := F'.keep _ _ (B'.stays _ _ q); rw [hn] at this; cases this
 refine fly_leave0 (s := { s₁ with heap := h', toks := tk }) (S := S ++ fr outer) (h₀ := h₀) (Around.frames_deeper B'.stack) hf fl st (x.back k0) hb (k0.fresh hn) ((k0.mono fun a z => .inl (List.mem_append_left _ z)).trans (k.mono fun _ z => nomatch z)) (fun a z => ?_) (fun a z o q => ⟨o.slots, k.kp a o (frames_upL hf B' F' N' hg hs a z o q) (fun y => nomatch y)⟩) hq
 unfold fr at z
 rw [List.filterMap_cons, hf] at z
 rcases List.mem_cons.mp z with z | z
 ·exact .inr (by rw [z]; exact hL)
 ·exact .inl (List.mem_append_right _ z)
theorem body_raiseE {env : Env} (hf : env.frame = some L') {atv : Value} {S₁ : List Addr} (B' : Below A base outer g) (F' : Fr g L' s₁.heap m') (N' : News g L' s₁.heap news) (hg : ∀ b o, h₀.get? b = some o -> b ∉ kn.map (·.1) -> g.get? b = some o) (hkn : ∀ p ∈ kn, h₀.get? p.1 = some p.2)
  (hs : ∀ p ∈ kn, p ∈ news \/ (p.1 ∈ S /\ ∃ o, (p.1, o) ∈ news)) (hL : h₀.get? L' = none) (x : FlyD base (env :: outer) e atv (S₁ ++ fr (env :: outer)) s₁.heap h') (hS : ∀ a ∈ S₁, a ∈ S \/ h₀.get? a = none)
  (hq : ∀ h'', FlyD base outer e atv (S ++ fr outer) h₀ h'' -> R' (.ref e) { s₁ with heap := h'', toks := tk }) :
  wpAny (model PW w) (A.deeper env) (leaving env (.ref e)) (fun _ s'' => R' (.ref e) s'') E' { s₁ with heap := h', toks := tk } := by
 have k0 : Kp S h₀ s₁.heap := exitKp hg hkn F' N' hs
 have key : ∀ a, a ∈ fr (env :: outer) -> a ∈ fr outer \/ h₀.get? a = none := fun a z => by
  unfold fr at z
  rw [List.filterMap_cons, hf] at z
  rcases List.mem_cons.mp z with z | z
  ·exact .inr (by rw [z]; exact hL)
  ·exact .inl z
 refine fly_leave (s := { s₁ with heap := h', toks := tk }) (S := S ++ fr outer) (h₀ := h₀) (Around.frames_deeper B'.stack) hf (x.back k0 (fun b z => ?_) (frames_upL hf B' F' N' hg hs)) (fun b z => ?_) hq
 ·rcases z with z | z
  ·rcases List.mem_append.mp z with z | z
   ·exact (hS b z).imp (fun y => List.mem_append_left _ y) id
   ·have z' : b ∈ fr (env :: outer) := z
    exact (key b z').imp (fun y => List.mem_append_right _ y) id
  ·exact .inl (List.mem_append_left _ z)
 ·have z' : b ∈ fr (env :: outer) := z
  exact (key b z').imp (fun y => List.mem_append_right _ y) id
end
theorem push_any {g h : Heap} {L : Addr} {m : Str -> Option Value} {env : Env} (B : Below A base outer g) (F : Fr g L h m) (hf : env.frame = some L) (hk : env.scope.kind = .function) : Below (A.deeper env) base (env :: outer) h := by
 have hnew : base.get? L = none := by
  cases hq : base.get? L with
  | none => rfl
  | some o => exact absurd (Nat.lt_of_lt_of_le (Heap.lt_size (B.stays L o hq)) F.above) (Nat.lt_irrefl _)
 refine ⟨Around.frames_deeper B.stack, fun b o e => F.keep b o (B.stays b o e), ?_⟩
 exact .cons (by rw [hk]; decide) hf F.ns hnew (B.frames.of_keeps fun b o e _ => ⟨o, F.keep b o e, rfl⟩)
noncomputable def NeA (a b : Nat) : Prop := a ≠ b
noncomputable def AllNe (D : Nat) : List (Addr × Obj) -> Prop
 | [] => True
 | p :: r => NeA p.1 D /\ AllNe D r
theorem allNe_of {D : Addr} : ∀ {l : List (Addr × Obj)}, (∀ p ∈ l, p.1 ≠ D) -> AllNe D l
 | [], _ => trivial
 | p :: _, h => ⟨h p (.head _), allNe_of fun q hq => h q (.tail _ hq)⟩
theorem okN {g h h' : Heap} {L D : Addr} {m : Str -> Option Value} {news news' : List (Addr × Obj)} {o : Obj} (F : Fr g L h m) (N : News g L h news) (N' : News g L h' news') (hsub : news'.map (·.1) = news.map (·.1)) (hD : h.get? D = none) (eD : h'.get? D = some o) : News g L h' ((D, o) :: news') /\ AllNe D news' := by
 refine hideG ?_; intro PG9 hG9
 obtain ⟨oL, es, ep, hL, _⟩ := F.ns
 refine hG9 ?_; clear hG9 PG9
 refine ⟨fun p hp => ?_, allNe_of fun p hp q => ?_⟩
 ·rcases List.mem_cons.mp hp with rfl | hp
  ·refine ⟨eD, fun q => ?_, ?_⟩
   ·have q : D = L := q
    subst q; rw [hD] at hL; cases hL
   ·cases q : g.get? D with
    | none => rfl
    | some o' => have := F.keep _ _ q; rw [hD] at this; cases this
  ·exact N' p hp
 ·have : p.1 ∈ news.map (·.1) := hsub ▸ List.mem_map_of_mem hp
  obtain ⟨p', hp', e⟩ := List.mem_map.mp this
  have := (N p' hp').1
  rw [e, q, hD] at this; cases this
end
theorem rs_one (a b : Int) : Builtin.Range.rangeSize a b 1 = ((b - a).toNat : Int) := by
 unfold Builtin.Range.rangeSize
 simp
 split <;> omega
theorem fresh_of {g h₀ : Heap} {D : Addr} {kn : List (Addr × Obj)} (hg : ∀ b o, h₀.get? b = some o -> b ∉ kn.map (·.1) -> g.get? b = some o) (hD : g.get? D = none) (hn : D ∉ kn.map (·.1)) : h₀.get? D = none := by
 cases q : h₀.get? D with
 | none => rfl
 | some o => rw [hg _ _ q hn] at hD; cases hD
theorem ngt {g h : Heap} {L a : Addr} {o : Obj} {news : List (Addr × Obj)} (N : News g L h news) (hm : (a, o) ∈ news) : h.get? a = some o := (N _ hm).1
theorem ngn {g h : Heap} {L a : Addr} {o : Obj} {news : List (Addr × Obj)} (N : News g L h news) (hm : (a, o) ∈ news) : g.get? a = none := (N _ hm).2.2
end
section
set_option tactic.hygienic false
open PySem PySem.W PyProof.Rows PySem.Calls PySem.Spec
noncomputable def TurnEnd (h₀ : Heap) (L I : Addr) (oI : Obj) (J : (Str -> Option Value) -> List (Addr × Obj) -> Prop) (s₁ s₂ : Shared) : Prop :=
 ∃ h' tk m' nw, s₂ = { s₁ with heap := h', toks := tk } /\ Fr h₀ L h' m' /\ News h₀ L h' ((I, oI) :: nw) /\ AllNe I nw /\ J m' nw
noncomputable def TurnJ (h₀ : Heap) (L I : Addr) (oI : Obj) (J : (Str -> Option Value) -> List (Addr × Obj) -> Prop) (s₁ : Shared) (Q : Flow -> Shared -> Prop) (f : Flow) (s₂ : Shared) : Prop :=
 match f with
 | .ret v => Q (.ret v) s₂
 | .brk => Q .next s₂
 | _ => TurnEnd h₀ L I oI J s₁ s₂
theorem allNe_mem {D : Addr} : ∀ {l : List (Addr × Obj)}, AllNe D l -> ∀ p ∈ l, p.1 ≠ D
 | [], _, _, h => by cases h
 | q :: r, x, p, h => by
  rcases List.mem_cons.mp h with e | h
  ·rw [e]; exact x.1
  ·exact allNe_mem x.2 p h
end
section
set_option tactic.hygienic false
open PySem PySem.W PyProof.Rows PySem.Calls PySem.Spec
noncomputable def FlyX (base : Heap) (outer : List Env) (e : Addr) (atv : Value) (S : List Addr) (h₀ h : Heap) : Prop := ∃ fl, FlyAt base outer e atv fl S h₀ h
section
variable {w : World} {A : Around} {base : Heap} {outer : List Env} {s : Shared} {E : Value -> Shared -> Prop} {h₀ : Heap} {e L : Addr} {atv : Value} {S : List Addr}
theorem flyX_note {env env0 : Env} {Q : Unit -> Shared -> Prop} (hfr : A.frames = some (env0 :: outer)) (hf0 : env0.frame = some L) (hf : env.frame = some L)
  (x : FlyX base (env0 :: outer) e atv S h₀ s.heap) (hS : ∀ a ∈ fr (env0 :: outer), a ∈ S \/ h₀.get? a = none)
  (h : ∀ h', FlyX base (env0 :: outer) e atv S h₀ h' -> Q () { s with heap := h' }) : wpAny (model PW w) A (noteFrame (.ref e) env) Q E s := by
 obtain ⟨fl, x⟩ := x
 have x0 := x
 refine hideG ?_; intro PG9 hG9
 obtain ⟨x1, x2, x3, x4, ⟨vs, T, oT, ts, dx, msg, he, h1, hTb, hT0, hTe, hT, hTd, h3, hn, hdx⟩, x6, x7⟩ := x
 refine hG9 ?_; clear hG9 PG9
 unfold noteFrame
 simp only [hf]
 have hfo : PySem.frameOf env = PySem.frameOf env0 := by unfold PySem.frameOf; rw [hf, hf0]
 rw [hfo]
 refine wpAny_bind (wpAny_field he rfl h1 ?_)
 refine wpAny_bind (wpAny_field hT hTd h3 ?_)
 by_cases q : (fl == rawInt L) = true
 ·rw [if_pos q]
  exact wpAny_pure (h s.heap ⟨fl, x0⟩)
 rw [if_neg q]
 refine wpAny_bind (wpAny_setField hT hTd (Array.getElem?_eq_some_iff.mp h3).1 ?_)
 have hd' := Obj.data_mapFields hTd (·.setIfInBounds 3 Value.none)
 have other : ∀ b, b ≠ T -> (s.heap.update T (Obj.mapFields (·.setIfInBounds 3 Value.none))).get? b = s.heap.get? b := fun b hb => Heap.get?_update_ne _ _ _ _ hb
 have self := Heap.get?_update_self (Obj.mapFields (·.setIfInBounds 3 Value.none)) hT (Obj.isFreed_of_fields hd')
 have hdT : dx ≠ T := fun y => by obtain ⟨o', es, ep, z, zd, _⟩ := hn.1; rw [y, hT] at z; cases z; rw [hTd] at zd; cases zd
 refine fly_entry (s := { s with heap := _ }) (dx := dx) (msg := msg) hfr ?_ hf0 ((other e hTe.symm).trans he) (Array.getElem?_eq_some_iff.mp h1).1 (fun b o hb => (other b fun q => by rw [q, hTb] at hb; cases hb).trans (x1 b o hb)) x2 x3 (hn.at fun o q => (other dx hdT).trans q) hdx
  ⟨fun b o q z => (other b fun y => by rw [y, hT0] at q; cases q).trans (x6.kp b o q z), fun b o q => ?_⟩ hS (fun b hb o q => ?_) fun h' y => h h' ⟨_, y⟩
 ·exact Heap.FunFrames.of_keeps (fun b o hb hnf => ⟨o, (other b fun q => by rw [q, hT] at hb; cases hb; exact hnf ts hTd).trans hb, rfl⟩) x4
 ·obtain ⟨o', y⟩ := x6.ex b o q
  exact ⟨o', (other b fun w => by rw [w, hT0] at q; cases q).trans y⟩
 ·obtain ⟨sl, y⟩ := x7 b hb o q
  exact ⟨sl, (other b fun w => by rw [w, hT0] at q; cases q).trans y⟩
theorem flyX_leave {env : Env} {Q : Unit -> Shared -> Prop} (hfr : A.frames = some (env :: outer)) (hf : env.frame = some L)
  (x : FlyX base (env :: outer) e atv S h₀ s.heap) (hS : ∀ a ∈ fr (env :: outer), a ∈ S \/ h₀.get? a = none)
  (h : ∀ h', FlyD base outer e atv S h₀ h' -> Q () { s with heap := h' }) : wpAny (model PW w) A (leaving env (.ref e)) Q E s := by
 unfold leaving
 refine wpAny_bind (flyX_note hfr hf hf x hS fun h₁ x₁ => ?_)
 obtain ⟨fl, x₁⟩ := x₁
 refine fly_mark (s := { s with heap := h₁ }) (f := none) x₁ fun h₂ x₂ => h h₂ ?_
 exact ⟨x₂.stays, x₂.new, x₂.new₀, x₂.frames.2.2, x₂.ex, x₂.kp, fun b hb => x₂.up b (fr_tail hf hb)⟩
theorem flyX_passOn {l : List Env} {env : Env} {what : String} {Q : Value -> Shared -> Prop} (x : FlyX base l e atv S h₀ s.heap)
  (h : ∀ h', FlyX base l e atv S h₀ h' -> E (.ref e) { s with heap := h' }) : wpAny (model PW w) A (passOn what (.ref e) env : Sem Value) Q E s := by
 obtain ⟨fl, x⟩ := x
 have x0 := x
 refine hideG ?_; intro PG9 hG9
 obtain ⟨x1, x2, x3, x4, ⟨vs, T, oT, ts, dx, msg, he, h1, hTb, hT0, hTe, hT, hTd, h3, hn, hdx⟩, x6, x7⟩ := x
 refine hG9 ?_; clear hG9 PG9
 refine wpAny_bind (wpAny_field he rfl h1 ?_)
 refine wpAny_bind (fly_mark x0 fun h' y => ?_)
 exact wpAny_throw (h h' ⟨_, y⟩)
theorem flyX_but {l : List Env} {C : Addr} {hs h h' : Heap} {S' S₂ : List Addr} (x : FlyX base l e atv S h₀ h) (hb : Heap.SameBut C h h') (h1 : base.get? C = none) (h3 : C ∉ fr l) (h4 : ∃ o, h₀.get? C = some o) (h5 : hs.get? C = none)
  (k : Kp S' hs h₀) (hS : ∀ a, a ∈ S \/ a ∈ S' -> a ∈ S₂ \/ hs.get? a = none) (hu : ∀ a ∈ fr l, ∀ o, hs.get? a = some o -> h₀.get? a = some o) : FlyX base l e atv S₂ hs h' := by
 refine hideG ?_; intro PG9 hG9
 obtain ⟨fl, x1, x2, x3, x4, ⟨vs, T, oT, ts, dx, msg, he, hh1, hTb, hT0, hTe, hT, hTd, hh3, hn, hdx⟩, x6, x7⟩ := x
 refine hG9 ?_; clear hG9 PG9
 obtain ⟨oC, h4⟩ := h4
 have ne : ∀ a, h₀.get? a = none -> a ≠ C := fun a ha q => by rw [q, h4] at ha; cases ha
 have k6 : Kp S₂ hs h := ⟨fun b o q z => by
  have z1 : b ∉ S' := fun y => (hS b (.inr y)).elim z fun w => by rw [w] at q; cases q
  have z2 : b ∉ S := fun y => (hS b (.inl y)).elim z fun w => by rw [w] at q; cases q
  exact x6.kp b o (k.kp b o q z1) z2, fun b o q => by
  obtain ⟨o', y⟩ := k.ex b o q
  exact x6.ex b o' y⟩
 have neC : ∀ b o, hs.get? b = some o -> b ≠ C := fun b o q z => by rw [z, h5] at q; cases q
 have frs : ∀ {l : List Env}, h.FunFrames base l -> C ∉ fr l -> h'.FunFrames base l := by
  intro l
  induction l with
  | nil => intro _ _; trivial
  | cons env l ih =>
   intro hz09 hc
   refine hideG ?_; intro PG9 hG9
   obtain ⟨hk, ⟨L, o, hf, hn, ho, hd⟩, hr⟩ := hz09
   refine hG9 ?_; clear hG9 PG9
   have hc2 : C ≠ L /\ C ∉ fr l := by
    unfold fr at hc ⊢
    rw [List.filterMap_cons, hf] at hc
    exact ⟨fun q => hc (by rw [q]; exact .head _), fun q => hc (.tail _ q)⟩
   exact ⟨hk, ⟨L, o, hf, hn, (hb.2 _ hc2.1.symm).trans ho, hd⟩, ih hr hc2.2⟩
 refine ⟨fl, fun b o q => (hb.2 b fun z => by rw [z, h1] at q; cases q).trans (x1 b o q), x2, k.fresh x3, frs x4 h3, ?_, ⟨fun b o q z => (hb.2 b (neC b o q)).trans (k6.kp b o q z), fun b o q => ?_⟩, fun b hb o q => ?_⟩
 ·exact ⟨vs, T, oT, ts, dx, msg, (hb.2 _ (ne _ x3)).trans he, hh1, hTb, k.fresh hT0, hTe, (hb.2 _ (ne _ hT0)).trans hT, hTd, hh3, hn.at fun o q => (hb.2 _ (ne _ hdx)).trans q, k.fresh hdx⟩
 ·obtain ⟨o', y⟩ := k6.ex b o q
  exact ⟨o', (hb.2 b (neC b o q)).trans y⟩
 ·obtain ⟨sl, y⟩ := x7 b hb o (hu b hb o q)
  exact ⟨sl, (‹Heap.SameBut C h h'›.2 b (neC b o q)).trans y⟩
end
section
variable {w : World} {A : Around} {base : Heap} {outer : List Env} {s : Shared} {E : Value -> Shared -> Prop} {h₀ : Heap} {L : Addr} {S : List Addr} {m : Str -> Option Value} {env : Env} {R : Result -> Shared -> Prop}
variable {g hst : Heap} {L' : Addr} {m' : Str -> Option Value} {news kn : List (Addr × Obj)}
theorem body_raiseX {E' : Value -> Shared -> Prop} {R2 : Shared -> Prop} {sx : Shared} {e : Addr} {h' : Heap} {tk : Nat} {atv : Value} (hf : env.frame = some L') (B' : Below A base outer g) (hL : hst.get? L' = none) (x : FlyX base (env :: outer) e atv (S ++ fr outer) hst h')
  (hq : ∀ h'', FlyD base outer e atv (S ++ fr outer) hst h'' -> R2 { sx with heap := h'', toks := tk }) :
  wpAny (model PW w) (A.deeper env) (leaving env (.ref e)) (fun _ s'' => R2 s'') E' { sx with heap := h', toks := tk } := by
 refine flyX_leave (s := { sx with heap := h', toks := tk }) (Around.frames_deeper B'.stack) hf x (fun a z => ?_) hq
 unfold fr at z
 rw [List.filterMap_cons, hf] at z
 rcases List.mem_cons.mp z with z | z
 ·exact .inr (by rw [z]; exact hL)
 ·exact .inl (List.mem_append_right _ z)
noncomputable def CompErr (base : Heap) (env : Env) (outer : List Env) (hs : Heap) (S : List Addr) (PE : Value -> Prop) (C : Addr) (s : Shared) (v : Value) (s' : Shared) : Prop :=
 ∃ e atv S₁ h₁ h' tk, v = .ref e /\ s' = { s with heap := h', toks := tk } /\ FlyX base (env :: outer) e atv (S₁ ++ fr (env :: outer)) h₁ h' /\ (∃ m, h₁.Ns C m) /\ C ∉ S₁ /\ C ∉ fr (env :: outer) /\ base.get? C = none /\ hs.get? C = none /\ Kp S hs h₁ /\ (∀ a ∈ S₁, a ∈ S \/ hs.get? a = none) /\ PE atv /\ (∀ a ∈ fr (env :: outer), ∀ o, hs.get? a = some o -> h₁.get? a = some o)
theorem compErr_out {s₂ : Shared} {hs : Heap} {PE : Value -> Prop} {C : Addr} {v : Value} {s' : Shared} {cenv : Env} {acc : Value} {use : Option (Value -> Sem Unit)} {Q : Value -> Shared -> Prop}
  (hfr : A.frames = some (env :: outer)) (hf : env.frame = some L) (hf2 : cenv.frame = some L) (hL : hs.get? L = none)
  (hE : ∀ e atv h' tk, PE atv -> FlyX base (env :: outer) e atv (S ++ fr outer) hs h' -> E (.ref e) { s₂ with heap := h', toks := tk })
  (x : CompErr base env outer hs S PE C s₂ v s') : notedBy (model PW w) A cenv (fun e s'' => compPost (model PW w) A E use Q acc C (.error e) s'') v s' := by
 refine hideG ?_; intro PG9 hG9
 obtain ⟨e, atv, S₁, h₁, h', tk, rfl, rfl, x, ⟨mC, hC⟩, hC1, hC2, hCb, hCs, k, hS, hPE, hu⟩ := x
 refine hG9 ?_; clear hG9 PG9
 refine flyX_note (s := { s₂ with heap := h', toks := tk }) hfr hf hf2 x (fun a ha => .inl (List.mem_append_right _ ha)) fun h'' x2 => ?_
 have hC' : h''.Ns C mC := hC.at' fun o q => by
  obtain ⟨fl, y⟩ := x2
  exact y.kp.kp _ _ q fun z => (List.mem_append.mp z).elim hC1 hC2
 have key : ∀ h3, Heap.SameBut C h'' h3 -> ∀ cenv' : Env, cenv'.locals = C -> wpAny (model PW w) A (passOn "comprehension.variables-let-go" (.ref e) cenv' : Sem Value) (fun _ _ => False) E { s₂ with heap := h3, toks := tk } := by
  intro h3 hb cenv' _
  refine hideG ?_; intro PG9 hG9
  obtain ⟨oC, _, _, e1, _⟩ := hC
  refine hG9 ?_; clear hG9 PG9
  refine flyX_passOn (s := { s₂ with heap := h3, toks := tk }) (flyX_but (S₂ := S ++ fr outer) x2 hb hCb hC2 ⟨oC, e1⟩ hCs k (fun a ha => ?_) hu) fun h4 x5 => hE e atv h4 tk hPE x5
  rcases ha with ha | ha
  ·rcases List.mem_append.mp ha with ha | ha
   ·exact (hS a ha).imp (fun y => List.mem_append_left _ y) id
   ·unfold fr at ha
    rw [List.filterMap_cons, hf] at ha
    rcases List.mem_cons.mp ha with ha | ha
    ·exact .inr (by rw [ha]; exact hL)
    ·exact .inl (List.mem_append_right _ ha)
  ·exact .inl (List.mem_append_left _ ha)
 cases use <;> exact ⟨mC, hC', key⟩
end
end
section
set_option tactic.hygienic false
open PySem PySem.W PyProof.Rows PySem.Calls PySem.Spec
section
variable {w : World} {A : Around} {s : Shared} {E : Value -> Shared -> Prop} {h₀ : Heap} {L : Addr} {m : Str -> Option Value} {env : Env} {news : List (Addr × Obj)}
noncomputable def ElEnd (h₀ : Heap) (L : Addr) (m : Str -> Option Value) (s₁ : Shared) (I : Addr) (oI : Obj) (C : Addr) (oC : Obj) (D : Addr) (oD : Obj) (Jn : Value -> List (Addr × Obj) -> Prop) (y : Value) (s₂ : Shared) : Prop :=
 ∃ h' tk nw, s₂ = { s₁ with heap := h', toks := tk } /\ Fr h₀ L h' m /\ News h₀ L h' ((I, oI) :: (C, oC) :: (D, oD) :: nw) /\ AllNe I nw /\ AllNe C nw /\ AllNe D nw /\ Jn y nw
end
end
section
set_option tactic.hygienic false
open PySem PySem.W PyProof.Rows PySem.Calls PySem.Spec
section
variable {w : World} {A : Around} {base : Heap} {outer : List Env} {s : Shared} {E : Value -> Shared -> Prop} {h₀ hs : Heap} {L : Addr} {S : List Addr} {m : Str -> Option Value} {env : Env} {news : List (Addr × Obj)} {PE : Value -> Prop}
section
variable {elt : Expr} {x : Str} {scope : Scope} {cl : List (Str × Addr)} {EL : Addr -> Shared -> Value -> Shared -> Prop} {Fin : List Value -> List (Addr × Obj) -> Shared -> Prop}
theorem freshC {h : Heap} {C : Addr} {o : Obj} (q : (h.push o).get? C = none) : h.get? C = none := by
 cases e : h.get? C with
 | none => rfl
 | some o' => rw [Heap.get?_push_of_some _ e] at q; cases q
end
end
end
section
set_option tactic.hygienic false
open PySem PySem.W PyProof.Rows PySem.Calls PySem.Spec
theorem okNs {g h h' : Heap} {L : Addr} {m : Str -> Option Value} {news news' new : List (Addr × Obj)} (F : Fr g L h m) (N : News g L h news) (N' : News g L h' news') (hsub : news'.map (·.1) = news.map (·.1)) (hD : ∀ p ∈ new, h'.get? p.1 = some p.2 /\ h.get? p.1 = none) : News g L h' (new ++ news') /\ ∀ p ∈ new, AllNe p.1 news' := by
 refine ⟨fun p hp => ?_, fun p hp => (okN F N N' hsub (hD p hp).2 (hD p hp).1).2⟩
 rcases List.mem_append.mp hp with hp | hp
 ·exact (okN F N N' hsub (hD p hp).2 (hD p hp).1).1 _ (.head _)
 ·exact N' p hp
end
section
set_option tactic.hygienic false
open PySem PySem.W PyProof.Rows PySem.Calls PySem.Spec
noncomputable def badIds : List String := Builtin.Bytes.decodersThatHold ++ ["bytearray.__contains__", "bytearray.__mod__", "bytearray.__rmod__", "_struct.pack_into.held", "bytearray.find.held"]
noncomputable def bad : Code -> Bool
 | .builtin id _ => badIds.contains id
 | _ => false
noncomputable def ClB (Γ : PySem.Ctx) : Prop := ∀ x ∈ Γ.below, bad x.1 = false
noncomputable def Cl (Γ : PySem.Ctx) : Prop := bad Γ.code = false /\ ClB Γ
noncomputable def wpS {α : Type} (M : Model) (A : Around) (t : Sem α) (Q : α -> Shared -> Prop) (E : Value -> Shared -> Prop) (s : Shared) : Prop :=
 ∀ Γ p, Γ.In A -> Cl Γ -> Sem.wp M Γ t (fun a _ s' => Q a s') (fun e _ s' => E e s') p s
noncomputable def codeS (M : Model) (A : Around) (c : Code) (R : Result -> Shared -> Prop) (s : Shared) : Prop :=
 ∀ Γ p, Γ.code = c -> Γ.Below A -> ClB Γ -> wpCode M Γ R p s
section
variable {α β : Type} {M : Model} {A : Around} {E : Value -> Shared -> Prop} {s : Shared}
theorem wpS_any {t : Sem α} {Q : α -> Shared -> Prop} (h : wpAny M A t Q E s) : wpS M A t Q E s := fun Γ p hΓ _ => h Γ p hΓ
theorem codeS_any {c : Code} {R : Result -> Shared -> Prop} (h : codeAny M A c R s) : codeS M A c R s := fun Γ p hc hΓ _ => h Γ p hc hΓ
theorem wpS_mono {t : Sem α} {Q Q' : α -> Shared -> Prop} {E' : Value -> Shared -> Prop} (h : wpS M A t Q E s) (hQ : ∀ a s, Q a s -> Q' a s) (hE : ∀ e s, E e s -> E' e s) : wpS M A t Q' E' s :=
 fun Γ p hΓ hc => Sem.wp_mono M Γ t (fun a _ s => hQ a s) (fun e _ s => hE e s) p s (h Γ p hΓ hc)
theorem codeS_mono {c : Code} {R R' : Result -> Shared -> Prop} (h : codeS M A c R s) (hR : ∀ r s, R r s -> R' r s) : codeS M A c R' s := fun Γ p hc hΓ hb => wpCode_mono hR (h Γ p hc hΓ hb)
theorem wpS_bind {m : Sem α} {f : α -> Sem β} {Q : β -> Shared -> Prop} (h : wpS M A m (fun a s' => wpS M A (f a) Q E s') E s) : wpS M A (m >>= f) Q E s := fun Γ p hΓ hc => by
 rw [Sem.wp_bind']
 exact Sem.wp_mono M Γ m (fun a p' s' h' => h' Γ p' hΓ hc) (fun _ _ _ h' => h') p s (h Γ p hΓ hc)
theorem wpS_bindA {m : Sem α} {f : α -> Sem β} {Q : β -> Shared -> Prop} (h : wpAny M A m (fun a s' => wpS M A (f a) Q E s') E s) : wpS M A (m >>= f) Q E s := wpS_bind (wpS_any h)
theorem wpS_pure {a : α} {Q : α -> Shared -> Prop} (h : Q a s) : wpS M A (pure a) Q E s := wpS_any (wpAny_pure h)
theorem wpS_holding {vs : List Value} {m : Sem α} {Q : α -> Shared -> Prop} (h : wpS M A m Q E s) : wpS M A (holding vs m) Q E s := fun Γ p hΓ hc => by rw [Sem.wp_holding]; exact h Γ p hΓ hc
theorem wpS_keep {vs : List Value} {m : Sem α} {Q : α -> Shared -> Prop} (h : wpS M A m Q E s) : wpS M A (m.keep vs) Q E s := fun Γ p hΓ hc => by rw [Sem.wp_keep]; exact h Γ p hΓ hc
theorem wpS_attempt {m : Sem α} {Q : Except Value α -> Shared -> Prop} (h : wpS M A m (fun a => Q (.ok a)) (fun e => Q (.error e)) s) : wpS M A m.attempt Q E s := fun Γ p hΓ hc => by rw [Sem.wp_attempt]; exact h Γ p hΓ hc
theorem wpS_onRaise {m : Sem α} {k : Value -> Sem Unit} {Q : α -> Shared -> Prop} (h : wpS M A m Q (fun e s' => wpAny M A (k e) (fun _ s'' => E e s'') E s') s) : wpS M A (m.onRaise k) Q E s := fun Γ p hΓ hc => by
 rw [Sem.wp_onRaise]
 exact Sem.wp_mono M Γ m (fun _ _ _ h' => h') (fun e p' s' h' => h' Γ p' hΓ) p s (h Γ p hΓ hc)
theorem cl_enter {Γ : PySem.Ctx} {c : Code} {h : Option Value} {p : Pos} (hc : Cl Γ) : ClB (Γ.enter c h p) := fun x hx => by
 rcases List.mem_cons.mp hx with rfl | hx
 ·exact hc.1
 ·exact hc.2 x hx
theorem wpS_run {c : Code} {h : Option Value} {Q : Flow -> Shared -> Prop}
  (hc : codeS M (A.mark h) c (fun r s' => match r with | .ok f => Q f s' | .error e => E e s') s) (hnb : h ≠ some byPass := by intro x; cases x) : wpS M A (run c h) Q E s :=
 fun Γ p hΓ hb => by rw [Sem.wp_run]; exact hc _ p rfl (hΓ.enter c h p hnb) (cl_enter hb)
theorem wpS_runValue {c : Code} {Q : Value -> Shared -> Prop}
  (hc : codeS M A c (fun r s' => match r with | .ok (.ret v) => Q v s' | .ok _ => False | .error e => E e s') s) : wpS M A (runValue c) Q E s := fun Γ p hΓ hb => by rw [Sem.wp_runValue]; exact hc _ p rfl (hΓ.enter c none p (by intro x; cases x)) (cl_enter hb)
theorem wpS_call {f : Value} {pos : List Value} {kw : List (Str × Value)} {Q : Value -> Shared -> Prop}
  (hc : codeS M A (.call f ⟨pos, kw⟩) (fun r s' => match r with | .ok (.ret v) => Q v s' | .ok _ => False | .error e => E e s') s) : wpS M A (call f pos kw) Q E s := wpS_runValue hc
theorem codeS_of_tree {c : Code} {R : Result -> Shared -> Prop} (hb : bad c = false)
  (h : wpS M (A.under c) (M.den c) (fun fin s' => match fin with | .done f => R (.ok f) s' | .again c' => c'.quiet = true /\ codeS M A c' R s') (fun e s' => R (.error e) s') s) : codeS M A c R s := fun Γ p hc hΓ hcl => by
 rw [wpCode_iff_wp, hc]
 refine Sem.wp_mono M Γ _ (fun fin p' s' h' => ?_) (fun _ _ _ h' => h') p s (h Γ p (hc ▸ hΓ.in) ⟨hc ▸ hb, hcl⟩)
 cases fin with
 | done f => exact h'
 | again c' => exact ⟨h'.1, h'.2 (Γ.goto c') p' rfl (hΓ.goto c') hcl⟩
theorem codeS_loop {c : Code} {R : Result -> Shared -> Prop} (hb : bad c = false) (hq : c.quiet = true) (I : Nat -> Shared -> Prop)
  (turn : ∀ n s, I n s -> wpS M (A.under c) (M.den c) (fun fin s' => match fin with | .done f => R (.ok f) s' | .again c' => c' = c /\ ∃ m, m < n /\ I m s') (fun e s' => R (.error e) s') s)
  (n : Nat) (h : I n s) : codeS M A c R s := by
 induction n using Nat.strongRecOn generalizing s with
 | ind n ih =>
  refine codeS_of_tree hb (wpS_mono (turn n s h) (fun fin s' hf => ?_) fun _ _ h' => h')
  cases fin with
  | done f => exact hf
  | again c' => obtain ⟨rfl, m, hm, hI⟩ := hf; exact ⟨hq, ih m hm hI⟩
variable {env : Env}
theorem wpS_execs_cons {st : Stmt} {rest : List Stmt} {Q : Flow -> Shared -> Prop} (h : wpS M A (exec st env) (fun f s' => match f with | .next => wpS M A (execs rest env) Q E s' | f => Q f s') E s) : wpS M A (execs (st :: rest) env) Q E s := by
 rw [execs_cons]
 refine wpS_bind (wpS_mono h (fun f s' h' => ?_) fun _ _ x => x)
 cases f <;> first | exact h' | exact wpS_pure h'
theorem wpS_Return_some {e : Expr} {pos : Pos} {Q : Flow -> Shared -> Prop} (h : wpS M A (eval e env) (fun v s' => Q (.ret v) s') E s) : wpS M A (exec (.Return (some e) pos) env) Q E s := by
 rw [arm_exec_Return]
 exact wpS_bindA (wpAny_standAt (wpS_bind (wpS_mono h (fun v s' h' => wpS_pure h') fun _ _ x => x)))
theorem wpS_callWith {f : Value} {first : List Value} {pos : Pos} {Q : Value -> Shared -> Prop} {P : Heap -> Prop} {args : List (Bool × Sem Value)} {keywords : List (Option Str × Sem Value)} (hplain : (args.any (·.1) || keywords.any (·.1.isNone)) = false)
  (hk : ∀ h, P h -> ∃ k, (k = Keeper.frame \/ k = Keeper.machine \/ k = Keeper.boundFrame) /\ Looks M h (keeperOf f) k)
  (h : wpS M A (evalArgs f true args keywords) (fun a s₁ => P s₁.heap /\ wpS M A (call f (first ++ a.pos) a.kw) Q E s₁) E s) : wpS M A (callWith pos f first args keywords) Q E s := by
 unfold callWith
 refine wpS_bind (wpS_holding (wpS_mono h (fun a s₁ h₁ => wpS_bindA (wpAny_standAt ?_)) fun _ _ x => x))
 obtain ⟨k, hk', L⟩ := hk _ h₁.1
 simp only [hplain]
 refine wpS_bindA (L.here ?_)
 have tail : ∀ {t : Sem Value}, wpS M A t Q E s₁ -> wpS M A (t >>= fun r => holding [r] point >>= fun _ => pure r) Q E s₁ :=
  fun ht => wpS_bind (wpS_mono ht (fun r s₂ hr => wpS_any (wpAny_bind (wpAny_holding (wpAny_point (wpAny_pure hr))))) fun _ _ x => x)
 have marked (mk : Value) : wpS M A (callMarked mk f (first ++ a.pos) a.kw) Q E s₁ := by unfold callMarked; exact wpS_keep h₁.2
 rcases hk' with rfl | rfl | rfl <;> dsimp only <;> first | exact tail h₁.2 | (split <;> first | exact tail h₁.2 | exact tail (marked _))
end
end
section
set_option tactic.hygienic false
open PySem PySem.W PyProof.Rows PySem.Calls PySem.Spec
section
variable {M : Model} {A : Around} {E : Value -> Shared -> Prop} {s : Shared} {env : Env}
theorem wpS_Assign_Tuple {elts k tpos value pos} {Q : Flow -> Shared -> Prop} (h : wpS M A (eval value env) (fun v s₁ => wpAny M A (assign (.Tuple elts k tpos) env v) (fun _ => Q .next) E s₁) E s)
  (hs : swapsWithSole [.Tuple elts k tpos] value pos.line env = pure false) (hw : swappedStores [.Tuple elts k tpos] value env = pure none) : wpS M A (exec (.Assign [.Tuple elts k tpos] value pos) env) Q E s := by
 rw [exec_Assign]
 refine wpS_bindA (wpAny_standAt ?_)
 rw [hs]
 refine wpS_bindA (wpAny_pure ?_)
 refine wpS_bind (wpS_mono h (fun v s₁ h₁ => ?_) fun _ _ x => x)
 rw [hw]
 refine wpS_any (wpAny_bind (wpAny_pure ?_))
 refine wpAny_bind (wpAny_mono h₁ (fun _ _ z => ?_) fun _ _ z => z)
 first | exact z | exact wpAny_pure z | exact wpAny_bind (wpAny_pure (wpAny_pure z))
theorem wpS_Call {func : Expr} {args : List Expr} {pos : Pos} {Q : Value -> Shared -> Prop} (h : wpAny M A (eval func env) (fun f s₁ => wpS M A (callWith pos f [] (backTo pos (starEach args env)) []) Q E s₁) E s)
  (he : eval (.Call func args [] pos) env = (do callWith pos (<- eval func env) [] (backTo pos (starEach args env)) (backToKw pos (keywordEach [] env)))) : wpS M A (eval (.Call func args [] pos) env) Q E s := by
 rw [he]; exact wpS_bindA h
section
variable {K : Frag} {f : Value} {first : List Value} {pos : Pos} {Q : Value -> Shared -> Prop}
theorem keeps_mach (h : keeperOf f = pure Keeper.machine) (hp : Heap) (_ : True) : ∃ k, (k = Keeper.frame \/ k = Keeper.machine \/ k = Keeper.boundFrame) /\ Looks M hp (keeperOf f) k := ⟨_, .inr (.inl rfl), .of_pure h⟩
end
end
section
variable {prog : Program} {w : World} {A : Around} {s : Shared} {R : Result -> Shared -> Prop}
theorem codeS_func {body : List Stmt} {env : Env}
  (h : wpS (model prog w) (A.deeper env) (execs body env) (fun f s' => R (.ok (.ret (match f with | .ret v => v | _ => .none))) s')
   (fun e s' => wpAny (model prog w) (A.deeper env) (leaving env e) (fun _ s'' => R (.error e) s'') (fun e' s'' => R (.error e') s'') s') s) : codeS (model prog w) A (.func body env) R s := by
 refine codeS_of_tree rfl ?_
 show wpS _ (A.deeper env) (do point; match <- (execs body env).onRaise (leaving env) with | .ret v => ret v | _ => ret .none) _ _ s
 refine wpS_bindA (wpAny_point (wpS_bind (wpS_onRaise (wpS_mono h (fun f s' h' => ?_) fun _ _ h' => h'))))
 cases f <;> exact wpS_pure h'
theorem codeS_call_function {a : Addr} {args : Args} {o : Obj} {fd : FuncData} {body : List Stmt} (hroom : A.depth < recursionLimit) (ho : s.heap.get? a = some o)
  (hd' : o.data = .func fd) (hco : fd.scope.isCoroutine = false) (hgen : fd.scope.isGenerator = false) (hbody : fd.body = .stmts body) (hcd : s.heap.CodeRec fd.code fd.qualname)
  (h : wpAny (model prog w) A.in1 (bindArgs fd args) (fun binds s₁ =>
   wpAny (model prog w) A.in1 (newFunctionEnv fd.scope fd.globals fd.closure binds (fd.qualname ++ ".<locals>.") (some a) fd.code none fd.builtins)
    (fun env s₂ => s₂.heap.NoLimit /\ codeS (model prog w) A (.func body env) R s₂) (fun e s' => R (.error e) s') s₁) (fun e s' => R (.error e) s') s) :
  codeS (model prog w) A (.call (.ref a) args) R s := by
 refine codeS_of_tree rfl ?_
 show wpS _ A.in1 (callAny (.ref a) args) _ _ s
 refine wpS_bindA (wpAny_load ho ?_)
 refine hideG ?_; intro PG9 hG9
 obtain ⟨c, oc, vs, tq, hc, hoc, hdc, hq⟩ := hcd
 refine hG9 ?_; clear hG9 PG9
 simp only [hd', callFunction, hco, hgen, hbody, hc]
 rw [hc] at h
 refine wpS_any (wpAny_bind (m := field (.ref c) 1) (wpAny_field hoc hdc hq (wpAny_bind (wpAny_pure ?_))))
 exact wpAny_bind (wpAny_mono h (fun binds s₁ h₁ => wpAny_bind (wpAny_mono h₁ (fun env s₂ h₂ => wpAny_bind (wpAny_enterFrame h₂.1 hroom (wpAny_pure (And.intro rfl h₂.2)))) fun _ _ h' => h')) fun _ _ h' => h')
end
section
variable {w : World} {mean : ExcName -> Option Value} {mg mb : Str -> Option Value} {prog : Program} {A : Around} {base : Heap} {outer : List Env} {s : Shared} {kn : List (Addr × Obj)} {R : Result -> Shared -> Prop}
 {name qual : Str} {params : Arguments} {body : List Stmt} {scope : Scope} {dV kV doc pm cdv ct oc : Value} {an od : Option Addr} {osl : Array (Option Value)} {f : Addr} {args : Args} {binds : List (Str × Value)}
theorem enterS (kn : List (Addr × Obj)) (B : Below A base outer s.heap) (G : Gd w mean mg mb base) (hkn : Kn base outer s.heap kn)
  (ho : (hd.heap_1 w.params).lookup f = some ⟨oc, od, .func (fnOf name qual params body scope dV kV doc pm an cdv ct), osl⟩)
  (hcd : codeIn (hd.heap_1 w.params) cdv qual = true) (hroom : A.depth < recursionLimit)
  (hbind : BindsTo s (fnOf name qual params body scope dV kV doc pm an cdv ct) args binds) (hloc : ∀ y ∈ binds, scope.names.lookup y.1 = some .local)
  (h : ∀ g L' h₁, Fr g L' h₁ (fun y => binds.reverse.lookup y) -> News g L' h₁ kn -> Below A base outer g -> (hd.heap_1 w.params).In g -> Top topProg LO mean mg mb g -> (∀ b o, s.heap.get? b = some o -> b ∉ kn.map (·.1) -> g.get? b = some o) -> s.heap.get? L' = none ->
   wpS (model prog w) (A.deeper (envOf qual scope L' f cdv)) (execs body (envOf qual scope L' f cdv))
    (fun fl s' => R (.ok (.ret (match fl with | .ret v => v | _ => .none))) s')
    (fun e s' => wpAny (model prog w) (A.deeper (envOf qual scope L' f cdv)) (leaving (envOf qual scope L' f cdv) e) (fun _ s'' => R (.error e) s'') (fun e' s'' => R (.error e') s'') s')
    { s with heap := h₁, toks := s.toks + binds.length })
  (hco : scope.isCoroutine = false) (hgen : scope.isGenerator = false) (hk : scope.kind = .function)
  (hcell : ∀ x ∈ scope.names, x.2 ≠ .cell) : codeS (model prog w) A (.call (.ref f) args) R s := by
 have nb : ∀ b o, base.get? b = some o -> b ∉ kn.map (·.1) := fun b o e q => by
  obtain ⟨p, hp, rfl⟩ := List.mem_map.mp q
  rw [(hkn p hp).2.1] at e; cases e
 have st : base.StaysIn (hideAll s.heap (kn.map (·.1))) := fun b o e => hideAll_get _ (B.stays b o e) (nb b o e)
 refine codeS_call_function (fd := fnOf name qual params body scope dV kV doc pm an cdv ct) hroom (B.stays _ _ (G.kin _ _ ho)) rfl hco hgen rfl (codeRec_of (G.kin.keeps B.stays) hcd) (hbind _ _ _ _ ?_)
 refine wpAny_newFunctionEnv hcell hloc (fun h₁ hns hsb => ⟨(G.top.nolimit.keeps B.stays).fresh _ hsb, codeS_func ?_⟩) hk
 have hk₁ : ∀ b o, s.heap.get? b = some o -> h₁.get? b = some o := fun b o e => hsb.extBut b o (Nat.ne_of_lt (Heap.lt_size e)) (Heap.get?_push_of_some _ e)
 exact h _ s.heap.objs.size h₁ ⟨hns, fun b o e => hk₁ b o (of_hideAll _ e), Nat.le_of_eq (hideAll_size _ _)⟩
  (fun p hp => ⟨hk₁ _ _ (hkn p hp).1, Nat.ne_of_lt (Heap.lt_size (hkn p hp).1), hideAll_none _ (List.mem_map_of_mem hp)⟩)
  ⟨B.stack, st, funFrames_hide' B.frames fun a ha q => by
   obtain ⟨p, hp, rfl⟩ := List.mem_map.mp ha
   exact (hkn p hp).2.2 q⟩ (G.kin.keeps st) (G.top.keeps st) (fun b o e q => hideAll_get _ e q) (Heap.get?_none_of_le (Nat.le_refl _))
theorem enterSC (kn : List (Addr × Obj)) (B : Below A base outer s.heap) (G : Gd w mean mg mb base) (hkn : Kn base outer s.heap kn)
  (ho : (hd.heap_1 w.params).lookup f = some ⟨oc, od, .func (fnOf name qual params body scope dV kV doc pm an cdv ct), osl⟩)
  (hcd : codeIn (hd.heap_1 w.params) cdv qual = true) (hroom : A.depth < recursionLimit)
  (hbind : BindsTo s (fnOf name qual params body scope dV kV doc pm an cdv ct) args binds) (hkind : (binds.all fun y => scope.names.lookup y.1 == some .local || scope.names.lookup y.1 == some .cell) = true)
  (hnd : ((cellsFrom 0 scope.names []).map (·.1)).Nodup)
  (h : ∀ g L' h₁ tk cells, Fr g L' h₁ (bindL (envOfC qual scope L' f cdv).kindOf binds fun _ => none) -> News g L' h₁ (cells ++ kn) ->
   CellsAre (bindC (envOfC qual scope L' f cdv).kindOf binds fun _ => none) (cellsFrom (L' + 1) scope.names []) cells -> Below A base outer g -> (hd.heap_1 w.params).In g -> Top topProg LO mean mg mb g -> (∀ b o, s.heap.get? b = some o -> b ∉ kn.map (·.1) -> g.get? b = some o) -> s.heap.get? L' = none -> (∀ p ∈ kn, p.1 < L') ->
   wpS (model prog w) (A.deeper (envOfC qual scope L' f cdv)) (execs body (envOfC qual scope L' f cdv))
    (fun fl s' => R (.ok (.ret (match fl with | .ret v => v | _ => .none))) s')
    (fun e s' => wpAny (model prog w) (A.deeper (envOfC qual scope L' f cdv)) (leaving (envOfC qual scope L' f cdv) e) (fun _ s'' => R (.error e) s'') (fun e' s'' => R (.error e') s'') s')
    { s with heap := h₁, toks := tk })
  (hco : scope.isCoroutine = false) (hgen : scope.isGenerator = false) (hk : scope.kind = .function) : codeS (model prog w) A (.call (.ref f) args) R s := by
 have nb : ∀ b o, base.get? b = some o -> b ∉ kn.map (·.1) := fun b o e q => by
  obtain ⟨p, hp, rfl⟩ := List.mem_map.mp q
  rw [(hkn p hp).2.1] at e; cases e
 have st : base.StaysIn (hideAll s.heap (kn.map (·.1))) := fun b o e => hideAll_get _ (B.stays b o e) (nb b o e)
 refine codeS_call_function (fd := fnOf name qual params body scope dV kV doc pm an cdv ct) hroom (B.stays _ _ (G.kin _ _ ho)) rfl hco hgen rfl (codeRec_of (G.kin.keeps B.stays) hcd) (hbind _ _ _ _ ?_)
 refine wpAny_newFunctionEnv_cells hk (kindsX hkind _) fun env' he s' x => ?_
 subst he
 refine ⟨(G.top.nolimit.keeps B.stays).keeps x.toInCall.keep, codeS_func ?_⟩
 refine hideG ?_; intro PG9 hG9
 obtain ⟨h₁, tk, rfl, _⟩ := x.done
 refine hG9 ?_; clear hG9 PG9
 have hk₁ := x.toInCall.keep
 obtain ⟨cells, NC, Y⟩ := Cl.news (h₀ := s.heap) (Nat.le_refl _) fun n c hm => ⟨x.cell n c (lookup_of_mem_nodup (cellsFrom_names scope.names 0 (s.heap.objs.size + 1) [] [] rfl ▸ hnd) hm), x.above n c hm⟩
 refine h _ s.heap.objs.size h₁ tk cells ⟨x.toInCall.ns, fun b o e => hk₁ b o (of_hideAll _ e), Nat.le_of_eq (hideAll_size _ _)⟩ (fun p hp => ?_) Y
  ⟨B.stack, st, funFrames_hide' B.frames fun a ha q => by
   obtain ⟨p, hp, rfl⟩ := List.mem_map.mp ha
   exact (hkn p hp).2.2 q⟩ (G.kin.keeps st) (G.top.keeps st) (fun b o e q => hideAll_get _ e q) (Heap.get?_none_of_le (Nat.le_refl _)) (fun p hp => Heap.lt_size (hkn p hp).1)
 rcases List.mem_append.mp hp with hp | hp
 ·refine ⟨(NC p hp).1, (NC p hp).2.1, ?_⟩
  cases q : (hideAll s.heap (kn.map (·.1))).get? p.1 with
  | none => rfl
  | some o => have := of_hideAll _ q; rw [(NC p hp).2.2] at this; cases this
 ·exact ⟨hk₁ _ _ (hkn p hp).1, Nat.ne_of_lt (Heap.lt_size (hkn p hp).1), hideAll_none _ (List.mem_map_of_mem hp)⟩
end
end
section
set_option tactic.hygienic false
open PySem PySem.W PyProof.Rows PySem.Calls PySem.Spec
open Builtin Builtin.Bytes
noncomputable abbrev baO (l : List UInt8) : Obj := { cls := .type "bytearray", data := .bytearray l.toArray }
theorem slot_ba_extend : Slot "bytearray" "extend" "bytearray.extend" :=
 .of (owner := "bytearray") (n := "extend") (by rw [typeLookup_type, builtinLookup_eq_fast]; kernel_rfl) (by decide +kernel) (by decide +kernel) (by decide +kernel) (by first | exact .inl (by decide +kernel) | exact .inr (by decide +kernel)) (by rw [isSubtype_type]; kernel_rfl)
theorem slot_ba_len : Slot "bytearray" "__len__" "bytearray.__len__" :=
 .of (owner := "bytearray") (n := "__len__") (by rw [typeLookup_type, builtinLookup_eq_fast]; kernel_rfl) (by decide +kernel) (by decide +kernel) (by decide +kernel) (by first | exact .inl (by decide +kernel) | exact .inr (by decide +kernel)) (by rw [isSubtype_type]; kernel_rfl)
theorem slot_ba_init : Slot "bytearray" "__init__" "bytearray.__init__" :=
 .of (owner := "bytearray") (n := "__init__") (by rw [typeLookup_type, builtinLookup_eq_fast]; kernel_rfl) (by decide +kernel) (by decide +kernel) (by decide +kernel) (by first | exact .inl (by decide +kernel) | exact .inr (by decide +kernel)) (by rw [isSubtype_type]; kernel_rfl)
theorem entry_ba_extend : entryFor table "bytearray.extend" = some Builtin.«bytearray.extend» := by first | exact entryFor_of_fast (by kernel_rfl) | exact entryFor_of_tree (by kernel_rfl)
theorem entry_ba_len : entryFor table "bytearray.__len__" = some Builtin.«bytearray.__len__» := by first | exact entryFor_of_fast (by kernel_rfl) | exact entryFor_of_tree (by kernel_rfl)
theorem entry_ba_init : entryFor table "bytearray.__init__" = some Builtin.«bytearray.__init__» := by first | exact entryFor_of_fast (by kernel_rfl) | exact entryFor_of_tree (by kernel_rfl)
theorem args_ba_extend (a b : Value) : argsOk "bytearray.extend" ⟨[a, b], []⟩ := by unfold argsOk; kernel_rfl
theorem args_ba_len (a : Value) : argsOk "bytearray.__len__" ⟨[a], []⟩ := by unfold argsOk; kernel_rfl
theorem args_ba_init (a : Value) : argsOk "bytearray.__init__" ⟨[a], []⟩ := by unfold argsOk; kernel_rfl
theorem look_bytes_buffer : typeLookup (.type "bytes") "__buffer__" = pure (some (.builtin "bytes.__buffer__")) := by rw [typeLookup_type, builtinLookup_eq_fast]; kernel_rfl
theorem look_bytes_release : typeLookup (.type "bytes") "__release_buffer__" = pure none := by rw [typeLookup_type, builtinLookup_eq_fast]; kernel_rfl
theorem look_ba_buffer : typeLookup (.type "bytearray") "__buffer__" = pure (some (.builtin "bytearray.__buffer__")) := by rw [typeLookup_type, builtinLookup_eq_fast]; kernel_rfl
theorem look_ba_release : typeLookup (.type "bytearray") "__release_buffer__" = pure (some (.builtin "bytearray.__release_buffer__")) := by rw [typeLookup_type, builtinLookup_eq_fast]; kernel_rfl
theorem look_ba_bytes : typeLookup (.type "bytearray") "__bytes__" = pure none := by rw [typeLookup_type, builtinLookup_eq_fast]; kernel_rfl
theorem look_ba_index : typeLookup (.type "bytearray") "__index__" = pure none := by rw [typeLookup_type, builtinLookup_eq_fast]; kernel_rfl
theorem sub_bytes : isSubtype (.type "bytes") (.type "bytes") = pure true := by rw [isSubtype_type]; kernel_rfl
theorem sub_ba : isSubtype (.type "bytearray") (.type "bytearray") = pure true := by rw [isSubtype_type]; kernel_rfl
theorem str1 : ("bytes.__buffer__".endsWith ("." ++ "__buffer__")) = true := by decide +kernel
theorem str2 : ("bytes.__buffer__".dropRight ("__buffer__".length + 1)) = "bytes" := by decide +kernel
theorem str3 : ("bytearray.__buffer__".endsWith ("." ++ "__buffer__")) = true := by decide +kernel
theorem str4 : ("bytearray.__buffer__".dropRight ("__buffer__".length + 1)) = "bytearray" := by decide +kernel
theorem str5 : ("bytearray.__release_buffer__".endsWith ("." ++ "__release_buffer__")) = true := by decide +kernel
theorem str6 : ("bytearray.__release_buffer__".dropRight ("__release_buffer__".length + 1)) = "bytearray" := by decide +kernel
section
variable {M : Model} {A : Around} {E : Value -> Shared -> Prop} {s : Shared}
theorem own_bytes {b : Array UInt8} {t : Tok} {Q : Bool -> Shared -> Prop} (h : Q true s) : wpAny M A (slotIsOwn (.bytes b t) "__buffer__") Q E s := by
 unfold slotIsOwn
 refine wpAny_bind (wpAny_specialOf (typeIs_bytes _ _ _) look_bytes_buffer ?_)
 dsimp only
 rw [str1, str2]
 exact wpAny_isInstance (typeIs_bytes _ _ _) sub_bytes h
theorem rel_bytes {b : Array UInt8} {t : Tok} {Q : Bool -> Shared -> Prop} (h : Q false s) : wpAny M A (ownRelease (.bytes b t)) Q E s := by
 refine wpAny_bind (wpAny_bind (wpAny_specialOf (typeIs_bytes _ _ _) look_bytes_release ?_))
 exact wpAny_pure (wpAny_pure h)
theorem own_ba {a : Addr} {Q : Bool -> Shared -> Prop} (hT : s.TypeIs (.ref a) "bytearray") (h : Q true s) : wpAny M A (slotIsOwn (.ref a) "__buffer__") Q E s := by
 unfold slotIsOwn
 refine wpAny_bind (wpAny_specialOf hT look_ba_buffer ?_)
 dsimp only
 rw [str3, str4]
 exact wpAny_isInstance hT sub_ba h
theorem rel_ba {a : Addr} {Q : Bool -> Shared -> Prop} (hT : s.TypeIs (.ref a) "bytearray") (h : Q false s) : wpAny M A (ownRelease (.ref a)) Q E s := by
 refine wpAny_bind (wpAny_bind (wpAny_specialOf hT look_ba_release ?_))
 dsimp only
 rw [str5, str6]
 exact wpAny_isInstance hT sub_ba (wpAny_pure h)
theorem payload_bytes {b : Array UInt8} {t : Tok} {Q : Array UInt8 -> Shared -> Prop} (h : Q b s) : wpAny M A (payload (.bytes b t)) Q E s := by
 exact wpAny_bind (wpAny_pure (wpAny_pure h))
theorem payload_ba {a : Addr} {l : List UInt8} {Q : Array UInt8 -> Shared -> Prop} (ho : s.heap.get? a = some (baO l)) (h : Q l.toArray s) : wpAny M A (payload (.ref a)) Q E s := by
 exact wpAny_bind (wpAny_bind (wpAny_load ho (wpAny_pure (wpAny_pure h))))
theorem buffer_bytes {id : String} {b : Array UInt8} {t : Tok} {full : Bool} {Q : Option (Array UInt8) -> Shared -> Prop} (h : Q (some b) s) : wpAny M A (buffer? id (.bytes b t) full) Q E s := by
 unfold buffer?
 refine wpAny_bind (wpAny_specialOf (typeIs_bytes _ _ _) look_bytes_buffer ?_)
 dsimp only
 refine wpAny_bind (own_bytes ?_)
 refine wpAny_bind (wpAny_specialOf (typeIs_bytes _ _ _) look_bytes_buffer ?_)
 (try dsimp only)
 refine wpAny_bind (rel_bytes ?_)
 refine wpAny_bind (payload_bytes ?_)
 exact wpAny_pure h
theorem buffer_ba {id : String} {a : Addr} {l : List UInt8} {full : Bool} {Q : Option (Array UInt8) -> Shared -> Prop} (ho : s.heap.get? a = some (baO l)) (h : Q (some l.toArray) s) : wpAny M A (buffer? id (.ref a) full) Q E s := by
 have hT : s.TypeIs (.ref a) "bytearray" := ⟨_, ho, rfl⟩
 refine wpAny_bind (wpAny_specialOf hT look_ba_buffer ?_)
 dsimp only
 refine wpAny_bind (own_ba hT ?_)
 refine wpAny_bind (wpAny_specialOf hT look_ba_buffer ?_)
 (try dsimp only)
 refine wpAny_bind (rel_ba hT ?_)
 refine wpAny_bind (payload_ba ho ?_)
 exact wpAny_pure h
theorem take_bytes {id : String} {b : Array UInt8} {t : Tok} {f : Int} {Q : Option (Array UInt8 × Option Value) -> Shared -> Prop} (h : Q (some (b, none)) s) : wpAny M A (takeBufferQuiet? id (.bytes b t) f) Q E s := by
 refine wpAny_bind (wpAny_attempt ?_)
 refine wpAny_bind (wpAny_specialOf (typeIs_bytes _ _ _) look_bytes_buffer ?_)
 dsimp only
 refine wpAny_bind (own_bytes ?_)
 refine wpAny_bind (wpAny_specialOf (typeIs_bytes _ _ _) look_bytes_buffer ?_)
 (try dsimp only)
 refine wpAny_bind (buffer_bytes ?_)
 exact wpAny_pure (wpAny_pure h)
theorem dn {p : Prop} [Decidable p] {α : Type} {a : p -> α} {b : ¬ p -> α} {c : α} (h : ¬ p) (q : b h = c) : dite p a b = c := (dif_neg h).trans q
theorem exported_S {v : Value} {Q : Bool -> Shared -> Prop} (h : Q false s) : wpS M A (exported v) Q E s := fun Γ p _ hc => by
 show Q (((Γ.code, p) :: Γ.below).any _) s
 have e : ∀ x ∈ (Γ.code, p) :: Γ.below, bad x.1 = false := fun x hx => by
  rcases List.mem_cons.mp hx with rfl | hx
  ·exact hc.1
  ·exact hc.2 x hx
 rw [List.any_eq_false.mpr ?_]
 ·exact h
 rintro ⟨c, q⟩ hx
 have hb := e _ hx
 clear e hx
 dsimp only at hb
 cases c with
 | builtin i args =>
  have h1 : i ∉ badIds := fun h => Bool.noConfusion ((show badIds.contains i = true from List.elem_iff.mpr h).symm.trans hb)
  have h2 : ∀ {n : String}, n ∈ badIds -> ¬ i = n := fun h e => h1 (e ▸ h)
  refine Bool.eq_false_iff.mp ?_
  delta exported.match_1
  refine dn (p := i = "bytearray.__contains__") (h2 (by decide)) (dn (p := i = "bytearray.__mod__") (h2 (by decide)) (dn (p := i = "bytearray.__rmod__") (h2 (by decide)) (dn (p := i = "_struct.pack_into.held") (h2 (by decide)) (dn (p := i = "bytearray.find.held") (h2 (by decide)) ?_))))
  obtain ⟨pos, kw⟩ := args
  cases pos with
  | nil => rfl
  | cons v r =>
   show (_ && decodersThatHold.contains i) = false
   cases h3 : decodersThatHold.contains i with
   | false => exact Bool.and_false _
   | true => exact absurd (List.mem_append_left _ (List.elem_iff.mp h3)) h1
 | _ => exact Bool.eq_false_iff.mp rfl
theorem bad_of {i : String} {args : Args} (h : badIds.contains i = false) : bad (.builtin i args) = false := h
theorem resize_S {a : Addr} {l : List UInt8} {Q : Unit -> Shared -> Prop} (ho : s.heap.get? a = some (baO l)) (h : Q () s) : wpS M A (checkResize (.ref a)) Q E s := by
 unfold checkResize
 refine wpS_bind ?_
 unfold orM
 refine wpS_bind (exported_S ?_)
 refine wpS_any (wpAny_bind (wpAny_bind (wpAny_load ho (wpAny_pure (wpAny_pure ?_)))))
 exact wpS_pure h
end
section
variable {prog : Program} {w : World} {A : Around} {E : Value -> Shared -> Prop} {s : Shared} {R : Result -> Shared -> Prop}
theorem codeS_builtin {id : String} {args : Args} {b : Builtin} (hbad : bad (.builtin id args) = false) (hb : entryFor table id = some b)
  (h : wpS (model prog w) (A.under (.builtin id args)) (b args)
   (fun fin s' => match fin with | .done f => R (.ok f) s' | .again c' => c'.quiet = true /\ codeS (model prog w) A c' R s') (fun e s' => R (.error e) s') s) :
  codeS (model prog w) A (.builtin id args) R s := by
 refine codeS_of_tree hbad ?_
 show wpS _ _ (match entryFor table id with | some b => b args | none => unsupported ((withoutEnding? id "#data").getD id)) _ _ s
 rw [hb]; exact h
theorem codeS_call_builtin {id : String} {args : Args} {b : Builtin} (hq : plainId id = true) (hbad : bad (.builtin id args) = false) (hb : entryFor table id = some b)
  (h : wpAny (model prog w) A.in1 (checkBuiltinCall id args) (fun _ s₁ => wpS (model prog w) A.in1 (b args)
   (fun fin s' => match fin with | .done f => R (.ok f) s' | .again c' => c'.quiet = true /\ codeS (model prog w) A c' R s') (fun e s' => R (.error e) s') s₁)
   (fun e s' => R (.error e) s') s) : codeS (model prog w) A (.call (.builtin id) args) R s := by
 refine codeS_of_tree rfl ?_
 show wpS _ A.in1 (do checkBuiltinCall id args; again (.builtin id args)) _ _ s
 refine wpS_bindA (wpAny_mono h (fun _ s₁ h₁ => wpS_pure (And.intro (plainId_quiet hq _) (codeS_builtin hbad hb ?_))) fun _ _ h' => h')
 rw [Around.under_plainId hq args]; exact h₁
theorem write_ba {a : Addr} {l : List UInt8} {f : Array UInt8 -> Array UInt8} {l' : List UInt8} {Q : Unit -> Shared -> Prop} (ho : s.heap.get? a = some (baO l)) (e : f l.toArray = l'.toArray) (hz : l'.length <= sizeLine)
  (h : ∀ h', Heap.SameBut a s.heap h' -> h'.get? a = some (baO l') -> Q () { s with heap := h' }) : wpAny (model prog w) A (write (.ref a) f) Q E s := by
 show wpAny _ _ (updateBytearray a f) _ _ _
 refine wpAny_bind (wpAny_load ho ?_)
 refine wpAny_bind (wpAny_update ho ?_)
 have h2 : (s.heap.update a (Obj.mapBytearray f)).get? a = some (baO l') := by
  have := Heap.get?_update_self (Obj.mapBytearray f) ho rfl
  rw [this]
  show some ({ cls := .type "bytearray", data := .bytearray (f l.toArray) } : Obj) = _
  rw [e]
 refine wpAny_lookBehind h2 ?_ (h _ (Heap.SameBut.update ..) h2)
 show (if l'.toArray.size > sizeLine then some "bytearray:memory" else none) = none
 rw [if_neg]
 rw [List.size_toArray]; omega
theorem extend_S {a : Addr} {l b : List UInt8} {t : Tok} {Q : Value -> Shared -> Prop} (ho : s.heap.get? a = some (baO l)) (hz : l.length + b.length <= 1000000)
  (h : ∀ h', Heap.SameBut a s.heap h' -> h'.get? a = some (baO (l ++ b)) -> Q .none { s with heap := h' }) : wpS (model prog w) A (call (.builtin "bytearray.extend") [.ref a, .bytes b.toArray t]) Q E s := by
 have hT : s.TypeIs (.ref a) "bytearray" := ⟨_, ho, rfl⟩
 refine wpS_call (codeS_call_builtin slot_ba_extend.plain (bad_of (by decide +kernel)) entry_ba_extend (slot_ba_extend.check _ _ _ _ _ _ _ _ hT (args_ba_extend _ _) ?_))
 refine wpS_bindA (wpAny_of_eq (a := (.ref a, .bytes b.toArray t)) rfl ?_)
 dsimp only
 refine wpS_bindA (wpAny_specialOf (typeIs_bytes _ _ _) look_bytes_buffer ?_)
 refine wpS_bindA (wpAny_rule ?_)
 refine wpS_bindA (payload_ba ho ?_)
 refine wpS_bindA (take_bytes ?_)
 dsimp only
 have hz' : (l ++ b).length <= sizeLine := by rw [List.length_append, sizeLine_eq]; omega
 show wpS _ _ (if (!b.toArray.isEmpty) = true then (checkResize (.ref a) >>= fun _ => write (.ref a) (· ++ b.toArray) >>= fun _ => ret .none) else (write (.ref a) (· ++ b.toArray) >>= fun _ => ret .none)) _ _ _
 split
 ·exact wpS_bind (resize_S ho (wpS_any (wpAny_bind (write_ba ho (by simp) hz' fun h' hs e => wpAny_pure (h h' hs e)))))
 ·exact wpS_any (wpAny_bind (write_ba ho (by simp) hz' fun h' hs e => wpAny_pure (h h' hs e)))
theorem len_ba {a : Addr} {l : List UInt8} {Q : Value -> Shared -> Prop} (ho : s.heap.get? a = some (baO l)) (h : Q (.int (l.length : Int) s.toks) { s with toks := s.toks + 1 }) : wpAny (model prog w) A (call (.builtin "bytearray.__len__") [.ref a]) Q E s := by
 refine wpAny_call_entry slot_ba_len ⟨_, ho, rfl⟩ entry_ba_len ?_ (args_ba_len _)
 refine wpAny_bind (wpAny_of_eq (a := (.ref a, [])) rfl ?_)
 refine wpAny_bind (payload_ba ho ?_)
 refine wpAny_bind (wpAny_mkInt (wpAny_pure ⟨_, rfl, ?_⟩))
 simpa using h
theorem ba_new {a : Addr} {l : List UInt8} {Q : Value -> Shared -> Prop} (ho : s.heap.get? a = some (baO l)) (hz : l.length <= sizeLine) (hQ : ∀ t k, Q (.bytes l.toArray t) { s with toks := k }) :
  codeAny (model prog w) A (.call (.builtin "bytes.__new__") ⟨[.type "bytes", .ref a], []⟩) (wants Q E) s := by
 refine codeAny_of_tree ?_
 show wpAny _ A.in1 (do checkBuiltinCall "bytes.__new__" ⟨[.type "bytes", .ref a], []⟩; again (.builtin "bytes.__new__" ⟨[.type "bytes", .ref a], []⟩)) _ _ s
 refine wpAny_bind (wpAny_of_eq (PySem.F.bm_newCall _) (wpAny_pure ⟨plainId_quiet PySem.F.bm_plain _, codeAny_builtin PySem.F.bm_entry ?_⟩))
 rw [Around.under_plainId PySem.F.bm_plain _]
 have hT : s.TypeIs (.ref a) "bytearray" := ⟨_, ho, rfl⟩
 refine wpAny_bind (wpAny_of_eq (a := true) rfl ?_)
 refine bm_if_false rfl ?_
 refine wpAny_bind (wpAny_of_eq PySem.F.bm_sub ?_)
 refine bm_if_false rfl ?_
 refine wpAny_bind (wpAny_of_eq (PySem.F.bm_bind _) ?_)
 refine wpAny_bind (wpAny_of_eq (a := ()) rfl ?_)
 refine wpAny_bind (wpAny_of_eq (a := ()) rfl ?_)
 refine bm_if_false rfl ?_
 refine wpAny_bind (wpAny_specialOf hT look_ba_bytes ?_)
 refine wpAny_bind (wpAny_bind ?_)
 refine wpAny_bind (wpAny_load ho ?_)
 refine wpAny_pure (wpAny_pure ?_)
 refine bm_if_false rfl ?_
 refine wpAny_bind (wpAny_specialOf hT look_ba_index ?_)
 refine bm_if_true rfl ?_
 first
  | show wpAny _ _ (Builtin.Bytes.buffer? "bytes.__new__" (.ref a) true >>= _) _ _ _
  | (refine wpAny_bind ?_; show wpAny _ _ (Builtin.Bytes.buffer? "bytes.__new__" (.ref a) true >>= _) _ _ _)
 refine wpAny_bind (buffer_ba ho ?_)
 refine wpAny_bind (wpAny_rule ?_)
 refine wpAny_bind (wpAny_mkBytes ?_ (by rw [List.size_toArray]; exact hz))
 first
  | exact wpAny_pure (hQ _ _)
  | exact wpAny_bind (wpAny_pure (wpAny_pure (hQ _ _)))
theorem bytes_of_ba {a : Addr} {l : List UInt8} {Q : Value -> Shared -> Prop} (ho : s.heap.get? a = some (baO l)) (hz : l.length <= 1000000) (hQ : ∀ t k, Q (.bytes l.toArray t) { s with toks := k }) : wpAny (model prog w) A (call (.type "bytes") [.ref a]) Q E s := by
 refine callType_codes (Q₁ := fun obj s₁ => s₁.TypeIs obj "bytes" /\ Q obj s₁) PySem.F.bm_called (PySem.F.bm_typeCall _) F.entry_object_init
  (ba_new ho (by rw [sizeLine_eq]; omega) fun t k => ⟨PySem.W.typeIs_bytes _ _ _, hQ t k⟩) fun obj s₁ h₁ => ?_
 exact ⟨h₁.1, F.args_object_init_2 obj _, object_init_meets PySem.F.bm_called.init.lookup PySem.F.bm_called.made (by decide) prog w A.in1 _ s₁ ⟨h₁.1, rfl, h₁.2⟩⟩
end
end
section
set_option tactic.hygienic false
open PySem PySem.W PyProof.Rows PySem.Calls PySem.Spec
section
variable {prog : Program} {w : World} {A : Around} {K : Frag} {C : Addr} {R : Result -> Shared -> Prop} {h : Heap} {g : Array GenState} {d : Drawn} {t : Nat} {os : OsState}
theorem makeS_core {rest : List Value} {kw : List (Str × Value)} {init : Value} (Y : Makes (model prog w) h C) (hi : Looks (model prog w) h (typeLookup (.ref C) "__init__") (some init))
  (hb : ∀ self, Looks (model prog w) h (bindSpecial init self) (init, [self])) (hne : (some init != some (Value.builtin "object.__init__")) = true \/ (rest = [] /\ kw = []))
  (hq : codeS (model prog w) (A.under (.builtin "type.__call__" ⟨.ref C :: rest, kw⟩)) (.call init ⟨.ref (h.objs.size + 1) :: rest, kw⟩) (InitBack (h.objs.size + 1) R) ⟨(h.push emptyDict).push (instObj C h.objs.size), g, d, t, os⟩) :
  codeS (model prog w) A (.call (.ref C) ⟨rest, kw⟩) R ⟨h, g, d, t, os⟩ := by
 have Y' := Y
 refine hideG ?_; intro PG9 hG9
 obtain ⟨⟨oc, od, cd, sl, hC, e1, e2, e4⟩, made, base, self, top, call, typ⟩ := Y
 refine hG9 ?_; clear hG9 PG9
 refine codeS_of_tree rfl ?_
 refine wpS_any ?_
 refine nd_load hC ?_
 show wpAny _ _ (callAny.viaDunder (.ref C) _) _ _ _
 refine wpAny_bind (call.at ?_)
 dsimp only
 rw [tc_bind]
 refine wpAny_bind (wpAny_pure (wpAny_bind (wpAny_pure ?_)))
 refine wpAny_pure (a := Fin.again (.call (.builtin "type.__call__") ⟨.ref C :: rest, kw⟩)) (And.intro rfl ?_)
 refine codeS_of_tree rfl ?_
 refine wpS_bindA (check_slot tc_kind tc_split typ (tc_args _ _ _) ?_)
 refine wpS_pure (And.intro (Code.quiet_builtin _ (by decide +kernel)) (codeS_builtin (bad_of (by decide +kernel)) entry_typeCall ?_))
 have hm : Looks (model prog w) h (mroOf (.ref C)) cd.mro := ((Looks.ld (part := none) hC).andThen .now).andThen .now
 refine wpS_bindA (hm.at ?_)
 simp only [e4, Bool.false_eq_true, if_false]
 refine wpS_bindA (made.at ?_)
 refine wpS_bindA (wpAny_pure ?_)
 refine wpS_bindA (wpAny_holding (wpAny_call (new_K Y' hi hne ?_)))
 have k : ∀ b o, h.get? b = some o -> ((h.push emptyDict).push (instObj C h.objs.size)).get? b = some o := fun b o e => Heap.get?_push_of_some _ (Heap.get?_push_of_some _ e)
 have hx : ((h.push emptyDict).push (instObj C h.objs.size)).get? (h.objs.size + 1) = some (instObj C h.objs.size) := by heap_get
 have t1 : Looks (model prog w) ((h.push emptyDict).push (instObj C h.objs.size)) (typeOf (.ref (h.objs.size + 1))) (.ref C) := (Looks.ld hx).andThen .now
 have s1 := self.keeps k
 have i1 := hi.keeps k
 have b1 := (hb (.ref (h.objs.size + 1))).keeps k
 have ii : Looks (model prog w) ((h.push emptyDict).push (instObj C h.objs.size)) (isInstance (.ref (h.objs.size + 1)) (.ref C)) true := t1.andThen s1
 refine wpS_bindA (ii.at ?_)
 refine wpS_bind (wpS_holding ?_)
 refine wpS_bindA ?_
 refine wpAny_bind (t1.at (i1.at ?_))
 refine wpS_holding (wpS_bindA (b1.at ?_))
 refine wpS_bind (wpS_call (codeS_mono hq fun r s' z => ?_))
 rcases r with e | (v | _ | _ | _) <;> first | exact z | exact z.elim | skip
 obtain ⟨rfl, z⟩ := z
 exact wpS_pure (wpS_pure z)
end
end
section
set_option tactic.hygienic false
open PySem PySem.W PyProof.Rows PySem.Calls PySem.Spec
theorem mro_ba : mroOf (.type "bytearray") = pure [.type "bytearray", .type "object"] := by rw [mroOf_type]; kernel_rfl
theorem lookup_ba_new : typeLookup (.type "bytearray") "__new__" = pure (some (.builtin "bytearray.__new__")) := by rw [typeLookup_type, builtinLookup_eq_fast]; kernel_rfl
theorem called_ba : TypeCalled "bytearray" "bytearray.__new__" "bytearray.__init__" :=
 ⟨by decide +kernel, by decide +kernel, ⟨_, _, mro_ba⟩, madeBy_type mro_ba lookup_ba_new (by decide +kernel), by decide +kernel, by rw [isSubtype_type]; kernel_rfl, slot_ba_init⟩
theorem typeCall_ba : checkTypeCall "bytearray" ⟨[], []⟩ = pure () := by kernel_rfl
theorem newCall_ba : checkBuiltinCall "bytearray.__new__" ⟨[.type "bytearray"], []⟩ = pure () := by kernel_rfl
theorem entry_ba_new : entryFor table "bytearray.__new__" = some Builtin.«list.__new__» :=
 entryFor_alias (id' := "list.__new__") (by kernel_rfl) rfl (by decide +kernel) (by kernel_rfl)
theorem plain_ba_new : plainId "bytearray.__new__" = true := by decide +kernel
theorem owner_ba_new : ("bytearray.__new__".splitOn ".__new__").headD "" = "bytearray" := by simp +decide [String.splitOn, String.splitOnAux]
theorem bind_ba : Builtin.Bytes.bindOptional "bytearray.__init__" "bytearray" ["source", "encoding", "errors"] [] [] = pure [none, none, none] := by kernel_rfl
section
variable {prog : Program} {w : World} {A : Around} {E : Value -> Shared -> Prop} {s : Shared} {R : Result -> Shared -> Prop}
theorem code_ba_new {Q₁ : Value -> Shared -> Prop} (h : Q₁ (.ref s.heap.objs.size) { s with heap := s.heap.push (baO []) }) :
  codeAny (model prog w) A (.call (.builtin "bytearray.__new__") ⟨[.type "bytearray"], []⟩) (wants Q₁ E) s := by
 refine codeAny_of_tree ?_
 refine wpAny_bind (wpAny_of_eq newCall_ba (wpAny_pure ⟨plainId_quiet plain_ba_new _, codeAny_builtin_stack entry_ba_new rfl fun p st => ?_⟩))
 rw [Around.under_plainId plain_ba_new _]
 have hsub := sub_ba
 have hown := owner_ba_new
 refine hideG ?_; intro PG9 hG9
 obtain ⟨hp, g, d, tk, os⟩ := s
 refine hG9 ?_; clear hG9 PG9
 simp only [hown]
 wp_walk
 exact h
theorem exp2_S {M : Model} {a : Addr} {l : List UInt8} {Q : Bool -> Shared -> Prop} (ho : s.heap.get? a = some (baO l)) (h : Q false s) : wpS M A (Builtin.Bytes.exported (.ref a) <||> do return (<- Builtin.Bytes.exportsOf (.ref a)) > 0) Q E s := by
 refine wpS_bind (exported_S ?_)
 exact wpS_any (wpAny_bind (wpAny_bind (wpAny_load ho (wpAny_pure (wpAny_pure h)))))
theorem init_ba {a : Addr} (ho : s.heap.get? a = some (baO [])) (h : ∀ h', Heap.SameBut a s.heap h' -> h'.get? a = some (baO []) -> R (.ok (.ret .none)) { s with heap := h' }) :
  codeS (model prog w) A (.call (.builtin "bytearray.__init__") ⟨[.ref a], []⟩) R s := by
 have hT : s.TypeIs (.ref a) "bytearray" := ⟨_, ho, rfl⟩
 refine codeS_call_builtin slot_ba_init.plain (bad_of (by decide +kernel)) entry_ba_init (slot_ba_init.check _ _ _ _ _ _ _ _ hT (args_ba_init _) ?_)
 refine wpS_bindA (rel_ba hT ?_)
 refine wpS_bindA (wpAny_of_eq bind_ba ?_)
 dsimp only
 refine wpS_bindA (wpAny_of_eq (a := ()) rfl ?_)
 refine wpS_bindA (wpAny_of_eq (a := ()) rfl ?_)
 refine wpS_bind (exp2_S ho ?_)
 refine wpS_any (wpAny_bind (write_ba (l' := []) ho rfl (Nat.zero_le _) fun h' hs e => ?_))
 first
  | exact wpAny_pure (h h' hs e)
  | exact wpAny_bind (wpAny_pure (wpAny_pure (h h' hs e)))
  | exact wpAny_bind (wpAny_pure (wpAny_bind (wpAny_pure (wpAny_pure (h h' hs e)))))
theorem call_ba {Q : Value -> Shared -> Prop} (h : ∀ h', Heap.SameBut s.heap.objs.size (s.heap.push (baO [])) h' -> h'.get? s.heap.objs.size = some (baO []) -> Q (.ref s.heap.objs.size) { s with heap := h' }) :
  wpS (model prog w) A (call (.type "bytearray") []) Q E s := by
 refine wpS_call (codeS_of_tree rfl ?_)
 refine wpS_any (wpAny_pure ⟨Code.quiet_builtin _ (by decide +kernel), codeS_builtin (bad_of (by decide +kernel)) F.entry_type_call ?_⟩)
 unfold Builtin.«type.__call__»
 dsimp only
 have h1 := called_ba.notType
 have h2 := called_ba.canCreate
 rw [if_neg (by rw [h1]; decide), if_neg (by rw [h2]; decide)]
 refine wpS_bindA (wpAny_of_eq typeCall_ba ?_)
 refine wpS_bindA (wpAny_of_eq mro_ba ?_)
 refine wpS_bindA (wpAny_of_eq called_ba.made ?_)
 refine wpS_bindA (wpAny_pure ?_)
 have ho : (s.heap.push (baO [])).get? s.heap.objs.size = some (baO []) := Heap.get?_push_size _ rfl
 have hT : ({ s with heap := s.heap.push (baO []) } : Shared).TypeIs (.ref s.heap.objs.size) "bytearray" := ⟨_, ho, rfl⟩
 refine wpS_bindA (wpAny_holding (wpAny_call (codeAny_mono (code_ba_new (E := E) (Q₁ := fun v s' => v = .ref s.heap.objs.size /\ s' = { s with heap := s.heap.push (baO []) }) ⟨rfl, rfl⟩) fun r s' z => ?_)))
 rcases r with e | (v | _ | _ | _) <;> first | exact z | exact z.elim | skip
 obtain ⟨rfl, rfl⟩ := z
 refine wpS_bindA (wpAny_isInstance hT sub_ba ?_)
 refine wpS_bind (wpS_holding ?_)
 unfold callSpecial?
 refine wpS_bindA (wpAny_specialOf hT slot_ba_init.lookup ?_)
 refine wpS_holding (wpS_bindA (wpAny_of_eq (slot_ba_init.bind _) ?_))
 refine wpS_bind (wpS_call (init_ba ho fun h' hs e => ?_))
 refine wpS_pure ?_
 exact wpS_pure (h h' hs e)
end
end
section
set_option tactic.hygienic false
open PySem PySem.W PyProof.Rows PySem.Calls PySem.Spec
section
variable {w : World} {A : Around} {E : Value -> Shared -> Prop} {s : Shared} {R : Result -> Shared -> Prop} {env : Env}
theorem wpS_noted {α : Type} {M : Model} {m : Sem α} {Q : α -> Shared -> Prop} (h : wpS M A m Q (notedBy M A env E) s) : wpS M A (m.onRaise fun x => do noteFrame x env; theTreesLotGoes x) Q E s :=
 wpS_onRaise (wpS_mono h (fun _ _ q => q) fun _ _ hx => wpAny_bind (wpAny_mono hx (fun _ _ e => wpAny_theTreesLotGoes e) fun _ _ e => e))
theorem wpS_runOwn {M : Model} {c : Code} {Q : Flow -> Shared -> Prop} (hc : codeS M A c (fun r s' => match r with | .ok f => Q f s' | .error e => cameBackBy M A env E e s') s) (hm : A.mark none = A) : wpS M A (runOwn c env none) Q E s := by
 unfold runOwn
 exact wpS_onRaise (wpS_run (by rw [hm]; exact hc))
theorem codeS_forLoop {target : Expr} {it : Value} {body : List Stmt} (I : Nat -> Shared -> Prop)
  (turn : ∀ n s, I n s -> wpAny (model PW w) A (pyNext it) (fun r s₁ => match r with
   | none => R (.ok .next) s₁
   | some v => wpAny (model PW w) A (assign target env v) (fun _ s₂ => wpS (model PW w) A (execs body env) (fun f s₃ => match f with
     | .next | .cont => ∃ m, m < n /\ I m s₃
     | .brk => R (.ok .next) s₃
     | .ret v => R (.ok (.ret v)) s₃) (notedBy (model PW w) A env fun e s' => R (.error e) s') s₂) (notedBy (model PW w) A env fun e s' => R (.error e) s') s₁) (notedBy (model PW w) A env fun e s' => R (.error e) s') s)
  (n : Nat) (h : I n s) (ht : ∀ v, letOwnedTupleGo target it v = pure ()) : codeS (model PW w) A (.forLoop target it body [] env) R s := by
 induction n using Nat.strongRecOn generalizing s with
 | ind n ih =>
  refine codeS_of_tree rfl ?_
  show wpS _ A ((forTurn target it body [] env).onRaise (fun x => do noteFrame x env; theTreesLotGoes x)) _ _ s
  refine wpS_noted ?_
  refine wpS_bindA (wpAny_standAt (wpS_bindA (wpAny_onRaise (wpAny_mono (turn n s h) (fun r s₁ h₁ => ?_) fun _ _ h' => wpAny_standAt h'))))
  cases r with
  | none => exact wpS_pure ⟨rfl, codeS_any (codeAny_block (by rw [execs_nil]; exact wpAny_pure h₁))⟩
  | some v =>
   refine wpS_bindA (wpAny_of_eq (ht v) ?_)
   refine wpS_bindA (wpAny_mono h₁ (fun _ s₂ h₂ => wpS_bind (wpS_mono h₂ (fun f s₃ h₃ => ?_) fun _ _ h' => h')) fun _ _ h' => h')
   cases f with
   | next => obtain ⟨m, hm, hI⟩ := h₃; exact wpS_pure ⟨rfl, ih m hm hI⟩
   | cont => obtain ⟨m, hm, hI⟩ := h₃; exact wpS_pure ⟨rfl, ih m hm hI⟩
   | brk => exact wpS_pure h₃
   | ret v => exact wpS_pure h₃
structure LoopD (w : World) (A : Around) (h₀ : Heap) (env : Env) (x : Str) (body : List Stmt) (Q : Flow -> Shared -> Prop) (E : Value -> Shared -> Prop) (s : Shared) (I : Addr) (src : List (Addr × Obj)) (n : Nat) (P : Nat -> Value -> Prop) (St : Nat -> Heap -> Prop) (m : Str -> Option Value) (news : List (Addr × Obj))
  (J : Nat -> (Str -> Option Value) -> List (Addr × Obj) -> Prop) : Prop where
 wk : Walks PW w A I (I :: src.map (·.1)) [I] n P St
 io : ∀ i h, St i h -> ∃ o, h.get? I = some o
 st : ∀ i h h' o nw, St i h -> h.get? I = some o -> h'.get? I = some o -> News h₀ env.locals h' nw -> (∀ p ∈ src, p ∈ nw) -> St i h'
 st0 : St 0 s.heap
 F : Fr h₀ env.locals s.heap m
 N : News h₀ env.locals s.heap news
 off : ∀ p ∈ news, p.1 ≠ I
 IL : env.locals ≠ I
 I0 : h₀.get? I = none
 src : ∀ i m nw, J i m nw -> ∀ p ∈ src, p ∈ nw
 j0 : J 0 m news
 step : ∀ i v m₁ nw h tk oI, i < n -> P i v -> J i m₁ nw -> AllNe I nw -> Fr h₀ env.locals h (fun y => if y = x then some v else m₁ y) -> News h₀ env.locals h ((I, oI) :: nw) ->
   wpS (model PW w) A (execs body env) (TurnJ h₀ env.locals I oI (J (i + 1)) { s with heap := h, toks := tk } Q) E { s with heap := h, toks := tk }
 done : ∀ h' tk m' nw, J n m' nw -> Fr h₀ env.locals h' m' -> News h₀ env.locals h' nw -> Q .next { s with heap := h', toks := tk }
noncomputable def LoopS (w : World) (A : Around) (h₀ : Heap) (env : Env) (x : Str) (body : List Stmt) (Q : Flow -> Shared -> Prop) (E : Value -> Shared -> Prop) (it : Value) (s : Shared) : Prop :=
 ∃ I src n P St m news J, it = .ref I /\ LoopD w A h₀ env x body Q E s I src n P St m news J
theorem loopS_run {x : Str} {px : Pos} {body : List Stmt} {Q : Flow -> Shared -> Prop} {h₀ : Heap} {I : Addr} {src : List (Addr × Obj)} {n : Nat} {P : Nat -> Value -> Prop} {St : Nat -> Heap -> Prop} {m : Str -> Option Value} {news : List (Addr × Obj)} {J : Nat -> (Str -> Option Value) -> List (Addr × Obj) -> Prop}
  (X : LoopD w A h₀ env x body Q E s I src n P St m news J) (hx : env.kindOf x = some .local) (hp : (env.scope.kind == .class || (env.scope.kind == .module && env.locals != env.globals)) = false) (hE : PassesOwn (model PW w) A env E) :
  codeS (model PW w) A (.forLoop (.Name x px) (.ref I) body [] env) (fun r s' => match r with | .ok f => Q f s' | .error e => cameBackBy (model PW w) A env E e s') s := by
 have L0 : h₀.get? env.locals = none := Heap.get?_none_of_le X.F.above
 refine codeS_forLoop (fun k s' => ∃ i, i + k = n + 1 /\ i <= n /\ ∃ h' tk m' nw, s' = { s with heap := h', toks := tk } /\ St i h' /\ Fr h₀ env.locals h' m' /\ News h₀ env.locals h' nw /\ AllNe I nw /\ J i m' nw) ?_ (n + 1)
  ⟨0, by omega, Nat.zero_le _, s.heap, s.toks, m, news, rfl, X.st0, X.F, X.N, allNe_of X.off, X.j0⟩ (fun v => rfl)
 intro k s' hz29
 refine hideG ?_; intro PG9 hG9
 obtain ⟨i, hik, hin, h', tk, m', nw, rfl, hst, F', N', o', hJ⟩ := hz29
 refine hG9 ?_; clear hG9 PG9
 by_cases hlt : i < n
 ·refine X.wk.item i _ _ _ hlt hst fun v h₂ tk₂ hPv hst₂ hk₂ => ?_
  have k2 : ∀ b o, b ≠ I -> h'.get? b = some o -> h₂.get? b = some o := fun b o n e => hk₂ b o (by simpa using n) e
  refine wpAny_assign_Name (wpAny_storeName_local hx (F'.ns.at' fun o e => k2 _ o X.IL e) (fun h₃ hn₃ hs₃ => ?_) hp)
  have k3 : ∀ b o, b ≠ I -> b ≠ env.locals -> h'.get? b = some o -> h₃.get? b = some o := fun b o n1 n2 e => hs₃.extBut b o n2 (k2 b o n1 e)
  have LI : env.locals ∉ I :: src.map (·.1) := fun z => by
   rcases List.mem_cons.mp z with z | z
   ·exact X.IL z
   ·obtain ⟨p, hp', e⟩ := List.mem_map.mp z
    exact (N' p (X.src _ _ _ hJ p hp')).2.1 e
  have hst₃ : St (i + 1) h₃ := X.wk.frame _ _ _ hst₂ fun b hb o e => hs₃.extBut b o (fun q => LI (by have q' : b = env.locals := q; rw [<- q']; exact hb)) e
  obtain ⟨oI, heI⟩ := X.io _ _ hst₃
  have F₃ : Fr h₀ env.locals h₃ (fun y => if y = x then some v else m' y) := ⟨hn₃, fun b o e => k3 b o (fun q => by rw [q, X.I0] at e; cases e) (fun q => by rw [q, L0] at e; cases e) (F'.keep b o e), F'.above⟩
  have N₃ : News h₀ env.locals h₃ ((I, oI) :: nw) := fun p hp => by
   rcases List.mem_cons.mp hp with rfl | hp
   ·exact ⟨heI, X.IL.symm, X.I0⟩
   ·exact ⟨k3 _ _ (allNe_mem o' p hp) (N' p hp).2.1 (N' p hp).1, (N' p hp).2⟩
  refine wpS_mono (X.step i v m' nw h₃ _ oI hlt hPv hJ o' F₃ N₃) (fun f s₄ z => ?_) fun e s' z => hE e s' z
  have next : TurnEnd h₀ env.locals I oI (J (i + 1)) { s with heap := h₃, toks := tk₂ + 1 } s₄ -> ∃ m, m < k /\ ∃ i, i + m = n + 1 /\ i <= n /\ ∃ h' tk m' nw, s₄ = { s with heap := h', toks := tk } /\ St i h' /\ Fr h₀ env.locals h' m' /\ News h₀ env.locals h' nw /\ AllNe I nw /\ J i m' nw := by
   intro hz09
   refine hideG ?_; intro PG9 hG9
   obtain ⟨h₅, tk₅, m₅, nw₅, rfl, F₅, N₅, o₅, hJ₅⟩ := hz09
   refine hG9 ?_; clear hG9 PG9
   have N₆ : News h₀ env.locals h₅ nw₅ := fun p hp => N₅ p (.tail _ hp)
   exact ⟨n + 1 - (i + 1), tkA hik hlt, i + 1, tkB hlt, hlt, h₅, tk₅, m₅, nw₅, rfl, X.st _ _ _ _ _ hst₃ heI (N₅ _ (.head _)).1 N₆ (X.src _ _ _ hJ₅), F₅, N₆, o₅, hJ₅⟩
  cases f with
  | next => exact next z
  | cont => exact next z
  | brk => exact z
  | ret v => exact z
 ·obtain rfl : i = n := Nat.le_antisymm hin (Nat.not_lt.mp hlt)
  refine X.wk.done _ _ _ hst fun h₂ tk₂ hk₂ => ?_
  have k2 : ∀ b o, b ≠ I -> h'.get? b = some o -> h₂.get? b = some o := fun b o n e => hk₂ b o (by simpa using n) e
  exact X.done h₂ tk₂ m' nw hJ ⟨F'.ns.at' fun o e => k2 _ o X.IL e, fun b o e => k2 b o (fun q => by rw [q, X.I0] at e; cases e) (F'.keep b o e), F'.above⟩ fun p hp => ⟨k2 _ _ (allNe_mem o' p hp) (N' p hp).1, (N' p hp).2⟩
section
variable {h₀ : Heap} {x : Str} {body : List Stmt} {Q : Flow -> Shared -> Prop} {m : Str -> Option Value} {news : List (Addr × Obj)}
noncomputable def LStep (w : World) (A : Around) (h₀ : Heap) (env : Env) (x : Str) (body : List Stmt) (Q : Flow -> Shared -> Prop) (E : Value -> Shared -> Prop) (s : Shared) (n : Nat) (P : Nat -> Value -> Prop) (J : Nat -> (Str -> Option Value) -> List (Addr × Obj) -> Prop) : Prop :=
 ∀ i v m₁ nw I h tk oI, i < n -> P i v -> J i m₁ nw -> AllNe I nw -> Fr h₀ env.locals h (fun y => if y = x then some v else m₁ y) -> News h₀ env.locals h ((I, oI) :: nw) ->
   wpS (model PW w) A (execs body env) (TurnJ h₀ env.locals I oI (J (i + 1)) { s with heap := h, toks := tk } Q) E { s with heap := h, toks := tk }
theorem loop_listS {ax : Addr} {ol : Obj} {vs : List Value} {nn : Nat} (hh : A.handled = none) (hm : (ax, ol) ∈ news) (hc : ol.cls = .type "list") (hd : ol.data = .seq vs.toArray nn)
  (F : Fr h₀ env.locals s.heap m) (N : News h₀ env.locals s.heap news) (J : Nat -> (Str -> Option Value) -> List (Addr × Obj) -> Prop) (hsrc : ∀ i m nw, J i m nw -> (ax, ol) ∈ nw) (h0 : J 0 m news)
  (step : LStep w A h₀ env x body Q E s vs.length (fun i v => vs[i]? = some v) J)
  (done : ∀ h' tk m' nw, J vs.length m' nw -> Fr h₀ env.locals h' m' -> News h₀ env.locals h' nw -> Q .next { s with heap := h', toks := tk }) :
  wpAny (model PW w) A (pyIter (.ref ax)) (fun it s₂ => LoopS w A h₀ env x body Q E it s₂) E s := by
 have ht : s.heap.IsList ax vs.toArray := ⟨ol, (N _ hm).1, hc, nn, hd⟩
 refine wpAny_pyIter_list ht ?_
 have up : ∀ b o, s.heap.get? b = some o -> (s.heap.push { cls := .type "list_iterator", data := .fields #[.ref ax, .int 0 0] }).get? b = some o := fun b o e => Heap.get?_push_of_some _ e
 have hlt : ax < s.heap.objs.size := Heap.lt_size (N _ hm).1
 refine ⟨_, [(ax, ol)], vs.length, (fun i v => vs[i]? = some v), (fun i h => h.IsListIter s.heap.objs.size ax i /\ h.IsList ax vs.toArray), m, news, J, rfl, (by simpa using Walks.list hh s.heap.objs.size ax (Nat.ne_of_lt hlt) vs.toArray), (fun i h st => by obtain ⟨o, e, _⟩ := st.1; exact ⟨o, e⟩), ?_, ⟨⟨_, Heap.get?_push_size _ rfl, rfl, rfl⟩, ⟨ol, up _ _ (N _ hm).1, hc, nn, hd⟩⟩,
  F.keeps up, N.grown up, fun p hp => Nat.ne_of_lt (Heap.lt_size (N p hp).1), Nat.ne_of_lt F.ns.lt, next_is_new F, fun i ys nw hj p hp => by rw [List.mem_singleton.mp hp]; exact hsrc i ys nw hj, h0, ?_, ?_⟩
 ·intro i h h' o nw st e e' N' hs
  exact ⟨by obtain ⟨o', q, r⟩ := st.1; rw [e] at q; cases q; exact ⟨o, e', r⟩, ⟨ol, (N' _ (hs _ (.head _))).1, hc, nn, hd⟩⟩
 ·intro i v m₁ nw h tk oI a1 a2 a3 a4 a5 a6
  exact step i v m₁ nw _ h tk oI a1 a2 a3 a4 a5 a6
 ·intro h' tk m' nw; exact done h' tk m' nw
theorem loop_tupS {ax : Addr} {ol : Obj} {vs : List Value} {nn : Nat} (hh : A.handled = none) (hm : (ax, ol) ∈ news) (hc : ol.cls = .type "tuple") (hd : ol.data = .seq vs.toArray nn)
  (F : Fr h₀ env.locals s.heap m) (N : News h₀ env.locals s.heap news) (J : Nat -> (Str -> Option Value) -> List (Addr × Obj) -> Prop) (hsrc : ∀ i m nw, J i m nw -> (ax, ol) ∈ nw) (h0 : J 0 m news)
  (step : LStep w A h₀ env x body Q E s vs.length (fun i v => vs[i]? = some v) J)
  (done : ∀ h' tk m' nw, J vs.length m' nw -> Fr h₀ env.locals h' m' -> News h₀ env.locals h' nw -> Q .next { s with heap := h', toks := tk }) :
  wpAny (model PW w) A (pyIter (.ref ax)) (fun it s₂ => LoopS w A h₀ env x body Q E it s₂) E s := by
 have ht : s.heap.IsTuple ax vs.toArray := ⟨ol, (N _ hm).1, hc, nn, hd⟩
 refine wpAny_pyIter_tuple ht ?_
 have up : ∀ b o, s.heap.get? b = some o -> (s.heap.push { cls := .type "tuple_iterator", data := .fields #[.ref ax, .int 0 0] }).get? b = some o := fun b o e => Heap.get?_push_of_some _ e
 have hlt : ax < s.heap.objs.size := Heap.lt_size (N _ hm).1
 refine ⟨_, [(ax, ol)], vs.length, (fun i v => vs[i]? = some v), (fun i h => h.IsTupleIter s.heap.objs.size ax i /\ h.IsTuple ax vs.toArray), m, news, J, rfl, (by simpa using Walks.tuple hh s.heap.objs.size ax (Nat.ne_of_lt hlt) vs.toArray), (fun i h st => by obtain ⟨o, e, _⟩ := st.1; exact ⟨o, e⟩), ?_, ⟨⟨_, Heap.get?_push_size _ rfl, rfl, rfl⟩, ⟨ol, up _ _ (N _ hm).1, hc, nn, hd⟩⟩,
  F.keeps up, N.grown up, fun p hp => Nat.ne_of_lt (Heap.lt_size (N p hp).1), Nat.ne_of_lt F.ns.lt, next_is_new F, fun i ys nw hj p hp => by rw [List.mem_singleton.mp hp]; exact hsrc i ys nw hj, h0, ?_, ?_⟩
 ·intro i h h' o nw st e e' N' hs
  exact ⟨st.1.at fun o' q => by rw [e] at q; cases q; exact e', ⟨ol, (N' _ (hs _ (.head _))).1, hc, nn, hd⟩⟩
 ·intro i v m₁ nw h tk oI a1 a2 a3 a4 a5 a6
  exact step i v m₁ nw _ h tk oI a1 a2 a3 a4 a5 a6
 ·intro h' tk m' nw; exact done h' tk m' nw
theorem loop_rangeS {r : Addr} {a b : Int} {t u v : Tok} {n : Nat} (hh : A.handled = none) (hr : IsRange s.heap r a b 1 t u v) (hsm : Builtin.Range.small a b 1 = true) (hn : Builtin.Range.rangeSize a b 1 = (n : Int))
  (F : Fr h₀ env.locals s.heap m) (N : News h₀ env.locals s.heap news) (J : Nat -> (Str -> Option Value) -> List (Addr × Obj) -> Prop) (h0 : J 0 m news)
  (step : LStep w A h₀ env x body Q E s n (fun i v => ∃ t, v = .int (a + (i : Int) * 1) t) J)
  (done : ∀ h' tk m' nw, J n m' nw -> Fr h₀ env.locals h' m' -> News h₀ env.locals h' nw -> Q .next { s with heap := h', toks := tk }) :
  wpAny (model PW w) A (pyIter (.ref r)) (fun it s₂ => LoopS w A h₀ env x body Q E it s₂) E s := by
 refine wpAny_pyIter_range hr hsm ?_
 refine ⟨_, [], n, _, _, m, news, J, rfl, Walks.range hh s.heap.objs.size a 1 n, fun i h st => ⟨_, st⟩, ?_, (by show IsRangeIter _ _ _ _ _; rw [hn]; simpa using Heap.get?_push_size _ rfl),
  F.keeps fun _ _ e => Heap.get?_push_of_some _ e, N.grown fun _ _ e => Heap.get?_push_of_some _ e, fun p hp => Nat.ne_of_lt (Heap.lt_size (N p hp).1), Nat.ne_of_lt F.ns.lt, next_is_new F, (fun i ys nw hj p hp => nomatch hp), h0, ?_, ?_⟩
 ·intro i h h' o nw st e e' N' hs
  have st' : h.get? s.heap.objs.size = some _ := st
  show h'.get? s.heap.objs.size = some _
  rw [e', <- e]; exact st'
 ·intro i v m₁ nw h tk oI a1 a2 a3 a4 a5 a6
  exact step i v m₁ nw _ h tk oI a1 a2 a3 a4 a5 a6
 ·intro h' tk m' nw; exact done h' tk m' nw
end
end
end
section
set_option tactic.hygienic false
open PySem PySem.W PyProof.Rows PySem.Calls PySem.Spec
section
variable {w : World} {A : Around} {s : Shared} {E : Value -> Shared -> Prop} {h₀ : Heap} {L : Addr} {m : Str -> Option Value} {env : Env} {news : List (Addr × Obj)} {R : Result -> Shared -> Prop}
theorem codeS_compLoop {elt target iter : Expr} {scope : Scope} {pos : Pos} {it acc : Value} {env : Env} (I : Nat -> Shared -> Prop)
  (turn : ∀ n s, I n s -> wpAny (model PW w) A (pyNext it) (fun r s₁ => match r with
   | none => R (.ok .next) s₁
   | some v => wpAny (model PW w) A (assign target env v) (fun _ s₂ => wpS (model PW w) A (eval elt env) (fun x s₃ =>
     wpAny (model PW w) A (call (.builtin "list.append") [acc, x]) (fun _ s₄ => ∃ m, m < n /\ I m s₄) (notedBy (model PW w) A env fun e s' => R (.error e) s') s₃)
     (notedBy (model PW w) A env fun e s' => R (.error e) s') s₂) (notedBy (model PW w) A env fun e s' => R (.error e) s') s₁) (notedBy (model PW w) A env fun e s' => R (.error e) s') s)
  (n : Nat) (h : I n s) (ht : ∀ v, letOwnedTupleGo target it v = pure ()) : codeS (model PW w) A (.compLoop (.ListComp elt [⟨target, iter, [], 0⟩] scope pos) 0 it acc env) R s := by
 refine codeS_loop rfl rfl I (fun n s hI => ?_) n h
 show wpS _ A ((compTurn (.ListComp elt [⟨target, iter, [], 0⟩] scope pos) 0 it acc env).onRaise (fun x => do noteFrame x env; theTreesLotGoes x)) _ _ s
 refine wpS_noted ?_
 rw [compTurn_list1]
 refine wpS_bindA (wpAny_standAt (wpS_bindA (wpAny_mono (turn n s hI) (fun r s₁ h₁ => ?_) fun _ _ h' => h')))
 cases r with
 | none => exact wpS_pure h₁
 | some v =>
  refine wpS_bindA (wpAny_of_eq (ht v) ?_)
  refine wpS_bindA (wpAny_mono h₁ (fun _ s₂ h₂ => ?_) fun _ _ h' => h')
  refine wpS_bind (wpS_bind (wpS_mono h₂ (fun x s₃ h₃ => wpS_bindA (wpAny_mono h₃ (fun _ s₄ h₄ => ?_) fun _ _ h' => h')) fun _ _ h' => h'))
  exact wpS_pure (wpS_pure ⟨rfl, h₄⟩)
theorem codeS_compStart {elt target iter ifs rest scope pos it acc env} (h : codeS (model PW w) A (.compLoop (.ListComp elt (⟨target, iter, ifs, 0⟩ :: rest) scope pos) 0 it acc env) R s)
  (hI : wpAny (model PW w) A (pyIter it) (fun it' s' => codeS (model PW w) A (.compLoop (.ListComp elt (⟨target, iter, ifs, 0⟩ :: rest) scope pos) 0 it' acc env) R s') (notedBy (model PW w) A env fun x s' => R (.error x) s') s) :
  codeS (model PW w) A (.compStart (.ListComp elt (⟨target, iter, ifs, 0⟩ :: rest) scope pos) 0 it acc env) R s := by
 refine codeS_of_tree rfl ?_
 show wpS _ _ ((compStart (.ListComp elt (⟨target, iter, ifs, 0⟩ :: rest) scope pos) 0 it acc env).onRaise (fun x => do noteFrame x env; standAt theWindowsPlace)) _ _ s
 refine wpS_onRaise (wpS_mono (Q := fun fin s' => match fin with | .done f => R (.ok f) s' | .again c' => c'.quiet = true /\ codeS (model PW w) A c' R s') (E := notedBy (model PW w) A env fun x s' => R (.error x) s') ?_ (fun _ _ q => q) fun _ _ hx => wpAny_bind (wpAny_mono hx (fun _ _ e => wpAny_standAt e) fun _ _ e => e))
 unfold compStart
 show wpS _ _ (ask >>= _) _ _ s
 refine wpS_bindA (wpAny_askSetting ?_)
 split
 ·first
   | exact wpS_bindA (wpAny_pure (wpS_pure (And.intro rfl h)))
   | exact wpS_pure (And.intro rfl h)
 ·first
   | exact wpS_bindA (wpAny_rule (wpS_bindA (wpAny_standAt (wpS_bindA (wpAny_mono hI (fun it' s' h' => wpS_pure (And.intro rfl h')) fun _ _ x => x)))))
   | (refine wpS_bindA (wpAny_rule ?_); show wpS _ _ (standAt iter.pos >>= _) _ _ s; exact wpS_bindA (wpAny_standAt (wpS_bindA (wpAny_mono hI (fun it' s' h' => wpS_pure (And.intro rfl h')) fun _ _ x => x))))
structure CompJS (w : World) (A : Around) (h₀ : Heap) (L : Addr) (m : Str -> Option Value) (env : Env) (elt : Expr) (x : Str) (scope : Scope) (cl : List (Str × Addr)) (EL : Addr -> Shared -> Value -> Shared -> Prop) (Fin : List Value -> List (Addr × Obj) -> Shared -> Prop) (s : Shared) (I : Addr) (src : List (Addr × Obj)) (n : Nat) (P : Nat -> Value -> Prop) (St : Nat -> Heap -> Prop) (news : List (Addr × Obj))
  (J : Nat -> List Value -> List (Addr × Obj) -> Prop) : Prop where
 wk : Walks PW w A I (I :: src.map (·.1)) [I] n P St
 sz : n <= sizeLine
 io : ∀ i h, St i h -> ∃ o, h.get? I = some o
 st : ∀ i h h' o nw, St i h -> h.get? I = some o -> h'.get? I = some o -> News h₀ L h' nw -> (∀ p ∈ src, p ∈ nw) -> St i h'
 st0 : St 0 s.heap
 F : Fr h₀ L s.heap m
 N : News h₀ L s.heap news
 off : ∀ p ∈ news, p.1 ≠ I
 IL : L ≠ I
 I0 : h₀.get? I = none
 src : ∀ i ys nw, J i ys nw -> ∀ p ∈ src, p ∈ nw
 j0 : J 0 [] news
 step : ∀ i ys nw v oI C oC D m₂ h tk, i < n -> J i ys nw -> P i v -> LCg.NsObj oC m₂ -> m₂ x = some v -> ys.length = i -> s.heap.get? C = none -> Fr h₀ L h m -> News h₀ L h ((I, oI) :: (C, oC) :: (D, LCg.lst ys) :: nw) -> AllNe I nw -> AllNe C nw -> AllNe D nw -> ((@Ne Nat I C) /\ (@Ne Nat I D) /\ (@Ne Nat C D)) ->
  wpS (model PW w) A (eval elt (compEnvC scope cl C env)) (ElEnd h₀ L m { s with heap := h, toks := tk } I oI C oC D (LCg.lst ys) (fun y nw' => J (i + 1) (ys ++ [y]) nw')) (EL C { s with heap := h, toks := tk }) { s with heap := h, toks := tk }
 fin : ∀ ys nw h tk, J n ys nw -> ys.length = n -> Fin ys nw { s with heap := h, toks := tk }
theorem compJS_block {elt iter : Expr} {x : Str} {px : Pos} {scope : Scope} {cl : List (Str × Addr)} {pos : Pos} {s₂ : Shared} {I : Addr} {src : List (Addr × Obj)} {n : Nat} {P : Nat -> Value -> Prop} {St : Nat -> Heap -> Prop} {EL : Addr -> Shared -> Value -> Shared -> Prop}
  {J : Nat -> List Value -> List (Addr × Obj) -> Prop} {Fin : List Value -> List (Addr × Obj) -> Shared -> Prop} {RR : Value -> Addr -> Result -> Shared -> Prop}
  (X : CompJS w A h₀ L m env elt x scope cl EL Fin s₂ I src n P St news J)
  (hcell : ∀ y ∈ scope.names, y.2 ≠ .cell) (hkind : scope.kind = .function) (hx : scope.names.lookup x = some .local)
  (hEL : ∀ D C h tk v s', s₂.heap.get? C = none -> h₀.get? C = none -> C ≠ L -> EL C { s₂ with heap := h, toks := tk } v s' -> notedBy (model PW w) A (compEnvC scope cl C env) (fun e s'' => RR (.ref D) C (.error e) s'') v s')
  (hRR : ∀ D C h tk m' ys news', Fr h₀ L h m -> News h₀ L h ((D, LCg.lst ys) :: news') -> AllNe D news' -> h.Ns C m' -> h₀.get? C = none -> h₀.get? D = none -> C ≠ L -> D ≠ L -> C ≠ D -> (∀ p ∈ news', p.1 ≠ C) -> J n ys news' -> ys.length = n -> RR (.ref D) C (.ok .next) { s₂ with heap := h, toks := tk }) :
  wpAny (model PW w) A (newList []) (fun acc s₃ => wpAny (model PW w) A (newFunctionEnv scope env.globals cl [] env.qual none .none (some env)) (fun cenv s₄ =>
   codeS (model PW w) A (.compStart (.ListComp elt [⟨.Name x px, iter, [], 0⟩] scope pos) 0 (.ref I) acc { cenv with scope := relabel scope env }) (RR acc cenv.locals) s₄) E s₃) E s₂ := by
 have lt : ∀ {b o}, s₂.heap.get? b = some o -> b < s₂.heap.objs.size := fun e => Heap.lt_size e
 have fp : ∀ b ∈ I :: src.map (·.1), b < s₂.heap.objs.size := fun b hb => by
  rcases List.mem_cons.mp hb with rfl | hb
  ·obtain ⟨o, e⟩ := X.io _ _ X.st0; exact lt e
  ·obtain ⟨p, hp, rfl⟩ := List.mem_map.mp hb
   exact lt (X.N p (X.src _ _ _ X.j0 p hp)).1
 refine wpAny_newObj_type (wpAny_newFunctionEnv hcell (by intro y hy; simp at hy) (fun h₁ hns₁ hsb₁ => ?_) hkind)
 dsimp only at hns₁ hsb₁ ⊢
 generalize hH2 : s₂.heap.push { cls := .type "list", dict := none, data := .seq ([] : List Value).toArray } = H2 at hns₁ hsb₁ ⊢
 generalize hCn : H2.objs.size = C at hns₁ hsb₁ ⊢
 generalize hDn : s₂.heap.objs.size = D at hns₁ hsb₁ lt fp ⊢
 have hCD : C = D + 1 := by rw [<- hCn, <- hH2, Heap.size_push, hDn]
 have none2 : ∀ a, D <= a -> s₂.heap.get? a = none := fun a ha => Heap.get?_none_of_le (by rw [hDn]; exact ha)
 have none0 : ∀ a, D <= a -> h₀.get? a = none := fun a ha => by
  cases e : h₀.get? a with
  | none => rfl
  | some o => have := X.F.keep _ _ e; rw [none2 a ha] at this; cases this
 have D2 : H2.get? D = some (LCg.lst []) := by rw [<- hH2, <- hDn]; exact Heap.get?_push_size _ rfl
 have old : ∀ b o, s₂.heap.get? b = some o -> h₁.get? b = some o := fun b o e => hsb₁.extBut b o (Nat.ne_of_lt (by rw [hCD]; exact Nat.lt_succ_of_lt (lt e))) (Heap.get?_push_of_some _ (by rw [<- hH2]; exact Heap.get?_push_of_some _ e))
 have D1 : h₁.get? D = some (LCg.lst []) := hsb₁.extBut _ _ (Nat.ne_of_lt (by rw [hCD]; exact Nat.lt_succ_self _)) (Heap.get?_push_of_some _ D2)
 have C0 : h₀.get? C = none := none0 C (by rw [hCD]; exact Nat.le_succ _)
 have Cs : s₂.heap.get? C = none := none2 C (by rw [hCD]; exact Nat.le_succ _)
 have D0 : h₀.get? D = none := none0 D (Nat.le_refl _)
 have Lt : L < D := by have := X.F.ns.lt; rw [hDn] at this; exact this
 have CL : C ≠ L := Nat.ne_of_gt (by rw [hCD]; exact Nat.lt_succ_of_lt Lt)
 have DL : D ≠ L := Nat.ne_of_gt Lt
 have DC : D ≠ C := Nat.ne_of_lt (by rw [hCD]; exact Nat.lt_succ_self _)
 have It : I < D := fp I (.head _)
 have IC : I ≠ C := Nat.ne_of_lt (by rw [hCD]; exact Nat.lt_succ_of_lt It)
 have ID : I ≠ D := Nat.ne_of_lt It
 have Cf : C ∉ I :: src.map (·.1) := fun z => by have := fp C z; rw [hCD] at this; exact Nat.not_succ_lt_self this
 have Df : D ∉ I :: src.map (·.1) := fun z => Nat.lt_irrefl _ (fp D z)
 have newsLt : ∀ p ∈ news, p.1 < D := fun p hp => lt (X.N p hp).1
 suffices loop : ∀ s₃ : Shared, s₃ = { s₂ with heap := h₁, toks := s₂.toks + ([] : List (Str × Value)).length } ->
   codeS (model PW w) A (.compLoop (.ListComp elt [⟨.Name x px, iter, [], 0⟩] scope pos) 0 (.ref I) (.ref D) (compEnvC scope cl C env)) (RR (.ref D) C) s₃ from
  codeS_compStart (loop _ rfl) (X.wk.self 0 _ _ _ (X.wk.frame _ _ _ X.st0 fun b _ o e => old b o e) (loop _ rfl))
 rintro s₃ rfl
 refine codeS_compLoop
  (fun k s' => ∃ i, i + k = n + 1 /\ i <= n /\ ∃ h' tk ys m' nw, s' = { s₂ with heap := h', toks := tk } /\ ys.length = i /\ St i h' /\ Fr h₀ L h' m /\ h'.Ns C m' /\ News h₀ L h' ((D, LCg.lst ys) :: nw) /\ AllNe I nw /\ AllNe C nw /\ AllNe D nw /\ J i ys nw) ?_ (n + 1)
  ⟨0, by omega, Nat.zero_le _, h₁, _, [], _, news, rfl, rfl, X.wk.frame _ _ _ X.st0 fun b _ o e => old b o e, X.F.keeps old, hns₁, ?_, allNe_of X.off, allNe_of fun p hp => Nat.ne_of_lt (by rw [hCD]; exact Nat.lt_succ_of_lt (newsLt p hp)), allNe_of fun p hp => Nat.ne_of_lt (newsLt p hp), X.j0⟩ (fun _ => rfl)
 ·intro k s' hz29
  refine hideG ?_; intro PG9 hG9
  obtain ⟨i, hik, hin, h', tk, ys, m', nw, rfl, hl, hst, F', hn, N', oI', oC', oD', hJ⟩ := hz29
  refine hG9 ?_; clear hG9 PG9
  by_cases hlt : i < n
  ·refine X.wk.item i _ _ _ hlt hst fun v h₂ tk₂ hPv hst₂ hk₂ => ?_
   have k2 : ∀ b o, b ≠ I -> h'.get? b = some o -> h₂.get? b = some o := fun b o n e => hk₂ b o (by simpa using n) e
   refine wpAny_assign_Name (wpAny_storeName_local (lookup_relabel_local hx) (hn.at' fun o e => k2 _ o IC.symm e) (fun h₃ hn₃ hs₃ => ?_) (by simp [compEnvC, relabel, hkind]))
   have k3 : ∀ b o, b ≠ I -> b ≠ C -> h'.get? b = some o -> h₃.get? b = some o := fun b o n1 n2 e => hs₃.extBut b o n2 (k2 b o n1 e)
   have hst₃ : St (i + 1) h₃ := X.wk.frame _ _ _ hst₂ fun b hb o e => hs₃.extBut b o (fun q => Cf (by have q' : b = C := q; rw [<- q']; exact hb)) e
   obtain ⟨oI, heI⟩ := X.io _ _ hst₃
   obtain ⟨oC, heC, hoC⟩ := LCg.ns_obj hn₃
   have F₃ : Fr h₀ L h₃ m := ⟨F'.ns.at' fun o e => k3 _ o X.IL CL.symm e, fun b o e => k3 b o (fun q => by rw [q, X.I0] at e; cases e) (fun q => by rw [q, C0] at e; cases e) (F'.keep b o e), F'.above⟩
   have N₃ : News h₀ L h₃ ((I, oI) :: (C, oC) :: (D, LCg.lst ys) :: nw) := fun p hp => by
    rcases List.mem_cons.mp hp with rfl | hp
    ·exact ⟨heI, X.IL.symm, X.I0⟩
    rcases List.mem_cons.mp hp with rfl | hp
    ·exact ⟨heC, CL, C0⟩
    refine ⟨k3 _ _ ?_ ?_ (N' p hp).1, (N' p hp).2⟩
    ·rcases List.mem_cons.mp hp with rfl | hp
     ·exact ID.symm
     ·exact allNe_mem oI' p hp
    ·rcases List.mem_cons.mp hp with rfl | hp
     ·exact DC
     ·exact allNe_mem oC' p hp
   refine wpS_mono (X.step i ys nw v oI C oC D _ h₃ _ hlt hJ hPv hoC (by simp) hl Cs F₃ N₃ oI' oC' oD' ⟨IC, ID, DC.symm⟩) (fun y s₄ h₄ => ?_) fun v' s'' z => hEL D C _ _ v' s'' Cs C0 CL z
   refine hideG ?_; intro PG9 hG9
   obtain ⟨h₄, tk₄, nw₄, rfl, F₄, N₄, a1, a2, a3, hJ₄⟩ := h₄
   refine hG9 ?_; clear hG9 PG9
   have zI := (N₄ (I, oI) (.head _)).1
   have zC := (N₄ (C, oC) (.tail _ (.head _))).1
   have zD := (N₄ (D, LCg.lst ys) (.tail _ (.tail _ (.head _)))).1
   have N₅ : News h₀ L h₄ nw₄ := fun p hp => N₄ p (.tail _ (.tail _ (.tail _ hp)))
   have hst₄ : St (i + 1) h₄ := X.st _ _ _ _ _ hst₃ heI zI N₅ (X.src _ _ _ hJ₄)
   refine append_at (hsz := by show ys.toArray.size <= sizeLine; rw [List.size_toArray, hl]; exact Nat.le_trans hin X.sz) zD fun h₅ hs₅ hD₅ => ?_
   refine ⟨n + 1 - (i + 1), tkA hik hlt, i + 1, tkB hlt, hlt, h₅, tk₄, ys ++ [y], _, nw₄, rfl, by rw [List.length_append, List.length_singleton, hl], X.wk.frame _ _ _ hst₄ fun b hb o e => hs₅.extBut b o (fun q => Df (q ▸ hb)) e, F₄.change hs₅ DL D0,
    (hoC.ns zC).sameBut hs₅ DC.symm, fun p hp => ?_, a1, a2, a3, hJ₄⟩
   rcases List.mem_cons.mp hp with rfl | hp
   ·exact ⟨hD₅.trans (congrArg some (LCg.lst_snoc ys y)), DL, D0⟩
   ·exact ⟨hs₅.extBut _ _ (allNe_mem a3 p hp) (N₅ p hp).1, (N₅ p hp).2⟩
  ·obtain rfl : i = n := Nat.le_antisymm hin (Nat.not_lt.mp hlt)
   refine X.wk.done _ _ _ hst fun h₂ tk₂ hk₂ => ?_
   have k2 : ∀ b o, b ≠ I -> h'.get? b = some o -> h₂.get? b = some o := fun b o n e => hk₂ b o (by simpa using n) e
   refine hRR D C h₂ tk₂ _ ys nw ⟨F'.ns.at' fun o e => k2 _ o X.IL e, fun b o e => k2 b o (fun q => by rw [q, X.I0] at e; cases e) (F'.keep b o e), F'.above⟩ (fun p hp => ?_) oD' (hn.at' fun o e => k2 _ o IC.symm e) C0 D0 CL DL DC.symm (fun p hp => allNe_mem oC' p hp) hJ hl
   refine ⟨k2 _ _ ?_ (N' p hp).1, (N' p hp).2⟩
   rcases List.mem_cons.mp hp with rfl | hp
   ·exact ID.symm
   ·exact allNe_mem oI' p hp
 ·intro p hp
  rcases List.mem_cons.mp hp with rfl | hp
  ·exact ⟨D1, DL, D0⟩
  ·exact ⟨old _ _ (X.N p hp).1, (X.N p hp).2⟩
noncomputable def CompAtS (w : World) (A : Around) (h₀ : Heap) (L : Addr) (m : Str -> Option Value) (env : Env) (elt : Expr) (x : Str) (scope : Scope) (cl : List (Str × Addr)) (EL : Addr -> Shared -> Value -> Shared -> Prop) (Fin : List Value -> List (Addr × Obj) -> Shared -> Prop) (it : Value) (s : Shared) : Prop :=
 ∃ I src n P St news J, it = .ref I /\ CompJS w A h₀ L m env elt x scope cl EL Fin s I src n P St news J
section
variable {elt : Expr} {x : Str} {scope : Scope} {cl : List (Str × Addr)} {EL : Addr -> Shared -> Value -> Shared -> Prop} {Fin : List Value -> List (Addr × Obj) -> Shared -> Prop}
noncomputable def CStepS (w : World) (A : Around) (h₀ : Heap) (L : Addr) (m : Str -> Option Value) (env : Env) (elt : Expr) (x : Str) (scope : Scope) (cl : List (Str × Addr)) (EL : Addr -> Shared -> Value -> Shared -> Prop) (s : Shared) (n : Nat) (P : Nat -> Value -> Prop) (J : Nat -> List Value -> List (Addr × Obj) -> Prop) : Prop :=
 ∀ i ys nw v I oI C oC D m₂ h tk, i < n -> J i ys nw -> P i v -> LCg.NsObj oC m₂ -> m₂ x = some v -> ys.length = i -> s.heap.get? C = none -> Fr h₀ L h m -> News h₀ L h ((I, oI) :: (C, oC) :: (D, LCg.lst ys) :: nw) -> AllNe I nw -> AllNe C nw -> AllNe D nw -> ((@Ne Nat I C) /\ (@Ne Nat I D) /\ (@Ne Nat C D)) ->
  wpS (model PW w) A (eval elt (compEnvC scope cl C env)) (ElEnd h₀ L m { s with heap := h, toks := tk } I oI C oC D (LCg.lst ys) (fun y nw' => J (i + 1) (ys ++ [y]) nw')) (EL C { s with heap := h, toks := tk }) { s with heap := h, toks := tk }
theorem comp_seqS {ax : Addr} {ol : Obj} {vs : List Value} {nn : Nat} (hh : A.handled = none) (hm : (ax, ol) ∈ news) (hc : ol.cls = .type "list" \/ ol.cls = .type "tuple") (hd : ol.data = .seq vs.toArray nn)
  (F : Fr h₀ L s.heap m) (N : News h₀ L s.heap news) (J : Nat -> List Value -> List (Addr × Obj) -> Prop) (hsrc : ∀ i ys nw, J i ys nw -> (ax, ol) ∈ nw) (h0 : J 0 [] news) (hz : vs.length <= sizeLine)
  (step : CStepS w A h₀ L m env elt x scope cl EL s vs.length (fun i v => vs[i]? = some v) J)
  (fin : ∀ ys nw h tk, J vs.length ys nw -> ys.length = vs.length -> Fin ys nw { s with heap := h, toks := tk }) :
  wpAny (model PW w) A (pyIter (.ref ax)) (fun it s₂ => (∃ h, s₂ = { s with heap := h }) /\ CompAtS w A h₀ L m env elt x scope cl EL Fin it s₂) E s := by
 have hlt : ax < s.heap.objs.size := Heap.lt_size (N _ hm).1
 rcases hc with hc | hc
 ·have ht : s.heap.IsList ax vs.toArray := ⟨ol, (N _ hm).1, hc, nn, hd⟩
  refine wpAny_pyIter_list ht ⟨⟨_, rfl⟩, ?_⟩
  have up : ∀ b o, s.heap.get? b = some o -> (s.heap.push { cls := .type "list_iterator", data := .fields #[.ref ax, .int 0 0] }).get? b = some o := fun b o e => Heap.get?_push_of_some _ e
  refine ⟨_, [(ax, ol)], vs.length, (fun i v => vs[i]? = some v), (fun i h => h.IsListIter s.heap.objs.size ax i /\ h.IsList ax vs.toArray), news, J, rfl, (by simpa using Walks.list hh s.heap.objs.size ax (Nat.ne_of_lt hlt) vs.toArray), hz, (fun i h st => by obtain ⟨o, e, _⟩ := st.1; exact ⟨o, e⟩), ?_, ⟨⟨_, Heap.get?_push_size _ rfl, rfl, rfl⟩, ⟨ol, up _ _ (N _ hm).1, hc, nn, hd⟩⟩,
   F.keeps up, N.grown up, fun p hp => Nat.ne_of_lt (Heap.lt_size (N p hp).1), Nat.ne_of_lt F.ns.lt, next_is_new F, fun i ys nw hj p hp => by rw [List.mem_singleton.mp hp]; exact hsrc i ys nw hj, h0, ?_, ?_⟩
  ·intro i h h' o nw st e e' N' hs
   exact ⟨by obtain ⟨o', q, r⟩ := st.1; rw [e] at q; cases q; exact ⟨o, e', r⟩, ⟨ol, (N' _ (hs _ (.head _))).1, hc, nn, hd⟩⟩
  ·intro i ys nw v oI C oC D m₂ h tk a1 a2 a3 a4 a5 a6 a7
   exact step i ys nw v _ oI C oC D m₂ h tk a1 a2 a3 a4 a5 a6 (freshC a7)
  ·intro ys nw h tk; exact fin ys nw h tk
 ·have ht : s.heap.IsTuple ax vs.toArray := ⟨ol, (N _ hm).1, hc, nn, hd⟩
  refine wpAny_pyIter_tuple ht ⟨⟨_, rfl⟩, ?_⟩
  have up : ∀ b o, s.heap.get? b = some o -> (s.heap.push { cls := .type "tuple_iterator", data := .fields #[.ref ax, .int 0 0] }).get? b = some o := fun b o e => Heap.get?_push_of_some _ e
  refine ⟨_, [(ax, ol)], vs.length, (fun i v => vs[i]? = some v), (fun i h => h.IsTupleIter s.heap.objs.size ax i /\ h.IsTuple ax vs.toArray), news, J, rfl, (by simpa using Walks.tuple hh s.heap.objs.size ax (Nat.ne_of_lt hlt) vs.toArray), hz, (fun i h st => by obtain ⟨o, e, _⟩ := st.1; exact ⟨o, e⟩), ?_, ⟨⟨_, Heap.get?_push_size _ rfl, rfl, rfl⟩, ⟨ol, up _ _ (N _ hm).1, hc, nn, hd⟩⟩,
   F.keeps up, N.grown up, fun p hp => Nat.ne_of_lt (Heap.lt_size (N p hp).1), Nat.ne_of_lt F.ns.lt, next_is_new F, fun i ys nw hj p hp => by rw [List.mem_singleton.mp hp]; exact hsrc i ys nw hj, h0, ?_, ?_⟩
  ·intro i h h' o nw st e e' N' hs
   exact ⟨st.1.at fun o' q => by rw [e] at q; cases q; exact e', ⟨ol, (N' _ (hs _ (.head _))).1, hc, nn, hd⟩⟩
  ·intro i ys nw v oI C oC D m₂ h tk a1 a2 a3 a4 a5 a6 a7
   exact step i ys nw v _ oI C oC D m₂ h tk a1 a2 a3 a4 a5 a6 (freshC a7)
  ·intro ys nw h tk; exact fin ys nw h tk
end
end
end
section
set_option tactic.hygienic false
open PySem PySem.W PyProof.Rows PySem.Calls PySem.Spec
theorem plainAttrs_ba : PlainAttrs "bytearray" :=
 ⟨⟨"bytearray.__getattribute__", by rw [typeLookup_type, builtinLookup_eq_fast]; kernel_rfl, by decide +kernel⟩, by rw [typeLookup_type, builtinLookup_eq_fast]; kernel_rfl⟩
theorem type_ba_extend : typeOf (.builtin "bytearray.extend") = pure (.type "method_descriptor") := by
 show builtinType _ = _
 rw [builtinType_eq_fast]; kernel_rfl
section
variable {w : World} {A : Around} {E : Value -> Shared -> Prop} {s : Shared} {h₀ : Heap} {L : Addr} {m : Str -> Option Value} {news : List (Addr × Obj)} {a : Addr} {l b : List UInt8} {t : Tok}
theorem getMethod_ba {Q : Value × List Value -> Shared -> Prop} {pl : Sem Bool} (N : News h₀ L s.heap news) (hm : (a, baO l) ∈ news) (h : Q (.builtin "bytearray.extend", [.ref a]) s) : wpAny (model PW w) A (getMethod (.ref a) "extend" pl) Q E s :=
 getMethod_builtin ⟨_, (N _ hm).1, rfl⟩ plainAttrs_ba slot_ba_extend type_ba_extend (fun b e => by cases e; exact ⟨_, (N _ hm).1, rfl⟩) h
theorem updN {g h h' : Heap} {o : Obj} {gg : Obj -> List (Addr × Obj)} {o' : Obj} (F : Fr g L h m) (N : News g L h news) (U : UpdF a o news gg) (k : Heap.SameBut a h h') (hx : h'.get? a = some o') : Fr g L h' m /\ News g L h' (gg o') :=
 okU F N U ⟨fun b' o' e n => k.extBut b' o' (by simpa using n) e, fun b' o1 e => by
  by_cases q : b' = a
  ·rw [q]; exact ⟨_, hx⟩
  ·exact ⟨_, k.extBut b' o1 q e⟩⟩ hx
theorem extend_N {gg : Obj -> List (Addr × Obj)} {Q : Value -> Shared -> Prop} (F : Fr h₀ L s.heap m) (N : News h₀ L s.heap news) (U : UpdF a (baO l) news gg) (hz : l.length + b.length <= 1000000)
  (h : ∀ h', Fr h₀ L h' m -> News h₀ L h' (gg (baO (l ++ b))) -> Q .none { s with heap := h' }) : wpS (model PW w) A (call (.builtin "bytearray.extend") [.ref a, .bytes b.toArray t]) Q E s := by
 refine hideG ?_; intro PG9 hG9
 obtain ⟨pre, post, e, _⟩ := U.split
 refine hG9 ?_; clear hG9 PG9
 have hm : (a, baO l) ∈ news := by rw [e]; simp
 exact extend_S (N _ hm).1 hz fun h' k e => by
  obtain ⟨F', N'⟩ := updN F N U k e
  exact h h' F' N'
theorem ba_N {Q : Value -> Shared -> Prop} (F : Fr h₀ L s.heap m) (N : News h₀ L s.heap news) (h : ∀ b h', Fr h₀ L h' m -> News h₀ L h' ((b, baO []) :: news) -> (∀ p ∈ news, p.1 < b) -> Q (.ref b) { s with heap := h' }) : wpS (model PW w) A (call (.type "bytearray") []) Q E s := by
 refine call_ba fun h' k e => h _ h' ?_ ?_ fun p hp => Heap.lt_size (N p hp).1
 ·exact (F.push _).change k (Nat.ne_of_gt F.ns.lt) (next_is_new F)
 ·intro p hp
  rcases List.mem_cons.mp hp with rfl | hp
  ·exact ⟨e, Nat.ne_of_gt F.ns.lt, next_is_new F⟩
  ·exact ⟨k.extBut _ _ (Nat.ne_of_lt (Heap.lt_size (N p hp).1)) (Heap.get?_push_of_some _ (N p hp).1), (N p hp).2⟩
theorem bytes_N {Q : Value -> Shared -> Prop} (F : Fr h₀ L s.heap m) (N : News h₀ L s.heap news) (hm : (a, baO l) ∈ news) (hz : l.length <= 1000000) (h : ∀ t k, Q (.bytes l.toArray t) { s with toks := k }) : wpAny (model PW w) A (call (.type "bytes") [.ref a]) Q E s :=
 bytes_of_ba (N _ hm).1 hz h
theorem len_N {Q : Value -> Shared -> Prop} (N : News h₀ L s.heap news) (hm : (a, baO l) ∈ news) (hz : l.length <= 1000000) (h : ∀ t k, Q (.int l.length t) { s with toks := k }) : wpAny (model PW w) A (call (.builtin "len") [.ref a]) Q E s := by
 have ho := (N _ hm).1
 have hT : s.TypeIs (.ref a) "bytearray" := ⟨_, ho, rfl⟩
 refine call_function_entry kind_len plain_len entry_len (args_len1 _) ?_
 refine wpAny_bind (m := oneArg "len" _) (wpAny_pure ?_)
 refine wpAny_bind (m := callSpecial? (.ref a) (Str.ofString "__len__")) (wpAny_callSpecial?_slot (name := Str.ofString "__len__") hT slot_ba_len (len_ba ho ?_))
 refine wpAny_bind (wpAny_holding (wpAny_pure ?_))
 refine wpAny_bind (wpAny_letGo ?_)
 show wpAny _ _ (if ((l.length : Nat) : Int) < 0 then _ else _) _ _ _
 show wpAny _ _ (if ((l.length : Nat) : Int) ≥ 2 ^ 63 then _ else _) _ _ _
 rw [if_neg (by omega)]
 exact wpAny_bind (wpAny_mkInt (wpAny_pure ⟨_, rfl, h _ _⟩))
end
theorem wpS_lets {α : Type} {M : Model} {A : Around} {t : Sem α} {Q : α -> Shared -> Prop} {E : Value -> Shared -> Prop} {s : Shared} (h : let qk := Q; let ek := E; wpS M A t qk ek s) : wpS M A t Q E s := h
theorem lt_not {D : Addr} {kn : List (Addr × Obj)} (h : AllLt D kn) : D ∉ kn.map (·.1) := fun q => by
 obtain ⟨p, hp, e⟩ := List.mem_map.mp q
 exact tbn_neAll h p hp e
theorem kp_push {h : Heap} {o : Obj} : Kp [] h (h.push o) := ⟨fun _ _ e _ => Heap.get?_push_of_some _ e, fun _ o' e => ⟨o', Heap.get?_push_of_some _ e⟩⟩
theorem none_ge {h : Heap} {a : Addr} (h1 : h.objs.size <= a) : h.get? a = none := Heap.get?_none_of_le h1
theorem below_none {A : Around} {base h : Heap} {outer : List Env} (B : Below A base outer h) {a : Addr} (h1 : h.objs.size <= a) : base.get? a = none /\ a ∉ outer.filterMap (·.frame) := by
 constructor
 ·cases q : base.get? a with
  | none => rfl
  | some o => have := B.stays _ _ q; rw [none_ge h1] at this; cases this
 ·intro q
  obtain ⟨o, ho, _⟩ := (B.frames.mem q).2
  rw [none_ge h1] at ho; cases ho
end
section
set_option tactic.hygienic false
open PySem PySem.W PyProof.Rows PySem.Calls PySem.Spec
section
variable {prog : Program} {w : World} {A : Around} {E : Value -> Shared -> Prop} {s : Shared} {Q : Value -> Shared -> Prop} {a : Int} {t u : Tok}
theorem log2_small {a : Int} (h0 : -1000000 <= a) (h1 : a <= 1000000) : a.natAbs.log2 < 20 := by
 by_cases h : a.natAbs = 0
 ·rw [h]; decide
 ·exact (Nat.log2_lt h).mpr (by omega)
theorem str_short (h0 : -1000000 <= a) (h1 : a <= 1000000) (h : ∀ x : Str, x.length <= 21 -> Q (.str x s.toks) { s with toks := s.toks + 1 }) : wpAny (model prog w) A (call (.type "str") [.int a t]) Q E s :=
 PySem.P.str_of_int (Nat.lt_trans (log2_small h0 h1) (by decide)) (h _ (by
  show (Str.ofString (toString a)).length <= 21
  rw [PySem.ofString_length]
  exact int_text_length_le (by decide) (log2_small h0 h1)))
theorem add_short {x y : Str} (hx : x.length <= 1000) (hy : y.length <= 1000) (h : ∀ z t' tk, Q (.str z t') { s with toks := tk }) : wpAny (model prog w) A (binaryOp .Add (.str x t) (.str y u)) Q E s :=
 PyProof.Rows.add_str (fun t' tk => h _ t' tk) (by rw [sizeLine_eq]; omega)
theorem and16 (h : ∀ v, v = a % 65536 -> 0 <= v -> v < 65536 -> Q (.int v s.toks) { s with toks := s.toks + 1 }) : wpAny (model prog w) A (binaryOp .BitAnd (.int a t) (.int 65535 u)) Q E s :=
 and_int (h _ (bitAnd_m16 a) (by rw [bitAnd_m16]; omega) (by rw [bitAnd_m16]; omega))
end
end
section
set_option tactic.hygienic false
open PySem PySem.W PyProof.Rows PySem.Calls PySem.Spec
end
section
set_option tactic.hygienic false
open PySem PySem.W PyProof.Rows PySem.Calls PySem.Spec
theorem dict_empty {K K' : Type} [DecidableEq K] [DecidableEq K'] {w : World} {knd : KeyKind PW w K} {knd' : KeyKind PW w K'} {o : Obj} (hd : o.IsDictOf knd []) : o.IsDictOf knd' [] := by
 refine hideG ?_; intro PG9 hG9
 obtain ⟨es, ep, hc, hdat, _, hp, _⟩ := hd
 refine hG9 ?_; clear hG9 PG9
 have he : es.toList = [] := List.length_eq_zero_iff.mp hp.length
 refine ⟨es, ep, hc, hdat, ?_, ?_, List.nodup_nil⟩
 ·intro e he'
  have : e ∈ es.toList := Array.mem_toList_iff.mpr he'
  rw [he] at this; cases this
 ·rw [he]; exact .nil
theorem stored_intPairs {K : Type} [DecidableEq K] {vals : List (K × Int × Tok)} {k : K} {n : Int} {t : Tok} (h : intAt vals k = none) : stored (intPairs vals) k (.int n t) = intPairs (vals ++ [(k, n, t)]) := by
 unfold stored
 rw [if_neg]
 ·unfold intPairs; simp
 ·intro q
  have q' : (valueAt (intPairs vals) k).isSome = true := by
   unfold valueAt
   rw [Option.isSome_map, List.find?_isSome]
   obtain ⟨x, hx, e⟩ := List.any_eq_true.mp q
   exact ⟨x, hx, e⟩
  rw [isSome_valueAt_intPairs, h] at q'
  cases q'
end
section
set_option tactic.hygienic false
open PySem PySem.W PyProof.Rows PySem.Calls PySem.Spec
section
variable {w : World} {A : Around} {E : Value -> Shared -> Prop} {s : Shared} {h₀ : Heap} {L D M : Addr} {m : Str -> Option Value} {news news' : List (Addr × Obj)}
theorem sort_ints_N {vs : List Value} {ns : List Int} {Q : Value -> Shared -> Prop} (F : Fr h₀ L s.heap m) (N : News h₀ L s.heap ((D, PySem.W.listOf vs.toArray 0) :: news)) (hlt : ∀ p ∈ news, p.1 < D) (hI : IntsAre vs ns) (h64 : vs.length < 64)
  (h : ∀ vs' ns' c h', Fr h₀ L h' m -> News h₀ L h' ((D, PySem.W.listOf vs'.toArray c) :: news) -> IntsAre vs' ns' -> ns'.Perm ns -> ns'.Pairwise (· <= ·) -> Q .none { s with heap := h' }) :
  wpAny (model PW w) A (call (.builtin "list.sort") [.ref D]) Q E s := by
 have z := N (D, PySem.W.listOf vs.toArray 0) (.head _)
 have ho : s.heap.get? D = some (seqObj "list" vs.toArray 0) := z.1
 have hDs : D < s.heap.objs.size := Heap.lt_size ho
 refine wpAny_call_entry PyProof.Rows.slot_list_sort ⟨_, z.1, rfl⟩ PyProof.Rows.entry_list_sort (list_sort_tree (n := 0) (vs := vs) ho hI h64 fun out ns' hI' hp hP => ⟨.none, rfl, ?_⟩) (PyProof.Rows.args_list_sort _)
 obtain ⟨c, hc⟩ := sortedHeap_at (out := out) ho
 have old : ∀ b o, b ≠ D -> s.heap.get? b = some o -> (sortedHeap s.heap D vs out).get? b = some o := fun b o hb e => (sortedHeap_old hb (Heap.lt_size e)).trans e
 refine h out.toList ns' c _ ?_ ?_ hI' hp hP
 ·refine hideG ?_; intro PG9 hG9
  obtain ⟨oL, a1, a2, hL, a3⟩ := F.ns
  refine hG9 ?_; clear hG9 PG9
  exact ⟨⟨oL, a1, a2, old _ _ z.2.1.symm hL, a3⟩, fun b o e => old _ _ (fun q => by rw [q, z.2.2] at e; cases e) (F.keep b o e), F.above⟩
 ·intro p hp'
  rcases List.mem_cons.mp hp' with rfl | hp'
  ·exact ⟨by rw [Array.toArray_toList]; exact hc, z.2⟩
  ·have y := N p (.tail _ hp')
   exact ⟨old _ _ (Nat.ne_of_lt (hlt p hp')) y.1, y.2⟩
theorem keys_are {kvs : List (Int × Value)} : ∀ {vs : List Value}, vs.length = kvs.length -> (∀ (j : Nat) (v : Value), vs[j]? = some v -> ∃ k x, kvs[j]? = some (k, x) /\ (intKind PW w).is k v = true) -> IntsAre vs (kvs.map (·.1)) := by
 induction kvs with
 | nil => intro vs hl _; rw [List.length_eq_zero_iff.mp hl]; exact .nil
 | cons kv kvs ih =>
  intro vs hl hv
  cases vs with
  | nil => cases hl
  | cons v vs =>
   refine hideG ?_; intro PG9 hG9
   obtain ⟨k, x, e, hk⟩ := hv 0 v rfl
   refine hG9 ?_; clear hG9 PG9
   cases e
   obtain ⟨t, rfl⟩ := Value.isInt_shape hk
   exact .cons _ _ (ih (Nat.succ.inj hl) fun j v e => hv (j + 1) v e)
theorem sorted_dictN {o : Obj} {kvs : List (Int × Value)} {Q : Value -> Shared -> Prop} (hh : A.handled = none) (F : Fr h₀ L s.heap m) (N : News h₀ L s.heap news) (hm : (M, o) ∈ news) (hd : o.IsDictOf (intKind PW w) kvs) (lo : (M == sysModules) = false) (h64 : kvs.length < 64)
  (h : ∀ D vs' ns' c h' tk, Fr h₀ L h' m -> News h₀ L h' ((D, PySem.W.listOf vs'.toArray c) :: news) -> (∀ q ∈ news, q.1 < D) -> IntsAre vs' ns' -> ns'.Perm (kvs.map (·.1)) -> ns'.Pairwise (· <= ·) -> Q (.ref D) { s with heap := h', toks := tk }) :
  wpAny (model PW w) A (call (.builtin "sorted") [.ref M]) Q E s := by
 obtain ⟨ep, hat⟩ := (Heap.dictOf_iff.mpr ⟨o, (N _ hm).1, hd⟩ : s.heap.DictOf (intKind PW w) M kvs).dictAt
 refine kdu_sorted (kdl_dict (knd := intKind PW w) (kvs := kvs) (ep := ep) lo) hh F N hat (by rw [sizeLine_eq]; omega) fun B h' tk vs F' N' l1 hl hv => ?_
 exact sort_ints_N F' N' l1 (keys_are hl hv) (by omega) fun vs' ns' c h'' F'' N'' a b c' => h B vs' ns' c h'' tk F'' N'' l1 a b c'
theorem seq_item {ol : Obj} {vs : List Value} {nn : Nat} {k : Int} {u : Tok} {v : Value} {Q : Value -> Shared -> Prop} {value slice : PySem.Expr} (N : News h₀ L s.heap news) (hm : (M, ol) ∈ news) (hc : ol.cls = .type "list") (hd : ol.data = .seq vs.toArray nn) (hx : vs[k.toNat]? = some v) (h0 : 0 <= k) (h1 : k < 2 ^ 63) (h : Q v s)
  (hs : subscripted slice false (.ref M) (.int k u) = operate [.ref M, .int k u] (getItem (.ref M) (.int k u)) := by with_unfolding_all rfl) : wpAny (model PW w) A (subscriptTail value slice (.ref M) (.int k u)) Q E s := by
 have hl : s.heap.IsList M vs.toArray := ⟨ol, (N _ hm).1, hc, nn, hd⟩
 exact tail_any hl.typeIs slot_list_getitem.lookup (wpAny_getItem_list hl h0 h1 (by simpa using hx) h) hs
end
section
variable {w : World} {A : Around} {E : Value -> Shared -> Prop} {s : Shared} {h₀ : Heap} {L D M : Addr} {m : Str -> Option Value} {news news' : List (Addr × Obj)}
theorem sorted_dictG {o : Obj} {kvs : List (Int × Value)} {gs : List Int} {n : Nat} {Q : Value -> Shared -> Prop} (hh : A.handled = none) (F : Fr h₀ L s.heap m) (N : News h₀ L s.heap news) (hm : (M, o) ∈ news) (hd : o.IsDictOf (intKind PW w) kvs) (lo : (M == sysModules) = false)
  (hg : gs.Perm (kvs.map (·.1))) (ho : gs.Pairwise (· <= ·)) (hn : gs.length = n) (h64 : n < 64)
  (h : ∀ D vs' c h' tk, Fr h₀ L h' m -> News h₀ L h' ((D, PySem.W.listOf vs'.toArray c) :: news) -> (∀ q ∈ news, q.1 < D) -> IntsAre vs' gs -> vs'.length = n -> Q (.ref D) { s with heap := h', toks := tk }) :
  wpAny (model PW w) A (call (.builtin "sorted") [.ref M]) Q E s :=
 sorted_dictN hh F N hm hd lo (by have := hg.length_eq; rw [List.length_map] at this; omega) fun D vs' ns' c h' tk F' N' l1 hi hp hp2 => by
  obtain rfl := lks_uniq (hp.trans hg.symm) hp2 ho
  exact h D vs' c h' tk F' N' l1 hi (by rw [hi.length, hn])
theorem len_listN {ol : Obj} {vs : List Value} {nn n : Nat} {Q : Value -> Shared -> Prop} (N : News h₀ L s.heap news) (hm : (M, ol) ∈ news) (hc : ol.cls = .type "list") (hd : ol.data = .seq vs.toArray nn) (hn : vs.length = n) (hz : n <= 1000000) (h : ∀ t k, Q (.int (n : Int) t) { s with toks := k }) :
  wpAny (model PW w) A (call (.builtin "len") [.ref M]) Q E s := by
 subst hn
 refine call_len_list (items := vs.toArray) ⟨ol, (N _ hm).1, hc, nn, hd⟩ (by rw [List.size_toArray]; omega) ?_
 have := h (s.toks + 1) (s.toks + 1 + 1)
 simpa using this
end
section
variable {w : World} {A : Around} {E : Value -> Shared -> Prop} {s : Shared} {h₀ : Heap} {L D B M : Addr} {m : Str -> Option Value} {news news' : List (Addr × Obj)} {gg : Obj -> List (Addr × Obj)}
theorem extend_L {ys zs : List Value} {n n2 : Nat} {Q : Value -> Shared -> Prop} (F : Fr h₀ L s.heap m) (N : News h₀ L s.heap news) (U : UpdF D (PySem.W.listOf ys.toArray n) news gg) (hb : (B, PySem.W.listOf zs.toArray n2) ∈ news) (hz : ys.length + zs.length <= 1000000)
  (h : ∀ h' n', Fr h₀ L h' m -> News h₀ L h' (gg (PySem.W.listOf (ys ++ zs).toArray n')) -> Q .none { s with heap := h' }) : wpAny (model PW w) A (call (.builtin "list.extend") [.ref D, .ref B]) Q E s := by
 have hB := (N _ hb).1
 refine hideG ?_; intro PG9 hG9
 obtain ⟨pre, post, rfl, hg, a, b⟩ := U.split
 refine hG9 ?_; clear hG9 PG9
 refine extend_in F N a b hB (fun h' n' F' N' => ?_) (by rw [List.size_toArray, sizeLine_eq]; omega)
 refine h h' n' F' ?_
 rw [hg]
 exact N'
theorem len_tupN {vs : List Value} {n : Nat} {Q : Value -> Shared -> Prop} (N : News h₀ L s.heap news) (hm : (M, ({ cls := .type "tuple", data := .seq vs.toArray } : Obj)) ∈ news) (hn : vs.length = n) (hz : n <= 1000000) (h : ∀ t k, Q (.int (n : Int) t) { s with toks := k }) :
  wpAny (model PW w) A (call (.builtin "len") [.ref M]) Q E s := by
 subst hn
 refine PyProof.Rows.len_tuple (items := vs.toArray) ⟨_, (N _ hm).1, rfl, _, rfl⟩ (by rw [List.size_toArray]; omega) ?_
 have := h (s.toks + 1) (s.toks + 1 + 1)
 simpa using this
end
theorem take_cut {α : Type} {gs : List α} {i : Nat} {g : α} (h : gs[i]? = some g) : gs = gs.take i ++ g :: gs.drop (i + 1) := by
 obtain ⟨hi, e⟩ := List.getElem?_eq_some_iff.mp h
 rw [<- e, <- List.drop_eq_getElem_cons hi, List.take_append_drop]
theorem take_le {gs : List Int} {i : Nat} {g : Int} (ho : gs.Pairwise (· <= ·)) (h : gs[i]? = some g) : ∀ x ∈ gs.take i, x <= g := fun x hx => by
 rw [take_cut h] at ho
 exact (List.pairwise_append.mp ho).2.2 x hx g (.head _)
theorem take_ne {gs : List Int} {i : Nat} {g : Int} (ho : gs.Nodup) (h : gs[i]? = some g) : g ∉ gs.take i := fun hx => by
 rw [take_cut h] at ho
 exact (List.pairwise_append.mp ho).2.2 g hx g (.head _) rfl
end
section
set_option tactic.hygienic false
open PySem PySem.W PyProof.Rows PySem.Calls PySem.Spec
section
variable {w : World} {A : Around} {E : Value -> Shared -> Prop} {s : Shared} {h₀ : Heap} {L D B M : Addr} {m : Str -> Option Value} {news news' : List (Addr × Obj)} {gg : Obj -> List (Addr × Obj)}
theorem tup_ofL {ol : Obj} {vs : List Value} {nn : Nat} {Q : Value -> Shared -> Prop} (F : Fr h₀ L s.heap m) (N : News h₀ L s.heap news) (hm : (M, ol) ∈ news) (hc : ol.cls = .type "list") (hd : ol.data = .seq vs.toArray nn) (hz : vs.length <= 1000000)
  (h : ∀ D h', Fr h₀ L h' m -> News h₀ L h' ((D, ({ cls := .type "tuple", data := .seq vs.toArray } : Obj)) :: news) -> (∀ p ∈ news, p.1 < D) -> Q (.ref D) { s with heap := h' }) : wpAny (model PW w) A (call (.type "tuple") [.ref M]) Q E s := by
 refine call_tuple_list ⟨ol, (N _ hm).1, hc, nn, hd⟩ (fun h' hk => ?_) (by rw [List.size_toArray, sizeLine_eq]; omega)
 have F' : Fr h₀ L h' m := F.keeps hk
 have N' : News h₀ L h' news := fun p hp => ⟨hk _ _ (N p hp).1, (N p hp).2⟩
 exact h _ _ (F'.push _) (N'.push F' _) fun p hp => Heap.lt_size (N' p hp).1
theorem dat_eqv {d e : Dat} (ha : kqdOk 8 d = true) (hb : kqdOk 8 e = true) : open Classical in PyData.eqv (kqdP d) (kqdP e) = decide (d = e) := by
 classical
 have q := kqd_eqv 8 d e 8 ha hb
 by_cases hq : d = e
 ·rw [decide_eq_true hq]; exact q.mpr hq
 ·rw [decide_eq_false hq]; exact Bool.eq_false_iff.mpr fun x => hq (q.mp x)
theorem dat_shaped {d : Dat} (ha : kqdOk 8 d = true) : PySem.SeqAt.shaped (kqdP d) = true := by
 have la := kqd_lay 8 d ha
 unfold SeqAt.shaped; rw [la.1, Bool.true_and]; exact decide_eq_true (Nat.le_trans la.2 (by decide))
open Classical in
theorem dat_eq {v u : Value} {d e : Dat} {n₁ n₂ : List (Addr × Obj)} {Q : Value -> Shared -> Prop} (N : News h₀ L s.heap news) (Da : DatIn n₁ v d) (sa : ∀ p ∈ n₁, p ∈ news) (Db : DatIn n₂ u e) (sb : ∀ p ∈ n₂, p ∈ news)
  (ha : kqdOk 8 d = true) (hb : kqdOk 8 e = true) (hu : A.units + 64 < cLine) (h : Q (.bool (decide (d = e))) s) : wpAny (model PW w) A (compareOp .Eq v u) Q E s := by
 obtain ⟨as, ra⟩ := kqd_in N 8 (Da.mono sa) ha
 obtain ⟨bs, rb⟩ := kqd_in N 8 (Db.mono sb) hb
 exact eq_dataH ra rb (dat_shaped ha) (dat_shaped hb) hu (by rw [dat_eqv ha hb]; exact h)
open Classical in
theorem dat_ne {v u : Value} {d e : Dat} {n₁ n₂ : List (Addr × Obj)} {Q : Value -> Shared -> Prop} (N : News h₀ L s.heap news) (Da : DatIn n₁ v d) (sa : ∀ p ∈ n₁, p ∈ news) (Db : DatIn n₂ u e) (sb : ∀ p ∈ n₂, p ∈ news)
  (ha : kqdOk 8 d = true) (hb : kqdOk 8 e = true) (hu : A.units + 64 < cLine) (h : Q (.bool (!decide (d = e))) s) : wpAny (model PW w) A (compareOp .NotEq v u) Q E s := by
 obtain ⟨as, ra⟩ := kqd_in N 8 (Da.mono sa) ha
 obtain ⟨bs, rb⟩ := kqd_in N 8 (Db.mono sb) hb
 exact ne_dataH ra rb (dat_shaped ha) (dat_shaped hb) hu (by rw [dat_eqv ha hb]; exact h)
end
noncomputable def IsMx (l : List Int) (v : Int) : Prop := v ∈ l /\ ∀ x ∈ l, x <= v
theorem IsMx.uniq {l : List Int} {v u : Int} (h : IsMx l v) (k : IsMx l u) : v = u := Int.le_antisymm (k.2 v h.1) (h.2 u k.1)
end
section
set_option tactic.hygienic false
open PySem PySem.W PyProof.Rows PySem.Calls PySem.Spec
end
section
set_option tactic.hygienic false
open PySem PySem.W PyProof.Rows PySem.Calls PySem.Spec
section
variable {prog : Program} {w : World} {A : Around} {E : Value -> Shared -> Prop} {s : Shared} {env : Env}
theorem wpS_Try {body : List Stmt} {h₀ : ExceptHandler} {hs : List ExceptHandler} {pos : Pos} {Q : Flow -> Shared -> Prop}
  (h : wpS (model prog w) A (execs body env) (fun f s₁ => f ≠ .next /\ Q f s₁)
   (fun e s₁ => wpAny (model prog w) A (noteFrame e env) (fun _ s₂ => wpAny (model prog w) A (setFlight e none) (fun _ s₃ => wpAny (model prog w) A (handleBy e env (h₀ :: hs)) Q E s₃) E s₂) E s₁) s) :
  wpS (model prog w) A (exec (.Try body (h₀ :: hs) [] [] pos) env) Q E s := by
 rw [arm_exec_Try]
 refine wpS_bindA (wpAny_standAt ?_)
 delta tryStmt
 refine wpS_bind (wpS_attempt (wpS_mono h (fun f s₁ h₁ => ?_) fun e s₁ h₁ => ?_))
 ·obtain ⟨h1, h2⟩ := h₁
  cases f <;> first | exact absurd rfl h1 | exact wpS_pure h2
 ·exact wpS_any (wpAny_bind (wpAny_mono h₁ (fun _ _ h₂ => wpAny_bind h₂) fun _ _ x => x))
end
end
section
set_option tactic.hygienic false
open PySem PySem.W PyProof.Rows PySem.Calls PySem.Spec
structure KpU (outer : List Env) (h h' : Heap) : Prop where
 kp : ∀ b o, h.get? b = some o -> b ∉ fr outer -> h'.get? b = some o
 up : ∀ b o, h.get? b = some o -> ∃ sl, h'.get? b = some { o with slots := sl }
theorem KpU.of {outer : List Env} {h h' : Heap} (k : Kp [] h h') : KpU outer h h' := ⟨fun b o e _ => k.all b o e, fun b o e => ⟨o.slots, k.all b o e⟩⟩
theorem lookIn_all {o : Obj} {es : Array DictEntry} {ep : Nat} {m : Str -> Option Value} (hd : o.data = .dict es ep) (hk : StrKeys es) (hf : ∀ name, nsFind es name = m name) (name : Str) : lookIn name o = some (m name) := by
 unfold lookIn
 rw [hd]
 dsimp only
 have e := hf name
 unfold nsFind findBy at e
 rw [<- Array.find?_toList] at e
 cases q : es.toList.find? (·.key.isStr name) with
 | some x => rw [q] at e; rw [<- e]; rfl
 | none =>
  rw [q] at e
  rw [<- e]
  dsimp only
  rw [if_neg]
  ·rfl
  ·rw [List.any_eq_true]
   rintro ⟨x, hx, y⟩
   obtain ⟨n, t, z⟩ := hk x (Array.mem_toList_iff.mp hx)
   unfold DictEntry.refKey at y
   rw [z] at y
   cases y
noncomputable def ExDict (o : Obj) (msg atv : Value) : Prop := ∀ name, lookIn name o = some (if name = "at" then some atv else if name = "what" then some msg else none)
section
variable {w : World} {mean : ExcName -> Option Value} {mg mb : Str -> Option Value} {A : Around} {base g h : Heap} {outer : List Env} {s : Shared} {R : Result -> Shared -> Prop} {E : Value -> Shared -> Prop} {news : List (Addr × Obj)} {L dx : Addr} {m : Str -> Option Value}
theorem exc_inst {e dx : Addr} {vs : Array Value} {od : Obj} (he : h.get? e = some (excAt vs (some dx))) (hd : h.get? dx = some od) : InstAt h e (excAt vs (some dx)) 61 (some od) := ⟨he, rfl, rfl, hd⟩
theorem exc_get {e : Addr} {ox od : Obj} {name : Str} {msg atv v : Value} {expr : Bool} {Q : Value -> Shared -> Prop} (X : (hd.heap_1 w.params).In s.heap) (I : InstAt s.heap e ox 61 (some od)) (D : ExDict od msg atv)
  (hn : findIn (hd.heap_1 w.params) (.ref 61) name = some none) (hv : (if name = "at" then some atv else if name = "what" then some msg else none) = some v) (hh : handedIn v = true) (h : Q v { s with toks := s.toks + 1 }) :
  wpAny (model PW w) A (getAttr (.ref e) name expr) Q E s := by
 have SG := PySem.F.excAttr_ValueError.ga
 have hk : builtinKind "BaseException.__getattribute__" = some .slot := by decide +kernel
 have hsplit : splitId "BaseException.__getattribute__" = some ("BaseException", "__getattribute__") := by decide +kernel
 have hga : findIn (hd.heap_1 w.params) (.ref 61) "__getattribute__" = some (some (.builtin "BaseException.__getattribute__")) := by kernel_rfl
 have hgt : findIn (hd.heap_1 w.params) (.ref 61) "__getattr__" = some none := by kernel_rfl
 refine hideG ?_; intro PG9 hG9
 obtain ⟨hp, gg, d, t, os⟩ := s
 refine hG9 ?_; clear hG9 PG9
 have t1 : Looks (model PW w) hp (typeOf (.ref e)) (.ref 61) := I.type
 have L1 : Looks (model PW w) hp (typeLookup (.ref 61) "__getattribute__") (some (.builtin "BaseException.__getattribute__")) := looks_findIn X hga
 have L2 : Looks (model PW w) hp (typeLookup (.ref 61) "__getattr__") none := looks_findIn X hgt
 have L3 : Looks (model PW w) hp (isInstance (.ref e) (.type "BaseException")) true := by
  unfold isInstance
  exact t1.andThen (.of_peek X (by kernel_rfl))
 have hf : findObj (hd.heap_1 w.params) 61 (some od) name = some (.value v) := by
  obtain ⟨cd, hc, hdi⟩ := any_some (show hasDictIn (hd.heap_1 w.params) 61 = true by kernel_rfl)
  unfold findObj
  rw [hc, hn]
  show (W.ownOf cd (some od) name).bind _ = _
  unfold W.ownOf
  rw [hdi, if_pos rfl]
  dsimp only
  rw [D name, hv]
  rfl
 have L4 : Looks (model PW w) hp (Builtin.ObjectAttr.find (.ref e) (.ref 61) name) (.value v) := looks_find X I hf
 have hx2 : (Value.builtin "BaseException.__getattribute__" == Value.builtin "object.__getattribute__") = false := by decide +kernel
 refine wpAny_bind (wpAny_mkText (wpAny_holding (wpAny_bind (t1.at (wpAny_bind (L1.at ?_))))))
 dsimp only
 rw [hx2, Bool.and_false, if_neg (by decide)]
 unfold getAttrByItsOwn hookBefore callGetattribute boundAndCalled
 refine wpAny_bind (L2.at (t := if onTheHeap (Value.ref 61) = true then _ else _) ?_)
 refine wpAny_bind (wpAny_attempt (wpAny_holding ?_))
 rw [if_neg (by cases expr <;> decide)]
 refine wpAny_bind (wpAny_of_eq (SG.bind _) ?_)
 refine wpAny_mono (Q := fun u s' => u = v /\ s' = ⟨hp, gg, d, t + 1, os⟩) (E := fun _ _ => False) (wpAny_call (codeAny_call_builtin SG.plain PySem.F.entry_bexc_ga ?_)) (fun u s' hu => ?_) fun _ _ z => z.elim
 ·refine check_slot (i := "BaseException.__getattribute__") (owner := "BaseException") (n := "__getattribute__") (self := .ref e) (rest := [.str name t]) (kw := []) hk hsplit L3 (PySem.F.args_bexc_ga _ _) ?_
  refine wpAny_bind (wpAny_pure ?_)
  refine wpAny_bind (wpAny_pure ?_)
  refine wpAny_bind (t1.at ?_)
  refine wpAny_bind (L4.at ?_)
  exact wpAny_pure ⟨rfl, rfl⟩
 ·obtain ⟨rfl, rfl⟩ := hu
  dsimp only
  rw [handedOut_of hh]
  exact wpAny_pure h
theorem exc_method {e : Addr} {ox od : Obj} {msg atv : Value} {pl : Sem Bool} {Q : Value × List Value -> Shared -> Prop} (X : (hd.heap_1 w.params).In s.heap) (I : InstAt s.heap e ox 61 (some od)) (D : ExDict od msg atv) (hdx : ox.dict = some dx)
  (h : Q (.ref 45, [.ref e]) s) : wpAny (model PW w) A (getMethod (.ref e) "told" pl) Q E s := by
 have hga : findIn (hd.heap_1 w.params) (.ref 61) "__getattribute__" = some (some (.builtin "BaseException.__getattribute__")) := by kernel_rfl
 have hgt : findIn (hd.heap_1 w.params) (.ref 61) "__getattr__" = some none := by kernel_rfl
 have hf : findIn (hd.heap_1 w.params) (.ref 61) "told" = some (some (.ref 45)) := by kernel_rfl
 have ht : typeIn (hd.heap_1 w.params) (.ref 45) = some (.type "function") := by kernel_rfl
 have hcan : (Manifest.canonical "BaseException.__getattribute__" != "object.__getattribute__") = false := by decide +kernel
 refine wpAny_bind (wpAny_bind (I.type.here ((looks_findIn X hga).here ?_)))
 dsimp only
 rw [hcan, if_neg (by decide)]
 refine wpAny_bind (wpAny_bind (I.type.here ((looks_findIn X hgt).here ?_)))
 refine wpAny_bind (wpAny_bind (I.type.here ((looks_findIn X hf).here (wpAny_bind ((looks_typeIn X ht).here ?_)))))
 refine wpAny_bind (wpAny_loadPart I.at_ ?_)
 have hd := I.dict
 rw [hdx] at hd ⊢
 refine wpAny_bind (wpAny_bind (wpAny_loadPart hd ?_))
 rw [nsLook_of (D _)]
 refine wpAny_pure ?_
 exact wpAny_bind (wpAny_rule (wpAny_pure h))
end
end
section
set_option tactic.hygienic false
open PySem PySem.W PyProof.Rows PySem.Calls PySem.Spec
section
variable {w : World} {mean : ExcName -> Option Value} {mg mb : Str -> Option Value} {A : Around} {base g h : Heap} {outer : List Env} {s s' : Shared} {R : Result -> Shared -> Prop} {E : Value -> Shared -> Prop} {news kn : List (Addr × Obj)} {L a : Addr} {m : Str -> Option Value}
 {name : Str} {scope : Scope} {cd : Value}
theorem exitKpU {h₀ g g' h' : Heap} {m' : Str -> Option Value} (hg : ∀ b o, h₀.get? b = some o -> b ∉ kn.map (·.1) -> g.get? b = some o) (hkn : ∀ p ∈ kn, h₀.get? p.1 = some p.2) (T : KtsTurn (fr outer) g g') (F' : Fr g' L h' m') (N' : News g' L h' news) (hs : ∀ p ∈ kn, p ∈ news) : KpU outer h₀ h' := by
 have inK : ∀ b o, h₀.get? b = some o -> b ∈ kn.map (·.1) -> h'.get? b = some o := fun b o e q => by
  obtain ⟨p, hp, rfl⟩ := List.mem_map.mp q
  have := hkn p hp
  rw [this] at e; cases e
  exact (N' p (hs p hp)).1
 refine ⟨fun b o e n => ?_, fun b o e => ?_⟩
 ·by_cases q : b ∈ kn.map (·.1)
  ·exact inK b o e q
  ·exact F'.keep _ _ (T.other b o (hg b o e q) n)
 ·by_cases q : b ∈ kn.map (·.1)
  ·exact ⟨o.slots, inK b o e q⟩
  ·obtain ⟨sl, z⟩ := T.up (hg b o e q)
   exact ⟨sl, F'.keep _ _ z⟩
theorem caught_fly {e : Addr} {h₁ : Heap} {n : Str} {b₀ : Stmt} {suite : List Stmt} {pos np : Pos} {rest : List ExceptHandler} {Q : Flow -> Shared -> Prop} {atv : Value}
  (B' : Below (nh outer A) base outer g) (G : Gd w mean mg mb base) (F' : Fr g L h₁ m) (N' : News g L h₁ news) (x : FlyD base (envOf name scope L a cd :: outer) e atv (fr (envOf name scope L a cd :: outer)) h₁ s'.heap)
  (k : ∀ g' h' tk vs dx od msg, KtsTurn (fr outer) g g' -> Below (nh outer A) base outer g' -> (hd.heap_1 w.params).In g' -> Top topProg LO mean mg mb g' -> Fr g' L h' (fun y => if y = n then some (.ref e) else m y) ->
   News g' L h' ((e, excAt vs (some dx)) :: (dx, od) :: news) -> ExDict od msg atv -> handedIn msg = true -> h₁.get? e = none -> h₁.get? dx = none ->
   wpAny (model PW w) (((nh outer A).deeper (envOf name scope L a cd)).mark (some (.ref e))) (execs (b₀ :: suite) (envOf name scope L a cd))
    (fun f s₄ => wpAny (model PW w) ((nh outer A).deeper (envOf name scope L a cd)) (do bindName (envOf name scope L a cd) n .none; unbindBehindTheSuite (envOf name scope L a cd) n pos) (fun _ s₅ => Q f s₅) E s₄)
    (AsSuiteRaised (model PW w) (((nh outer A).deeper (envOf name scope L a cd)).mark (some (.ref e))) (envOf name scope L a cd) n pos (notedBy (model PW w) (((nh outer A).deeper (envOf name scope L a cd)).mark (some (.ref e))) (envOf name scope L a cd) (cameBackBy (model PW w) ((nh outer A).deeper (envOf name scope L a cd)) (envOf name scope L a cd) E)))
    { s' with heap := h', toks := tk })
  (hk : autoParam (scope.kind = .function) rA) (hl : autoParam ((envOf name scope L a cd).kindOf n = some .local) rA)
  (hx : autoParam ((envOf name scope L a cd).kindOf "TableFault" = some .globalImplicit) rA) :
  wpAny (model PW w) ((nh outer A).deeper (envOf name scope L a cd)) (noteFrame (.ref e) (envOf name scope L a cd))
   (fun _ s₂ => wpAny (model PW w) ((nh outer A).deeper (envOf name scope L a cd)) (setFlight (.ref e) none) (fun _ s₃ =>
    wpAny (model PW w) ((nh outer A).deeper (envOf name scope L a cd)) (handleBy (.ref e) (envOf name scope L a cd) (.ExceptHandler (some (.Name "TableFault" np)) (some n) (b₀ :: suite) pos :: rest)) Q E s₃) E s₂) E s' := by
 have hfr : ((nh outer A).deeper (envOf name scope L a cd)).frames = some (envOf name scope L a cd :: outer) := rfl
 refine fly_note hfr rfl x (fun a h => .inl h) fun h₂ x₂ => ?_
 refine fly_mark (s := { s' with heap := h₂ }) (f := none) x₂ fun h₃ x₃ => ?_
 have X₃ : (hd.heap_1 w.params).In h₃ := G.kin.keeps x₃.stays
 have T₃ := topRead_of (G.top.keeps x₃.stays)
 refine hideG ?_; intro PG9 hG9
 obtain ⟨vs, T, oT, ts, dx, msg, he, _⟩ := x₃.ex
 refine hG9 ?_; clear hG9 PG9
 refine hideG ?_; intro PG9 hG9
 obtain ⟨nm, qn, NN, bs, bm, hdct, sn, sub, ab, col, dd, k0, k1, k2, k3, k5, newId, hC, hbase, _⟩ := kts_cls (C := 61) (T := "Exception") X₃ (by kernel_rfl)
 refine hG9 ?_; clear hG9 PG9
 refine wpAny_handleBy_cons (codeAny_handlers_test (Name_function_global hk hx (loadGlobal_global (mg := mg) (v := .ref 61) T₃.g (mg_of X₃ T₃.g (by kernel_rfl)) (wpAny_excMatches_sub_self hC he rfl hbase ?_)) (by decide))) (by intro q; cases q)
 refine codeAny_handlers_suite_as ?_
 refine fly_mark (s := { s' with heap := h₃ }) (f := none) x₃ fun h₄ x₄ => ?_
 clear he x₂ x₃ X₃ T₃ hC
 refine hideG ?_; intro PG9 hG9
 obtain ⟨vs, T, oT, ts, dx, msg, he, h1, hTb, hT0, hTe, hT, hTd, h3, hn, hdx⟩ := x₄.ex
 refine hG9 ?_; clear hG9 PG9
 refine hideG ?_; intro PG9 hG9
 obtain ⟨oL, es, ep, hoL, hdL, r⟩ := F'.ns
 refine hG9 ?_; clear hG9 PG9
 have mL : L ∈ fr (envOf name scope L a cd :: outer) := by unfold fr; rw [List.filterMap_cons]; exact .head _
 have gL : g.get? L = none := kts_self F'
 have nfr : ∀ b o, g.get? b = some o -> b ∉ fr outer -> b ∉ fr (envOf name scope L a cd :: outer) := fun b o q z w => (kts_mem w).elim (fun y => by rw [y, gL] at q; cases q) z
 obtain ⟨KT, KS⟩ := kts_turn_at (h := h₄) (fs := fr outer) (g := g) (fun b hb => by obtain ⟨_, o, ho, _⟩ := B'.frames.mem hb; exact ⟨o, ho⟩)
  (fun b o q z => x₄.kp.kp b o (F'.keep b o q) (nfr b o q z)) (fun b o q z => x₄.up b (fr_tail rfl z) o (F'.keep b o q))
 generalize ktsHeap h₄ (fr outer) g = g' at KT KS
 have F₄ : Fr g' L h₄ m := by
  obtain ⟨sl, z⟩ := x₄.up L mL _ hoL
  exact ⟨⟨_, es, ep, z, hdL, r⟩, KS, by rw [KT.size]; exact F'.above⟩
 have B₄ : Below (nh outer A) base outer g' := ⟨B'.stack, fun b o q => KT.other b o (B'.stays b o q) (fun hm => by rw [(B'.frames.mem hm).1] at q; cases q), B'.frames.of_keeps fun b o q _ => by
  obtain ⟨sl, hs⟩ := KT.up q
  exact ⟨_, hs, rfl⟩⟩
 have gn : ∀ b, h₁.get? b = none -> g'.get? b = none := fun b q => KT.none_ b (by
  cases z : g.get? b with
  | none => rfl
  | some o => rw [F'.keep _ _ z] at q; cases q)
 have Nw : ∀ p ∈ news, h₄.get? p.1 = some p.2 /\ p.1 ≠ L /\ g'.get? p.1 = none := fun p hp => ⟨x₄.kp.kp _ _ (N' p hp).1 (not_frame B' N' rfl p hp), (N' p hp).2.1, KT.none_ _ (N' p hp).2.2⟩
 refine hideG ?_; intro PG9 hG9
 obtain ⟨⟨od, esd, epd, hod, hdd, hsk, huk, hfk⟩, hmsg⟩ := hn
 refine hG9 ?_; clear hG9 PG9
 have eL : e ≠ L := fun q => by have := x₄.new₀; rw [q, hoL] at this; cases this
 have dL : dx ≠ L := fun q => by have := hdx; rw [q, hoL] at this; cases this
 have N₄ : News g' L h₄ ((e, excAt vs (some dx)) :: (dx, od) :: news) := fun p hp => by
  rcases List.mem_cons.mp hp with rfl | hp
  ·exact ⟨he, eL, gn _ x₄.new₀⟩
  rcases List.mem_cons.mp hp with rfl | hp
  ·exact ⟨hod, dL, gn _ hdx⟩
  ·exact Nw p hp
 refine stN (s := { s' with heap := h₄ }) F₄ N₄ (fun h₅ F₅ N₅ => ?_) hk hl
 exact k g' h₅ _ vs dx od msg KT B₄ (G.kin.keeps B₄.stays) (G.top.keeps B₄.stays) F₅ N₅ (lookIn_all hdd hsk hfk) hmsg x₄.new₀ hdx
end
end
section
set_option tactic.hygienic false
open PySem PySem.W PyProof.Rows PySem.Calls PySem.Spec
section
variable {prog : Program} {w : World} {A : Around} {s : Shared} {R : Result -> Shared -> Prop}
theorem codeS_expr {e : Expr} {env : Env}
  (h : wpS (model prog w) (A.deeper env) (eval e env) (fun v s' => R (.ok (.ret v)) s')
   (fun e' s' => wpAny (model prog w) (A.deeper env) (leaving env e') (fun _ s'' => R (.error e') s'') (fun e'' s'' => R (.error e'') s'') s') s) : codeS (model prog w) A (.expr e env) R s := by
 refine codeS_of_tree rfl ?_
 show wpS _ (A.deeper env) (do point; ret (<- (eval e env).onRaise (leaving env))) _ _ s
 exact wpS_bindA (wpAny_point (wpS_bind (wpS_onRaise (wpS_mono h (fun v s' h' => wpS_pure h') fun _ _ h' => h'))))
theorem codeS_callE {a : Addr} {args : Args} {o : Obj} {fd : FuncData} {body : Expr} (hroom : A.depth < recursionLimit) (ho : s.heap.get? a = some o)
  (hd' : o.data = .func fd) (hco : fd.scope.isCoroutine = false) (hgen : fd.scope.isGenerator = false) (hbody : fd.body = .expr body) (hcd : s.heap.CodeRec fd.code fd.qualname)
  (h : wpAny (model prog w) A.in1 (bindArgs fd args) (fun binds s₁ =>
   wpAny (model prog w) A.in1 (newFunctionEnv fd.scope fd.globals fd.closure binds (fd.qualname ++ ".<locals>.") (some a) fd.code none fd.builtins)
    (fun env s₂ => s₂.heap.NoLimit /\ codeS (model prog w) A (.expr body env) R s₂) (fun e s' => R (.error e) s') s₁) (fun e s' => R (.error e) s') s) :
  codeS (model prog w) A (.call (.ref a) args) R s := by
 refine codeS_of_tree rfl ?_
 show wpS _ A.in1 (callAny (.ref a) args) _ _ s
 refine wpS_bindA (wpAny_load ho ?_)
 refine hideG ?_; intro PG9 hG9
 obtain ⟨c, oc, vs, tq, hc, hoc, hdc, hq⟩ := hcd
 refine hG9 ?_; clear hG9 PG9
 simp only [hd', callFunction, hco, hgen, hbody, hc]
 rw [hc] at h
 refine wpS_any (wpAny_bind (m := field (.ref c) 1) (wpAny_field hoc hdc hq (wpAny_bind (wpAny_pure ?_))))
 exact wpAny_bind (wpAny_mono h (fun binds s₁ h₁ => wpAny_bind (wpAny_mono h₁ (fun env s₂ h₂ => wpAny_bind (wpAny_enterFrame h₂.1 hroom (wpAny_pure (And.intro rfl h₂.2)))) fun _ _ h' => h')) fun _ _ h' => h')
end
section
variable {w : World} {mean : ExcName -> Option Value} {mg mb : Str -> Option Value} {A : Around} {base : Heap} {outer : List Env} {s : Shared} {R : Result -> Shared -> Prop}
 {name qual : Str} {params : Arguments} {body : Expr} {scope : Scope} {pm ctv : Value} {c' f : Addr} {cl : List (Str × Addr)} {args : Args} {oc : Obj} {vs : Array Value} {t : Tok}
theorem enterLam (kn : List (Addr × Obj)) (B : Below A base outer s.heap) (G : Gd w mean mg mb base) (hkn : Kn base outer s.heap kn)
  (hm : (f, kla_obj name qual params body scope cl pm c' ctv) ∈ kn) (hc : (c', oc) ∈ kn) (hoc : oc.data = .fields vs) (hv : vs[1]? = some (.str qual t)) (hroom : A.depth < recursionLimit)
  (h : ∀ g L' h₁, Fr g L' h₁ (fun y => ([] : List (Str × Value)).reverse.lookup y) -> News g L' h₁ kn -> Below A base outer g -> (hd.heap_1 w.params).In g -> Top topProg LO mean mg mb g -> (∀ b o, s.heap.get? b = some o -> b ∉ kn.map (·.1) -> g.get? b = some o) -> s.heap.get? L' = none ->
   wpS (model PW w) (A.deeper (envX qual scope L' f (.ref c') cl)) (eval body (envX qual scope L' f (.ref c') cl)) (fun v s' => R (.ok (.ret v)) s')
    (fun e s' => wpAny (model PW w) (A.deeper (envX qual scope L' f (.ref c') cl)) (leaving (envX qual scope L' f (.ref c') cl) e) (fun _ s'' => R (.error e) s'') (fun e' s'' => R (.error e') s'') s') { s with heap := h₁, toks := s.toks + 0 })
  (hbind : bindArgs (kla_fn name qual params body scope cl pm (.ref c') ctv) args = pure []) (hco : scope.isCoroutine = false) (hgen : scope.isGenerator = false) (hk : scope.kind = .function) (hcell : ∀ x ∈ scope.names, x.2 ≠ .cell) :
  codeS (model PW w) A (.call (.ref f) args) R s := by
 have nb : ∀ b o, base.get? b = some o -> b ∉ kn.map (·.1) := fun b o e q => by
  obtain ⟨p, hp, rfl⟩ := List.mem_map.mp q
  rw [(hkn p hp).2.1] at e; cases e
 have st : base.StaysIn (hideAll s.heap (kn.map (·.1))) := fun b o e => hideAll_get _ (B.stays b o e) (nb b o e)
 refine codeS_callE (fd := kla_fn name qual params body scope cl pm (.ref c') ctv) hroom (hkn _ hm).1 rfl hco hgen rfl ⟨c', oc, vs, t, rfl, (hkn _ hc).1, hoc, hv⟩ ?_
 rw [hbind]
 refine wpAny_pure (wpAny_newFunctionEnv hcell (fun _ h => absurd h List.not_mem_nil) (fun h₁ hns hsb => ⟨(G.top.nolimit.keeps B.stays).fresh _ hsb, codeS_expr ?_⟩) hk)
 have hk₁ : ∀ b o, s.heap.get? b = some o -> h₁.get? b = some o := fun b o e => hsb.extBut b o (Nat.ne_of_lt (Heap.lt_size e)) (Heap.get?_push_of_some _ e)
 exact h _ s.heap.objs.size h₁ ⟨hns, fun b o e => hk₁ b o (of_hideAll _ e), Nat.le_of_eq (hideAll_size _ _)⟩
  (fun p hp => ⟨hk₁ _ _ (hkn p hp).1, Nat.ne_of_lt (Heap.lt_size (hkn p hp).1), hideAll_none _ (List.mem_map_of_mem hp)⟩)
  ⟨B.stack, st, funFrames_hide' B.frames fun a ha q => by
   obtain ⟨p, hp, rfl⟩ := List.mem_map.mp ha
   exact (hkn p hp).2.2 q⟩ (G.kin.keeps st) (G.top.keeps st) (fun b o e q => hideAll_get _ e q) (Heap.get?_none_of_le (Nat.le_refl _))
end
section
variable {g h h' : Heap} {L : Addr} {m : Str -> Option Value} {news : List (Addr × Obj)} {env : Env}
theorem okC (F : Fr g L h m) (N : News g L h news) (hf : env.frame = some L) (k : KpU [env] h h') : Fr g L h' m /\ News g L h' news := by
 have hfr : ∀ b, b ∈ fr [env] -> b = L := fun b hb => by
  unfold fr at hb
  rw [List.filterMap_cons, hf] at hb
  exact List.mem_singleton.mp hb
 have gL := kts_self F
 refine hideG ?_; intro PG9 hG9
 obtain ⟨o, es, ep, ho, hd, r⟩ := F.ns
 refine hG9 ?_; clear hG9 PG9
 obtain ⟨sl, hs⟩ := k.up L o ho
 refine ⟨⟨⟨_, es, ep, hs, hd, r⟩, fun b o' e => k.kp b o' (F.keep b o' e) fun q => ?_, F.above⟩, fun p hp => ⟨k.kp _ _ (N p hp).1 fun q => (N p hp).2.1 (hfr _ q), (N p hp).2⟩⟩
 rw [hfr b q, gL] at e
 cases e
structure TabOk (ps : Array Value) (n : Nat) : Prop where
 tri : TriplesOk ps.toList
 no : ∀ pos : Pos, n <= pos.line -> codeAmong pos ps.toList = none
theorem TabOk.nil : TabOk #[] 0 := ⟨trivial, fun _ _ => rfl⟩
theorem among_snoc {p pos : Pos} {c : Value} (hne : p.line ≠ pos.line) : ∀ (l : List Value), TriplesOk l -> codeAmong pos l = none -> TriplesOk (l ++ [rawInt p.line, rawInt p.col, c]) /\ codeAmong pos (l ++ [rawInt p.line, rawInt p.col, c]) = none
 | [], _, _ => ⟨trivial, by
  show (if ((p.line : Int) == (pos.line : Int) && (p.col : Int) == (pos.col : Int)) = true then some c else none) = none
  rw [if_neg]
  simp only [Bool.and_eq_true, beq_iff_eq]
  omega⟩
 | .int a _ :: .int b _ :: x :: r, h, hn => by
  have hn' : (if (a == (pos.line : Int) && b == (pos.col : Int)) = true then some x else codeAmong pos r) = none := hn
  split at hn'
  ·cases hn'
  ·rename_i q
   obtain ⟨h1, h2⟩ := among_snoc hne r h hn'
   refine ⟨h1, ?_⟩
   show (if (a == (pos.line : Int) && b == (pos.col : Int)) = true then some x else codeAmong pos (r ++ _)) = none
   rw [if_neg q]
   exact h2
theorem TabOk.snoc {ps : Array Value} {n k : Nat} {p : Pos} {c : Value} (h : TabOk ps n) (_hn : n <= p.line) (hk : p.line < k) : TabOk (ps ++ #[rawInt p.line, rawInt p.col, c]) k := by
 have e : (ps ++ #[rawInt p.line, rawInt p.col, c]).toList = ps.toList ++ [rawInt p.line, rawInt p.col, c] := by simp
 refine ⟨?_, fun pos hp => ?_⟩
 ·rw [e]
  have q : p.line ≠ (⟨p.line + 1, 0, 0, 0⟩ : Pos).line := Nat.ne_of_lt (Nat.lt_succ_self _)
  exact (among_snoc (c := c) q ps.toList h.tri (h.no _ (by show n <= p.line + 1; omega))).1
 ·rw [e]
  exact (among_snoc (c := c) (p := p) (pos := pos) (by omega) ps.toList h.tri (h.no _ (by omega))).2
end
end
section
set_option tactic.hygienic false
open PySem PySem.W PyProof.Rows PySem.Calls PySem.Spec
section
variable {w : World} {A : Around} {E : Value -> Shared -> Prop} {s : Shared} {h₀ : Heap} {L : Addr} {m : Str -> Option Value} {news : List (Addr × Obj)}
theorem dat_neF {v u : Value} {d e : Dat} {n₁ n₂ : List (Addr × Obj)} {Q : Value -> Shared -> Prop} (N : News h₀ L s.heap news) (Da : DatIn n₁ v d) (Db : DatIn n₂ u e) (sa : ∀ p ∈ n₁, p ∈ news) (sb : ∀ p ∈ n₂, p ∈ news)
  (ha : kqdOk 8 d = true) (he : d = e) (hu : A.units + 64 < cLine) (h : Q (.bool false) s) : wpAny (model PW w) A (compareOp .NotEq v u) Q E s := by
 subst he
 exact dat_ne N Da sa Db sb ha ha hu (by simpa using h)
theorem dat_eqT {v u : Value} {d e : Dat} {n₁ n₂ : List (Addr × Obj)} {Q : Value -> Shared -> Prop} (N : News h₀ L s.heap news) (Da : DatIn n₁ v d) (Db : DatIn n₂ u e) (sa : ∀ p ∈ n₁, p ∈ news) (sb : ∀ p ∈ n₂, p ∈ news)
  (ha : kqdOk 8 d = true) (he : d = e) (hu : A.units + 64 < cLine) (h : Q (.bool true) s) : wpAny (model PW w) A (compareOp .Eq v u) Q E s := by
 subst he
 exact dat_eq N Da sa Db sb ha ha hu (by simpa using h)
theorem lamS {K : Frag} {mean : ExcName -> Option Value} {mg mb : Str -> Option Value} {p : Program} {loose : List Str} {cn : Str} {cs scope : Scope} {a c P : Addr} {cl clos : List (Str × Addr)} {ps : Array Value} {k : Nat} {gg : Obj -> List (Addr × Obj)} {name qual : Str} {params : Arguments} {body : Expr} {pos : Pos} {firstLine : Nat} {M : Model} {Q : Value -> Shared -> Prop}
  (F : Fr h₀ L s.heap m) (N : News h₀ L s.heap news) (T : Top p loose mean mg mb h₀) (X : K.In h₀) (hC : codeHdIn K c P = true) (U : UpdF P (tabObj ps) news gg) (t : TabOk ps k) (hk : k <= pos.line)
  (hcl : closureFor scope (envX cn cs L a (.ref c) cl) = pure clos)
  (h : ∀ f c' oc vs t ctv h' tk, Fr h₀ L h' m ->
   News h₀ L h' ((f, kla_obj name qual params body scope clos ((mg "__name__").getD .none) c' ctv) :: (c', oc) :: gg (tabObj (ps ++ #[rawInt pos.line, rawInt pos.col, .ref c']))) -> TabOk (ps ++ #[rawInt pos.line, rawInt pos.col, .ref c']) (pos.line + 1) ->
   oc.data = .fields vs -> vs[1]? = some (.str qual t) -> (∀ q ∈ news, q.1 < c') -> c' < f -> Q (.ref f) { s with heap := h', toks := tk }) :
  wpAny M A (makeFunction name qual params (.expr body) scope (envX cn cs L a (.ref c) cl) [] [] [] pos firstLine) Q E s :=
 kla_nest F N T (codeHd_of_K X hC) rfl U t.tri (t.no _ hk) hcl fun f c' oc vs tt ctv h' tk a1 a2 a3 a4 a5 a6 => h f c' oc vs tt ctv h' tk a1 a2 (t.snoc hk (Nat.lt_succ_self _)) a3 a4 a5 a6
end
end
section
set_option tactic.hygienic false
open PySem PySem.W PyProof.Rows PySem.Calls PySem.Spec
section
variable {w : World} {A : Around} {E : Value -> Shared -> Prop} {s : Shared} {R : Result -> Shared -> Prop} {env : Env}
structure LoopE (w : World) (A : Around) (h₀ : Heap) (env : Env) (target : Expr) (body : List Stmt) (Q : Flow -> Shared -> Prop) (E : Value -> Shared -> Prop) (s : Shared) (I : Addr) (src : List (Addr × Obj)) (n : Nat) (P : Nat -> Value -> Prop) (St : Nat -> Heap -> Prop) (m : Str -> Option Value) (news : List (Addr × Obj))
  (J : Nat -> (Str -> Option Value) -> List (Addr × Obj) -> Prop) : Prop where
 wk : Walks PW w A I (I :: src.map (·.1)) [I] n P St
 io : ∀ i h, St i h -> ∃ o, h.get? I = some o
 st : ∀ i h h' o nw, St i h -> h.get? I = some o -> h'.get? I = some o -> News h₀ env.locals h' nw -> (∀ p ∈ src, p ∈ nw) -> St i h'
 st0 : St 0 s.heap
 F : Fr h₀ env.locals s.heap m
 N : News h₀ env.locals s.heap news
 off : ∀ p ∈ news, p.1 ≠ I
 IL : env.locals ≠ I
 I0 : h₀.get? I = none
 src : ∀ i m nw, J i m nw -> ∀ p ∈ src, p ∈ nw
 j0 : J 0 m news
 step : ∀ i v m₁ nw h tk oI, i < n -> P i v -> J i m₁ nw -> AllNe I nw -> Fr h₀ env.locals h m₁ -> News h₀ env.locals h ((I, oI) :: nw) ->
   wpAny (model PW w) A (assign target env v) (fun _ s₂ => wpS (model PW w) A (execs body env) (TurnJ h₀ env.locals I oI (J (i + 1)) { s with heap := h, toks := tk } Q) E s₂) E { s with heap := h, toks := tk }
 done : ∀ h' tk m' nw, J n m' nw -> Fr h₀ env.locals h' m' -> News h₀ env.locals h' nw -> Q .next { s with heap := h', toks := tk }
noncomputable def LoopC (w : World) (A : Around) (h₀ : Heap) (env : Env) (target : Expr) (body : List Stmt) (Q : Flow -> Shared -> Prop) (E : Value -> Shared -> Prop) (it : Value) (s : Shared) : Prop :=
 ∃ I src n P St m news J, it = .ref I /\ LoopE w A h₀ env target body Q E s I src n P St m news J
theorem loopC_run {target : Expr} {body : List Stmt} {Q : Flow -> Shared -> Prop} {h₀ : Heap} {I : Addr} {src : List (Addr × Obj)} {n : Nat} {P : Nat -> Value -> Prop} {St : Nat -> Heap -> Prop} {m : Str -> Option Value} {news : List (Addr × Obj)} {J : Nat -> (Str -> Option Value) -> List (Addr × Obj) -> Prop}
  (X : LoopE w A h₀ env target body Q E s I src n P St m news J) (ht : ∀ v, letOwnedTupleGo target (.ref I) v = pure ()) (hE : PassesOwn (model PW w) A env E) :
  codeS (model PW w) A (.forLoop target (.ref I) body [] env) (fun r s' => match r with | .ok f => Q f s' | .error e => cameBackBy (model PW w) A env E e s') s := by
 have L0 : h₀.get? env.locals = none := Heap.get?_none_of_le X.F.above
 refine codeS_forLoop (fun k s' => ∃ i, i + k = n + 1 /\ i <= n /\ ∃ h' tk m' nw, s' = { s with heap := h', toks := tk } /\ St i h' /\ Fr h₀ env.locals h' m' /\ News h₀ env.locals h' nw /\ AllNe I nw /\ J i m' nw) ?_ (n + 1)
  ⟨0, by omega, Nat.zero_le _, s.heap, s.toks, m, news, rfl, X.st0, X.F, X.N, allNe_of X.off, X.j0⟩ ht
 intro k s' hz29
 refine hideG ?_; intro PG9 hG9
 obtain ⟨i, hik, hin, h', tk, m', nw, rfl, hst, F', N', o', hJ⟩ := hz29
 refine hG9 ?_; clear hG9 PG9
 by_cases hlt : i < n
 ·refine X.wk.item i _ _ _ hlt hst fun v h₂ tk₂ hPv hst₂ hk₂ => ?_
  have k2 : ∀ b o, b ≠ I -> h'.get? b = some o -> h₂.get? b = some o := fun b o n e => hk₂ b o (by simpa using n) e
  obtain ⟨oI, heI⟩ := X.io _ _ hst₂
  have F₂ : Fr h₀ env.locals h₂ m' := ⟨F'.ns.at' fun o e => k2 _ o X.IL e, fun b o e => k2 b o (fun q => by rw [q, X.I0] at e; cases e) (F'.keep b o e), F'.above⟩
  have N₂ : News h₀ env.locals h₂ ((I, oI) :: nw) := fun p hp => by
   rcases List.mem_cons.mp hp with rfl | hp
   ·exact ⟨heI, X.IL.symm, X.I0⟩
   ·exact ⟨k2 _ _ (allNe_mem o' p hp) (N' p hp).1, (N' p hp).2⟩
  refine wpAny_mono (X.step i v m' nw h₂ _ oI hlt hPv hJ o' F₂ N₂) (fun _ s₃ z₃ => wpS_mono z₃ (fun f s₄ z => ?_) fun e s' z => hE e s' z) fun e s' z => hE e s' z
  have next : TurnEnd h₀ env.locals I oI (J (i + 1)) { s with heap := h₂, toks := tk₂ } s₄ -> ∃ m, m < k /\ ∃ i, i + m = n + 1 /\ i <= n /\ ∃ h' tk m' nw, s₄ = { s with heap := h', toks := tk } /\ St i h' /\ Fr h₀ env.locals h' m' /\ News h₀ env.locals h' nw /\ AllNe I nw /\ J i m' nw := by
   intro hz09
   refine hideG ?_; intro PG9 hG9
   obtain ⟨h₅, tk₅, m₅, nw₅, rfl, F₅, N₅, o₅, hJ₅⟩ := hz09
   refine hG9 ?_; clear hG9 PG9
   have N₆ : News h₀ env.locals h₅ nw₅ := fun p hp => N₅ p (.tail _ hp)
   exact ⟨n + 1 - (i + 1), tkA hik hlt, i + 1, tkB hlt, hlt, h₅, tk₅, m₅, nw₅, rfl, X.st _ _ _ _ _ hst₂ heI (N₅ _ (.head _)).1 N₆ (X.src _ _ _ hJ₅), F₅, N₆, o₅, hJ₅⟩
  cases f with
  | next => exact next z
  | cont => exact next z
  | brk => exact z
  | ret v => exact z
 ·obtain rfl : i = n := Nat.le_antisymm hin (Nat.not_lt.mp hlt)
  refine X.wk.done _ _ _ hst fun h₂ tk₂ hk₂ => ?_
  have k2 : ∀ b o, b ≠ I -> h'.get? b = some o -> h₂.get? b = some o := fun b o n e => hk₂ b o (by simpa using n) e
  exact X.done h₂ tk₂ m' nw hJ ⟨F'.ns.at' fun o e => k2 _ o X.IL e, fun b o e => k2 b o (fun q => by rw [q, X.I0] at e; cases e) (F'.keep b o e), F'.above⟩ fun p hp => ⟨k2 _ _ (allNe_mem o' p hp) (N' p hp).1, (N' p hp).2⟩
section
variable {h₀ : Heap} {target : Expr} {body : List Stmt} {Q : Flow -> Shared -> Prop} {m : Str -> Option Value} {news : List (Addr × Obj)}
noncomputable def LStepC (w : World) (A : Around) (h₀ : Heap) (env : Env) (target : Expr) (body : List Stmt) (Q : Flow -> Shared -> Prop) (E : Value -> Shared -> Prop) (s : Shared) (n : Nat) (P : Nat -> Value -> Prop) (J : Nat -> (Str -> Option Value) -> List (Addr × Obj) -> Prop) : Prop :=
 ∀ i v m₁ nw I h tk oI, i < n -> P i v -> J i m₁ nw -> AllNe I nw -> Fr h₀ env.locals h m₁ -> News h₀ env.locals h ((I, oI) :: nw) ->
   wpAny (model PW w) A (assign target env v) (fun _ s₂ => wpS (model PW w) A (execs body env) (TurnJ h₀ env.locals I oI (J (i + 1)) { s with heap := h, toks := tk } Q) E s₂) E { s with heap := h, toks := tk }
theorem loop_tupC {ax : Addr} {ol : Obj} {vs : List Value} {nn : Nat} (hh : A.handled = none) (hm : (ax, ol) ∈ news) (hc : ol.cls = .type "tuple") (hd : ol.data = .seq vs.toArray nn)
  (F : Fr h₀ env.locals s.heap m) (N : News h₀ env.locals s.heap news) (J : Nat -> (Str -> Option Value) -> List (Addr × Obj) -> Prop) (hsrc : ∀ i m nw, J i m nw -> (ax, ol) ∈ nw) (h0 : J 0 m news)
  (step : LStepC w A h₀ env target body Q E s vs.length (fun i v => vs[i]? = some v) J)
  (done : ∀ h' tk m' nw, J vs.length m' nw -> Fr h₀ env.locals h' m' -> News h₀ env.locals h' nw -> Q .next { s with heap := h', toks := tk }) :
  wpAny (model PW w) A (pyIter (.ref ax)) (fun it s₂ => LoopC w A h₀ env target body Q E it s₂) E s := by
 have ht : s.heap.IsTuple ax vs.toArray := ⟨ol, (N _ hm).1, hc, nn, hd⟩
 refine wpAny_pyIter_tuple ht ?_
 have up : ∀ b o, s.heap.get? b = some o -> (s.heap.push { cls := .type "tuple_iterator", data := .fields #[.ref ax, .int 0 0] }).get? b = some o := fun b o e => Heap.get?_push_of_some _ e
 have hlt : ax < s.heap.objs.size := Heap.lt_size (N _ hm).1
 refine ⟨_, [(ax, ol)], vs.length, (fun i v => vs[i]? = some v), (fun i h => h.IsTupleIter s.heap.objs.size ax i /\ h.IsTuple ax vs.toArray), m, news, J, rfl, (by simpa using Walks.tuple hh s.heap.objs.size ax (Nat.ne_of_lt hlt) vs.toArray), (fun i h st => by obtain ⟨o, e, _⟩ := st.1; exact ⟨o, e⟩), ?_, ⟨⟨_, Heap.get?_push_size _ rfl, rfl, rfl⟩, ⟨ol, up _ _ (N _ hm).1, hc, nn, hd⟩⟩,
  F.keeps up, N.grown up, fun p hp => Nat.ne_of_lt (Heap.lt_size (N p hp).1), Nat.ne_of_lt F.ns.lt, next_is_new F, fun i ys nw hj p hp => by rw [List.mem_singleton.mp hp]; exact hsrc i ys nw hj, h0, ?_, ?_⟩
 ·intro i h h' o nw st e e' N' hs
  exact ⟨st.1.at fun o' q => by rw [e] at q; cases q; exact e', ⟨ol, (N' _ (hs _ (.head _))).1, hc, nn, hd⟩⟩
 ·intro i v m₁ nw h tk oI a1 a2 a3 a4 a5 a6
  exact step i v m₁ nw _ h tk oI a1 a2 a3 a4 a5 a6
 ·intro h' tk m' nw; exact done h' tk m' nw
end
end
theorem among_new {pos : Pos} {c : Value} : ∀ {l : List Value}, TriplesOk l -> codeAmong pos l = none -> codeAmong pos (l ++ [rawInt pos.line, rawInt pos.col, c]) = some c
 | [], _, _ => by
  show (if ((pos.line : Int) == (pos.line : Int) && (pos.col : Int) == (pos.col : Int)) = true then some c else none) = some c
  rw [if_pos (by simp)]
 | .int a _ :: .int b _ :: x :: r, h, hn => by
  have hn' : (if (a == (pos.line : Int) && b == (pos.col : Int)) = true then some x else codeAmong pos r) = none := hn
  split at hn'
  ·cases hn'
  ·rename_i q
   show (if (a == (pos.line : Int) && b == (pos.col : Int)) = true then some x else codeAmong pos (r ++ _)) = some c
   rw [if_neg q]
   exact among_new h hn'
theorem TabOk.new {ps : Array Value} {n : Nat} {p : Pos} {c : Value} (h : TabOk ps n) (hn : n <= p.line) : codeAmong p (ps ++ #[rawInt p.line, rawInt p.col, c]).toList = some c := by
 have e : (ps ++ #[rawInt p.line, rawInt p.col, c]).toList = ps.toList ++ [rawInt p.line, rawInt p.col, c] := by simp
 rw [e]
 exact among_new h.tri (h.no _ hn)
section
variable {A : Around} {E : Value -> Shared -> Prop} {s : Shared} {h₀ : Heap} {L : Addr} {m : Str -> Option Value} {news : List (Addr × Obj)}
theorem lamH {K : Frag} {mean : ExcName -> Option Value} {mg mb : Str -> Option Value} {p : Program} {loose : List Str} {cn : Str} {cs scope : Scope} {a c P c' : Addr} {cl clos : List (Str × Addr)} {ps : Array Value} {k : Nat} {name qual : Str} {params : Arguments} {body : Expr} {pos : Pos} {firstLine : Nat} {M : Model} {Q : Value -> Shared -> Prop}
  (F : Fr h₀ L s.heap m) (N : News h₀ L s.heap news) (T : Top p loose mean mg mb h₀) (X : K.In h₀) (hC : codeHdIn K c P = true) (hmem : (P, tabObj ps) ∈ news) (t : TabOk ps k) (hf : codeAmong pos ps.toList = some (.ref c'))
  (hcl : closureFor scope (envX cn cs L a (.ref c) cl) = pure clos)
  (h : ∀ f ctv h' tk, Fr h₀ L h' m -> News h₀ L h' ((f, kla_obj name qual params body scope clos ((mg "__name__").getD .none) c' ctv) :: news) -> (∀ q ∈ news, q.1 < f) -> Q (.ref f) { s with heap := h', toks := tk }) :
  wpAny M A (makeFunction name qual params (.expr body) scope (envX cn cs L a (.ref c) cl) [] [] [] pos firstLine) Q E s :=
 kla_hit F N T (codeHd_of_K X hC) rfl hmem t.tri hf hcl h
end
end
section
set_option tactic.hygienic false
open PySem PySem.W PyProof.Rows PySem.Calls PySem.Spec
variable {x r p0 p1 p2 p3 p4 p5 p6 p7 p8 p9 p10 p11 p12 p13 p14 p15 : Prop}
theorem room0 {A : Around} {a b : Nat} (h : A.depth < a) (k : Nat.ble a b = true) : A.depth < b := Nat.lt_of_lt_of_le h (Nat.le_of_ble_eq_true k)
theorem room1 {A : Around} {e : Env} {a b : Nat} (h : A.depth < a) (k : Nat.ble (a + 1) b = true) : (A.deeper e).depth < b := Nat.lt_of_lt_of_le (Nat.succ_lt_succ h) (Nat.le_of_ble_eq_true k)
theorem roomI {A : Around} {e : Env} {a b : Nat} (h : A.depth < a) (k : Nat.ble (a + 1) b = true) : (A.deeper e).in1.depth < b := Nat.lt_of_lt_of_le (Nat.succ_lt_succ h) (Nat.le_of_ble_eq_true k)
theorem unit1 {A : Around} {e : Env} {a b : Nat} (h : A.units + a < cLine) (k : Nat.ble (3 + b) a = true) : (A.deeper e).units + b < cLine := Nat.lt_of_le_of_lt (by show A.units + 3 + b <= _; rw [Nat.add_assoc]; exact Nat.add_le_add_left (Nat.le_of_ble_eq_true k) _) h
end
section
set_option tactic.hygienic false
open PySem PySem.W PyProof.Rows PySem.Calls PySem.Spec
noncomputable abbrev Led := List (Addr × Obj)
noncomputable abbrev Loc := List (Str × Option Value)
noncomputable def fm (m : Loc) (y : Str) : Option Value := match m with
 | [] => none
 | (x, o) :: r => if y = x then o else fm r y
noncomputable def up (m : Loc) (x : Str) (v : Value) : Loc := match m with
 | [] => [(x, some v)]
 | (y, o) :: r => if y = x then (y, some v) :: r else (y, o) :: up r x v
theorem fm_up {x : Str} {v : Value} : ∀ {m : Loc}, fm (up m x v) = fun y => if y = x then some v else fm m y
 | [] => by funext y; rfl
 | (z, o) :: r => by
  funext y
  unfold up
  by_cases h : z = x
  ·rw [if_pos h]
   show (if y = z then some v else fm r y) = if y = x then some v else if y = z then o else fm r y
   rw [h]
   by_cases q : y = x
   ·rw [if_pos q, if_pos q]
   ·rw [if_neg q, if_neg q, if_neg q]
  ·rw [if_neg h]
   show (if y = z then o else fm (up r x v) y) = if y = x then some v else if y = z then o else fm r y
   rw [fm_up]
   dsimp only
   by_cases q : y = z
   ·rw [if_pos q, if_pos q, if_neg (fun e => h (q ▸ e))]
   ·rw [if_neg q, if_neg q]
noncomputable def wpG {α : Type} (b : Bool) (M : Model) (A : Around) (t : Sem α) (Q : α -> Shared -> Prop) (E : Value -> Shared -> Prop) (s : Shared) : Prop :=
 ∀ Γ p, Γ.In A -> (b = true -> Cl Γ) -> Sem.wp M Γ t (fun a _ s' => Q a s') (fun e _ s' => E e s') p s
section
variable {α β : Type} {b : Bool} {M : Model} {A : Around} {E : Value -> Shared -> Prop} {s : Shared}
theorem wpG_any {t : Sem α} {Q : α -> Shared -> Prop} (h : wpAny M A t Q E s) : wpG b M A t Q E s := fun Γ p hΓ _ => h Γ p hΓ
theorem wpG_S {t : Sem α} {Q : α -> Shared -> Prop} (hb : b = true) (h : wpS M A t Q E s) : wpG b M A t Q E s := fun Γ p hΓ hc => h Γ p hΓ (hc hb)
theorem wpG_mono {t : Sem α} {Q Q' : α -> Shared -> Prop} {E' : Value -> Shared -> Prop} (h : wpG b M A t Q E s) (hQ : ∀ a s, Q a s -> Q' a s) (hE : ∀ e s, E e s -> E' e s) : wpG b M A t Q' E' s :=
 fun Γ p hΓ hc => Sem.wp_mono M Γ t (fun a _ s => hQ a s) (fun e _ s => hE e s) p s (h Γ p hΓ hc)
theorem wpG_bind {m : Sem α} {f : α -> Sem β} {Q : β -> Shared -> Prop} (h : wpG b M A m (fun a s' => wpG b M A (f a) Q E s') E s) : wpG b M A (m >>= f) Q E s := fun Γ p hΓ hc => by
 rw [Sem.wp_bind']
 exact Sem.wp_mono M Γ m (fun a p' s' h' => h' Γ p' hΓ hc) (fun _ _ _ h' => h') p s (h Γ p hΓ hc)
theorem wpG_holding {vs : List Value} {m : Sem α} {Q : α -> Shared -> Prop} (h : wpG b M A m Q E s) : wpG b M A (holding vs m) Q E s := fun Γ p hΓ hc => by rw [Sem.wp_holding]; exact h Γ p hΓ hc
theorem wpG_keep {vs : List Value} {m : Sem α} {Q : α -> Shared -> Prop} (h : wpG b M A m Q E s) : wpG b M A (m.keep vs) Q E s := fun Γ p hΓ hc => by rw [Sem.wp_keep]; exact h Γ p hΓ hc
theorem wpG_operate {vs : List Value} {m : Sem Value} {Q : Value -> Shared -> Prop} (h : wpG b M A m Q E s) : wpG b M A (operate vs m) Q E s := fun Γ p hΓ hc => by rw [Sem.wp_operate]; exact h Γ p hΓ hc
theorem toS {t : Sem α} {Q : α -> Shared -> Prop} (h : wpG b M A t Q E s) : wpS M A t Q E s := fun Γ p hΓ hc => h Γ p hΓ (fun _ => hc)
end
structure Cf (w : World) where
 b : Bool
 A : Around
 E : Value -> Shared -> Prop
 g : Heap
 L : Addr
 s : Shared
 S : List Addr
 kn : List (Addr × Obj)
 base : Heap
 env0 : Env
 outer : List Env
 mean : ExcName -> Option Value
 mg : Str -> Option Value
 mb : Str -> Option Value
 Er : Int -> Prop
 hid : Led
structure Zs where
 led : Led
 mf : Loc -> Str -> Option Value
 ck : Loc -> Prop
structure At {w : World} (c : Cf w) (z : Zs) (m : Loc) (l : Led) (s : Shared) : Prop where
 fr : Fr c.g c.L s.heap (z.mf m)
 nw : News c.g c.L s.heap (l ++ z.led)
 nd : (l ++ z.led).Pairwise (fun p q => p.1 ≠ q.1)
 kn : ∀ p ∈ c.kn, p ∈ l ++ z.led \/ (p.1 ∈ c.S /\ ∃ o, (p.1, o) ∈ l ++ z.led)
 st : s = { c.s with heap := s.heap, toks := s.toks }
 ck : z.ck m
 hd : ∀ p ∈ c.hid, p ∈ z.led
structure WQ {w : World} {α : Type} (c : Cf w) (z : Zs) (t : Sem α) (Q : α -> Loc -> Led -> Prop) (m : Loc) (l : Led) : Prop where
 run : ∀ s, At c z m l s -> wpG c.b (model PW w) c.A t (fun a s' => ∃ m' l', At c z m' l' s' /\ Q a m' l') c.E s
section
variable {w : World} {α β : Type} {c : Cf w} {z : Zs} {m : Loc} {l : Led}
theorem At.tok {s : Shared} (x : At c z m l s) {tk : Nat} : At c z m l { s with toks := tk } :=
 ⟨x.fr, x.nw, x.nd, x.kn, by have := x.st; rw [this], x.ck, x.hd⟩
theorem WQ.any {t : Sem α} {Q : α -> Loc -> Led -> Prop} (h : ∀ s, At c z m l s -> wpAny (model PW w) c.A t (fun a s' => ∃ m' l', At c z m' l' s' /\ Q a m' l') c.E s) : WQ c z t Q m l := ⟨fun s x => wpG_any (h s x)⟩
theorem WQ.mono {t : Sem α} {Q Q' : α -> Loc -> Led -> Prop} (h : WQ c z t Q m l) (k : ∀ a m l, Q a m l -> Q' a m l) : WQ c z t Q' m l :=
 ⟨fun s x => wpG_mono (h.run s x) (fun _ _ ⟨m', l', y, q⟩ => ⟨m', l', y, k _ _ _ q⟩) fun _ _ y => y⟩
theorem WQ.pure {a : α} {Q : α -> Loc -> Led -> Prop} (h : Q a m l) : WQ c z (pure a) Q m l := .any fun _ x => wpAny_pure ⟨m, l, x, h⟩
theorem WQ.bind {t : Sem α} {f : α -> Sem β} {Q : β -> Loc -> Led -> Prop} (h : WQ c z t (fun a m l => WQ c z (f a) Q m l) m l) : WQ c z (t >>= f) Q m l :=
 ⟨fun s x => wpG_bind (wpG_mono (h.run s x) (fun _ s' ⟨_, _, y, q⟩ => q.run s' y) fun _ _ y => y)⟩
theorem WQ.holding {vs : List Value} {t : Sem α} {Q : α -> Loc -> Led -> Prop} (h : WQ c z t Q m l) : WQ c z (holding vs t) Q m l := ⟨fun s x => wpG_holding (h.run s x)⟩
theorem WQ.operate {vs : List Value} {t : Sem Value} {Q : Value -> Loc -> Led -> Prop} (h : WQ c z t Q m l) : WQ c z (operate vs t) Q m l := ⟨fun s x => wpG_operate (h.run s x)⟩
theorem WQ.unhold {vs : List Value} {t : Sem α} {f : α -> Sem β} {Q : β -> Loc -> Led -> Prop} (h : WQ c z (t >>= f) Q m l) : WQ c z (PySem.holding vs t >>= f) Q m l := ⟨fun s x Γ p hΓ hc => by
 have := h.run s x Γ p hΓ hc
 rw [Sem.wp_bind'] at this ⊢
 rw [Sem.wp_holding]; exact this⟩
theorem WQ.assoc {γ : Type} {t : Sem α} {f : α -> Sem β} {g : β -> Sem γ} {Q : γ -> Loc -> Led -> Prop} (h : WQ c z (t >>= fun a => f a >>= g) Q m l) : WQ c z ((t >>= f) >>= g) Q m l := ⟨fun s x Γ p hΓ hc => by
 have := h.run s x Γ p hΓ hc
 rw [Sem.wp_bind'] at this ⊢
 rw [Sem.wp_bind']
 refine Sem.wp_mono _ Γ _ (fun a p' s' h' => ?_) (fun _ _ _ h' => h') p s this
 rw [Sem.wp_bind'] at h'
 exact h'⟩
theorem WQ.standAt {p : Pos} {Q : Unit -> Loc -> Led -> Prop} (h : Q () m l) : WQ c z (standAt p) Q m l := .any fun _ x => wpAny_standAt ⟨m, l, x, h⟩
theorem WQ.at_ {p : Pos} {t : Sem β} {Q : β -> Loc -> Led -> Prop} (h : WQ c z t Q m l) : WQ c z (PySem.standAt p >>= fun _ => t) Q m l := .bind (.standAt h)
theorem WQ.same {t : Sem α} {Q : α -> Loc -> Led -> Prop} (h : ∀ s (Q' : α -> Shared -> Prop), At c z m l s -> (∀ v tk, Q v m l -> Q' v { s with toks := tk }) -> wpAny (model PW w) c.A t Q' c.E s) : WQ c z t Q m l :=
 .any fun s x => h s _ x fun _ _ q => ⟨m, l, x.tok, q⟩
end
noncomputable abbrev Cf.out {w : World} (c : Cf w) : List Env := c.env0 :: c.outer
structure EnvOk {w : World} (c : Cf w) (z : Zs) (env : Env) (nms : List (Str × NameKind)) : Prop where
 nm : env.scope.names = nms
 fn : env.scope.kind = .function
 dbg : nms.lookup ("__debug__" : Str) = none
 fr : env.frame = some c.L
 gb : env.globals = mainGlobals
 bb : env.builtins = builtinsNs
 ld : ∀ {z1 : Led} {m l s x pos v} {Q : Value -> Shared -> Prop}, (∀ p ∈ z.led, p ∈ z1) -> At c { z with led := z1 } m l s -> nms.lookup x = some .local -> fm m x = some v -> (x == ("__debug__" : Str)) = false -> Q v s -> wpAny (model PW w) c.A (eval (.Name x pos) env) Q c.E s
 gl : ∀ {z1 : Led} {m l s x pos v} {Q : Value -> Shared -> Prop}, At c { z with led := z1 } m l s -> nms.lookup x = some .globalImplicit -> nsIn (hd.heap_1 w.params) mainGlobals x = some (some v) -> (x == ("__debug__" : Str)) = false -> Q v s -> wpAny (model PW w) c.A (eval (.Name x pos) env) Q c.E s
 bi : ∀ {z1 : Led} {m l s x pos v} {Q : Value -> Shared -> Prop}, At c { z with led := z1 } m l s -> nms.lookup x = some .globalImplicit -> nsIn (hd.heap_1 w.params) mainGlobals x = some none -> bootBuiltins x = some v -> x ≠ ("__name__" : Str) -> (x == ("__debug__" : Str)) = false -> Q v s -> wpAny (model PW w) c.A (eval (.Name x pos) env) Q c.E s
 ce : ∀ {z1 : Led} {m l s x pos v a o} {Q : Value -> Shared -> Prop}, At c { z with led := z1 } m l s -> nms.lookup x = some .cell -> env.cells.lookup x = some a -> (a, o) ∈ l -> o.data = .cell (some v) -> (x == ("__debug__" : Str)) = false -> Q v s -> wpAny (model PW w) c.A (eval (.Name x pos) env) Q c.E s
theorem EnvOk.shift {w : World} {c : Cf w} {z : Zs} {env : Env} {nms : List (Str × NameKind)} (V : EnvOk c z env nms) (z1 : Led) (h : ∀ p ∈ z.led, p ∈ z1) : EnvOk c { z with led := z1 } env nms :=
 ⟨V.nm, V.fn, V.dbg, V.fr, V.gb, V.bb, fun hs => V.ld fun p hp => hs p (h p hp), V.gl, V.bi, V.ce⟩
structure ForOk {w : World} (c : Cf w) (z : Zs) (env : Env) (nms : List (Str × NameKind)) : Prop where
 mf : z.mf = fm
 ck : ∀ m, z.ck m
 po : PassesOwn (model PW w) c.A env c.E
 lo : env.locals = c.L
 ev : env = c.env0
 st : ∀ {z1 : Led} {m l s x v} {Q : Unit -> Shared -> Prop}, At c { z with led := z1 } m l s -> nms.lookup x = some .local -> (∀ s', At c { z with led := z1 } (up m x v) l s' -> Q () s') -> wpAny (model PW w) c.A (bindName env x v) Q c.E s
 sc : ∀ {z1 : Led} {m l s x v a o g} {Q : Unit -> Shared -> Prop}, At c { z with led := z1 } m l s -> nms.lookup x = some .cell -> env.cells.lookup x = some a -> UpdF a o (l ++ z1) g -> (∃ v0, o.data = .cell v0) -> (∀ h' o', Fr c.g c.L h' (z.mf m) -> News c.g c.L h' (g o') -> o'.data = .cell (some v) -> Q () { s with heap := h' }) -> wpAny (model PW w) c.A (bindName env x v) Q c.E s
 er0 : ∀ {f m z l s e t msg h' tk}, c.Er f -> At c z m l s -> Exc0 s.heap h' e msg (.int f t) -> Kp [] s.heap h' -> s.heap.get? e = none -> c.base.StaysIn h' -> h'.FunFrames c.base c.out -> c.E (.ref e) { s with heap := h', toks := tk }
 erX : ∀ {f e t s'}, c.Er f -> FlyX c.base c.out e (.int f t) (c.S ++ fr c.outer) c.s.heap s'.heap -> (∃ h tk, s' = { c.s with heap := h, toks := tk }) -> c.E (.ref e) s'
theorem ForOk.shift {w : World} {c : Cf w} {z : Zs} {env : Env} {nms : List (Str × NameKind)} (V : ForOk c z env nms) (z1 : Led) : ForOk c { z with led := z1 } env nms := ⟨V.mf, V.ck, V.po, V.lo, V.ev, V.st, V.sc, V.er0, V.erX⟩
theorem EnvOk.inter {w : World} {c : Cf w} {z : Zs} {env : Env} {nms : List (Str × NameKind)} (V : EnvOk c z env nms) : interactive env = false := by
 unfold interactive; rw [V.fn]; rfl
structure CfOk {w : World} (c : Cf w) (d u : Nat) : Prop where
 bt : c.b = true
 G : Gd w c.mean c.mg c.mb c.base
 kin : (hd.heap_1 w.params).In c.g
 top : Top topProg LO c.mean c.mg c.mb c.g
 bel0 : ∃ A₀, Below A₀ c.base c.outer c.g
 fr0 : c.A.frames = some c.out
 bel : ∀ {h m}, Fr c.g c.L h m -> Below c.A c.base c.out h
 knn : ∀ {h m l}, Fr c.g c.L h m -> News c.g c.L h l -> Kn c.base c.out h l
 hL : c.s.heap.get? c.L = none
 hh : c.A.handled = none
 dp : c.A.depth < d
 un : c.A.units + u < cLine
 hg : ∀ b o, c.s.heap.get? b = some o -> b ∉ c.kn.map (·.1) -> c.g.get? b = some o
 hks : ∀ p ∈ c.kn, c.s.heap.get? p.1 = some p.2
 up : ∀ {z m l s}, At c z m l s -> ∀ a ∈ fr c.out, ∀ o, c.s.heap.get? a = some o -> s.heap.get? a = some o
 er : ∀ {f m z l s e t S1 h' tk}, c.Er f -> At c z m l s -> (∀ a ∈ S1, (a ∈ c.S \/ c.s.heap.get? a = none) /\ ∃ o, (a, o) ∈ l) -> FlyD c.base c.out e (.int f t) (S1 ++ fr c.out) s.heap h' -> c.E (.ref e) { s with heap := h', toks := tk }
end
section
set_option tactic.hygienic false
open PySem PySem.W PyProof.Rows PySem.Calls PySem.Spec
noncomputable def gtab : List (Str × Value) := [(("TableFault" : Str), Value.ref 61), (("check_room" : Str), Value.ref 70), (("number_at" : Str), Value.ref 77), (("signed" : Str), Value.ref 84), (("OctetsIn" : Str), Value.ref 170), (("number_octets" : Str), Value.ref 179), (("OctetsOut" : Str), Value.ref 266), (("laid" : Str), Value.ref 278), (("Anchor" : Str), Value.ref 302), (("told_anchor" : Str), Value.ref 313), (("difference" : Str), Value.ref 320), (("read_anchor" : Str), Value.ref 327), (("write_anchor" : Str), Value.ref 334), (("written" : Str), Value.ref 341), (("anchor_behind" : Str), Value.ref 348), (("read_marks" : Str), Value.ref 356), (("write_marks" : Str), Value.ref 361), (("told_marks" : Str), Value.ref 366), (("class_count" : Str), Value.ref 373), (("read_anchor_rows" : Str), Value.ref 378), (("write_anchor_rows" : Str), Value.ref 383), (("told_rows" : Str), Value.ref 388), (("Coverage" : Str), Value.ref 426), (("coverage_of" : Str), Value.ref 437), (("_law_draw" : Str), Value.ref 444), (("_law_source" : Str), Value.ref 449), (("_law_number" : Str), Value.ref 456), (("_law_u16" : Str), Value.ref 463), (("_law_anchor" : Str), Value.ref 470), (("_law_marks" : Str), Value.ref 477), (("_law_rows" : Str), Value.ref 482), (("_law_caught" : Str), Value.ref 489), (("_law_laid" : Str), Value.ref 494)]
noncomputable def btab : List (Str × Value) := [(("len" : Str), Value.builtin "len"), (("bytes" : Str), Value.type "bytes"), (("bytearray" : Str), Value.type "bytearray"), (("str" : Str), Value.type "str"), (("range" : Str), Value.type "range"), (("sorted" : Str), Value.builtin "sorted"), (("tuple" : Str), Value.type "tuple"), (("max" : Str), Value.builtin "max"), (("set" : Str), Value.type "set"), (("int" : Str), Value.type "int")]
noncomputable def fnAs : List Nat := [70, 77, 84, 106, 113, 127, 134, 160, 170, 179, 207, 214, 242, 249, 263, 266, 278, 299, 302, 313, 320, 327, 334, 341, 348, 356, 361, 366, 373, 378, 383, 388, 426, 437, 444, 449, 456, 463, 470, 477, 482, 489, 494, 61]
noncomputable def kpv : Value -> Bool
 | .ref a => fnAs.contains a
 | _ => true
section
variable {w : World}
theorem gtab_ok : ∀ p ∈ gtab, nsIn (hd.heap_1 w.params) mainGlobals p.1 = some (some p.2) /\ (p.1 == ("__debug__" : Str)) = false := by
 unfold gtab
 repeat (refine List.forall_mem_cons.mpr ⟨⟨by kernel_rfl, by kernel_rfl⟩, ?_⟩)
 exact fun _ h => absurd h List.not_mem_nil
theorem btab_ok : ∀ p ∈ btab, nsIn (hd.heap_1 w.params) mainGlobals p.1 = some none /\ bootBuiltins p.1 = some p.2 /\ p.1 ≠ ("__name__" : Str) /\ (p.1 == ("__debug__" : Str)) = false := by
 unfold btab
 repeat (refine List.forall_mem_cons.mpr ⟨⟨by kernel_rfl, by first | boot_by_name | boot_fast | rfl, by decide, by kernel_rfl⟩, ?_⟩)
 exact fun _ h => absurd h List.not_mem_nil
theorem fnAs_ok : ∀ a ∈ fnAs, keepIn (hd.heap_1 w.params) (.ref a) = true := by
 unfold fnAs
 repeat (refine List.forall_mem_cons.mpr ⟨by kernel_rfl, ?_⟩)
 exact fun _ h => absurd h List.not_mem_nil
end
theorem lookup_in {α β : Type} [BEq α] [LawfulBEq α] {x : α} {v : β} : ∀ {l : List (α × β)}, l.lookup x = some v -> (x, v) ∈ l
 | [], h => nomatch h
 | (y, u) :: r, h => by
  unfold List.lookup at h
  split at h
  ·rename_i q
   cases h
   rw [eq_of_beq q]
   exact .head _
  ·exact .tail _ (lookup_in h)
theorem callWithG {b : Bool} {M : Model} {A : Around} {E : Value -> Shared -> Prop} {s : Shared} {f : Value} {first : List Value} {pos : Pos} {Q : Value -> Shared -> Prop} {P : Heap -> Prop} {args : List (Bool × Sem Value)} {keywords : List (Option Str × Sem Value)} (hplain : (args.any (·.1) || keywords.any (·.1.isNone)) = false)
  (hk : ∀ h, P h -> ∃ k, (k = Keeper.frame \/ k = Keeper.machine \/ k = Keeper.boundFrame) /\ Looks M h (keeperOf f) k)
  (h : wpG b M A (evalArgs f true args keywords) (fun a s₁ => P s₁.heap /\ wpG b M A (call f (first ++ a.pos) a.kw) Q E s₁) E s) : wpG b M A (callWith pos f first args keywords) Q E s := by
 unfold callWith
 have bA : ∀ {α β : Type} {m : Sem α} {f : α -> Sem β} {Q : β -> Shared -> Prop} {s : Shared}, wpAny M A m (fun a s' => wpG b M A (f a) Q E s') E s -> wpG b M A (m >>= f) Q E s := fun h => wpG_bind (wpG_any h)
 refine wpG_bind (wpG_holding (wpG_mono h (fun a s₁ h₁ => bA (wpAny_standAt ?_)) fun _ _ x => x))
 obtain ⟨k, hk', L⟩ := hk _ h₁.1
 simp only [hplain]
 refine bA (L.here ?_)
 have tail : ∀ {t : Sem Value}, wpG b M A t Q E s₁ -> wpG b M A (t >>= fun r => holding [r] point >>= fun _ => pure r) Q E s₁ :=
  fun ht => wpG_bind (wpG_mono ht (fun r s₂ hr => wpG_any (wpAny_bind (wpAny_holding (wpAny_point (wpAny_pure hr))))) fun _ _ x => x)
 have marked (mk : Value) : wpG b M A (callMarked mk f (first ++ a.pos) a.kw) Q E s₁ := by unfold callMarked; exact wpG_keep h₁.2
 rcases hk' with rfl | rfl | rfl <;> dsimp only <;> first | exact tail h₁.2 | (split <;> first | exact tail h₁.2 | exact tail (marked _))
noncomputable def plainE : Expr -> Bool
 | .Starred .. => false
 | _ => true
section
variable {w : World} {c : Cf w} {z : Zs} {env : Env} {nms : List (Str × NameKind)} {m : Loc} {l : Led} {d u : Nat}
noncomputable def evsW (e : Expr -> (Value -> Loc -> Led -> Prop) -> Loc -> Led -> Prop) : List Expr -> (List Value -> Loc -> Led -> Prop) -> Loc -> Led -> Prop
 | [], k, m, l => k [] m l
 | x :: r, k, m, l => e x (fun v => evsW e r (fun vs => k (v :: vs))) m l
theorem star_plain {x : Expr} {r : List Expr} (h : plainE x = true) : starEach (x :: r) env = (false, eval x env) :: starEach r env := by
 cases x <;> first | rfl | exact Bool.noConfusion h
theorem WQ.spliced {e : Expr -> (Value -> Loc -> Led -> Prop) -> Loc -> Led -> Prop} (he : ∀ x m l k, e x k m l -> WQ c z (eval x env) k m l) {pos : Pos} :
  ∀ {es : List Expr} {m l} {k : List Value -> Loc -> Led -> Prop}, es.all plainE = true -> evsW e es k m l -> WQ c z (PySem.spliced (backTo pos (starEach es env))) k m l
 | [], m, l, k, _, h => WQ.any fun s x => spliced_none ⟨m, l, x, h⟩
 | x :: r, m, l, k, hp, h => by
  rw [List.all_cons, Bool.and_eq_true] at hp
  rw [star_plain hp.1]
  show WQ c z (PySem.spliced ((false, eval x env) :: backTo pos (starEach r env))) k m l
  rw [PySem.spliced]
  refine WQ.bind ((he _ _ _ _ h).mono fun v m l q => ?_)
  refine WQ.bind (.pure (WQ.bind (WQ.holding ?_)))
  exact (WQ.spliced he hp.2 q).mono fun vs m l q => .pure q
theorem any_plain {pos : Pos} : ∀ {es : List Expr}, es.all plainE = true -> ((backTo pos (starEach es env)).any fun x => x.1) = false
 | [], _ => rfl
 | x :: r, hp => by
  rw [List.all_cons, Bool.and_eq_true] at hp
  rw [star_plain hp.1]
  show (false || (backTo pos (starEach r env)).any fun x => x.1) = false
  rw [any_plain hp.2]; rfl
noncomputable def callF {w : World} (c : Cf w) (z : Zs) (env : Env) (e : Expr -> (Value -> Loc -> Led -> Prop) -> Loc -> Led -> Prop) (pos : Pos) (fv : Value) (first : List Value) (es : List Expr) (k : Value -> Loc -> Led -> Prop) (m : Loc) (l : Led) : Prop :=
 match es.all plainE && kpv fv with
 | true => evsW e es (fun vs => WQ c z (call fv (first ++ vs) []) k) m l
 | false => WQ c z (callWith pos fv first (backTo pos (starEach es env)) []) k m l
theorem evalArgsG {f : Value} : ∀ {xs : List (Bool × Sem Value)} {Q : Args -> Loc -> Led -> Prop}, (xs.any fun x => x.1) = false -> WQ c z (PySem.spliced xs) (fun vs m l => Q ⟨vs, []⟩ m l) m l -> WQ c z (evalArgs f true xs []) Q m l
 | [], Q, _, h => by
  refine WQ.bind (h.mono fun vs m l q => ?_)
  refine WQ.any fun s x => wpAny_holding (wpAny_bind (wpAny_pure (wpAny_bind (wpAny_pure (wpAny_pure ⟨m, l, x, q⟩)))))
 | (true, a) :: r, Q, hp, h => Bool.noConfusion hp
 | (false, a) :: r, Q, _, h => by
  refine WQ.bind (h.mono fun vs m l q => ?_)
  exact WQ.any fun s x => wpAny_holding (wpAny_bind (wpAny_pure (wpAny_bind (wpAny_pure (wpAny_pure ⟨m, l, x, q⟩)))))
theorem callF_ok (hC : CfOk c d u) {e : Expr -> (Value -> Loc -> Led -> Prop) -> Loc -> Led -> Prop} (he : ∀ x m l k, e x k m l -> WQ c z (eval x env) k m l) {pos : Pos} {fv : Value} {first : List Value} {es : List Expr} {k : Value -> Loc -> Led -> Prop}
  (h : callF c z env e pos fv first es k m l) : WQ c z (callWith pos fv first (backTo pos (starEach es env)) []) k m l := by
 unfold callF at h
 split at h
 ·rename_i q
  rw [Bool.and_eq_true] at q
  have key : ∀ hp : Heap, (hd.heap_1 w.params).In hp -> ∃ k, (k = Keeper.frame \/ k = Keeper.machine \/ k = Keeper.boundFrame) /\ Looks (model PW w) hp (keeperOf fv) k := by
   cases fv with
   | ref a => exact keeps_K (fnAs_ok a (List.elem_iff.mp q.2))
   | _ => exact fun hp _ => keeps_mach rfl hp trivial
  refine ⟨fun s x => callWithG (P := fun h => (hd.heap_1 w.params).In h) (by rw [any_plain q.1]; rfl) key ?_⟩
  have w1 : WQ c z (evalArgs fv true (backTo pos (starEach es env)) []) (fun a m l => WQ c z (call fv (first ++ a.pos) a.kw) k m l) m l := evalArgsG (any_plain q.1) (WQ.spliced he q.1 h)
  exact wpG_mono (w1.run s x) (fun a s' ⟨_, _, y, q⟩ => ⟨hC.kin.keeps y.fr.keep, q.run s' y⟩) fun _ _ y => y
 ·exact h
end
end
section
open PySem PySem.W PyProof.Rows PySem.Calls PySem.Spec
noncomputable abbrev EvT := Expr -> (Value -> Loc -> Led -> Prop) -> Loc -> Led -> Prop
noncomputable abbrev TsT := Expr -> (Bool -> Loc -> Led -> Prop) -> Loc -> Led -> Prop
noncomputable def notCall : Expr -> Bool
 | .Call .. => false
 | _ => true
noncomputable def notComp : Expr -> Bool
 | .ListComp .. => false
 | .SetComp .. => false
 | .DictComp .. => false
 | _ => true
section
variable {α β : Type}
noncomputable def one1 (f : α -> Prop) (d : Prop) (l : List α) : Prop :=
 match l with
 | [] => d
 | x :: r => match r with
  | [] => f x
  | _ :: _ => d
theorem one1_elim {f : α -> Prop} {d P : Prop} {l : List α} (h : one1 f d l) (h1 : ∀ x, l = [x] -> f x -> P) (h2 : d -> P) : P := by
 cases l with
 | nil => exact h2 h
 | cons x r => cases r with
  | nil => exact h1 x rfl h
  | cons _ _ => exact h2 h
noncomputable def intV (f : Int -> Int -> Prop) (d : Prop) (va vb : Value) : Prop :=
 match va with
 | .int a _ => match vb with
  | .int b _ => f a b
  | _ => d
 | _ => d
theorem intV_elim {f : Int -> Int -> Prop} {d P : Prop} {va vb : Value} (h : intV f d va vb) (h1 : ∀ a ta b tb, va = .int a ta -> vb = .int b tb -> f a b -> P) (h2 : d -> P) : P := by
 cases va with
 | int a ta => cases vb with
  | int b tb => exact h1 _ _ _ _ rfl rfl h
  | _ => exact h2 h
 | _ => exact h2 h
end
section
variable {w : World} (c : Cf w) (z : Zs) (env : Env) (nms : List (Str × NameKind))
noncomputable def binI (op : Operator) (a b : Int) (k : Value -> Loc -> Led -> Prop) (m : Loc) (l : Led) (d : Prop) : Prop :=
 match op with
 | .Add => ∀ t, k (.int (a + b) t) m l
 | .Sub => ∀ t, k (.int (a - b) t) m l
 | .Mult => IntMulOk a b /\ ∀ t, k (.int (a * b) t) m l
 | .Mod => b ≠ 0 /\ ∀ t, k (.int (a.fmod b) t) m l
 | .FloorDiv => (b ≠ 0 /\ b.natAbs < 1073741824) /\ ∀ t, k (.int (a.fdiv b) t) m l
 | _ => d
noncomputable def bin (op : Operator) (va vb : Value) (k : Value -> Loc -> Led -> Prop) (m : Loc) (l : Led) : Prop :=
 intV (fun a b => binI op a b k m l (WQ c z (binaryOp op va vb) k m l)) (WQ c z (binaryOp op va vb) k m l) va vb
noncomputable def neg (v : Value) (k : Value -> Loc -> Led -> Prop) (m : Loc) (l : Led) : Prop :=
 match v with
 | .int a _ => ∀ t, k (.int (-a) t) m l
 | v => WQ c z (unaryOp .USub v) k m l
noncomputable def part (e : EvT) (x : Option Expr) (k : Value -> Loc -> Led -> Prop) (m : Loc) (l : Led) : Prop :=
 match x with
 | none => k .none m l
 | some x => e x k m l
noncomputable def sliceT (p : Pos) (v s : Expr) (o lo hi : Value) : Sem Value := newFields "slice" [lo, hi, .none] >>= fun i => standAt p >>= fun _ => subscriptTail v s o i
noncomputable def trv (v : Value) (k : Bool -> Loc -> Led -> Prop) (m : Loc) (l : Led) : Prop :=
 match v with
 | .bool b => k b m l
 | v => WQ c z (truthy v) k m l
structure Two (p q : Prop) (f : Bool -> Prop) : Prop where
 yes : p -> f true
 no : q -> f false
noncomputable def cmpI (op : CmpOp) (a b : Int) (f : Bool -> Prop) (d : Prop) : Prop :=
 match op with
 | .Lt => Two (a < b) (¬ a < b) f
 | .Gt => Two (b < a) (¬ b < a) f
 | .LtE => Two (a <= b) (¬ a <= b) f
 | .GtE => Two (b <= a) (¬ b <= a) f
 | .Eq => Two (a = b) (¬ a = b) f
 | .NotEq => Two (¬ a = b) (a = b) f
 | _ => d
noncomputable def isN (op : CmpOp) (q : Bool) (k : Bool -> Loc -> Led -> Prop) (m : Loc) (l : Led) (d : Prop) : Prop :=
 match op with
 | .Is => k q m l
 | .IsNot => k (!q) m l
 | _ => d
noncomputable def nones (f : Bool -> Prop) (d : Prop) (va vb : Value) : Prop :=
 match vb with
 | .none => match va with
  | .none => f true
  | .ref _ => f false
  | _ => d
 | _ => d
noncomputable def cmpT (op : CmpOp) (va vb : Value) (k : Bool -> Loc -> Led -> Prop) (m : Loc) (l : Led) : Prop :=
 intV (fun a b => cmpI op a b (fun q => k q m l) (WQ c z (compareOp op va vb) (fun v => trv c z v k) m l))
  (nones (fun q => isN op q k m l (WQ c z (compareOp op va vb) (fun v => trv c z v k) m l)) (WQ c z (compareOp op va vb) (fun v => trv c z v k) m l) va vb) va vb
noncomputable def nameE (id : Str) (p : Pos) (k : Value -> Loc -> Led -> Prop) (m : Loc) (l : Led) : Prop :=
 match nms.lookup id with
 | some .local => match fm m id with
  | some v => k v m l
  | none => False
 | some .globalImplicit => match gtab.lookup id with
  | some v => k v m l
  | none => match btab.lookup id with
   | some v => k v m l
   | none => WQ c z (eval (.Name id p) env) k m l
 | _ => WQ c z (eval (.Name id p) env) k m l
noncomputable def constE (v : Const) (k : Value -> Loc -> Led -> Prop) (m : Loc) (l : Led) (d : Prop) : Prop :=
 match v with
 | .int i => ∀ tk, k (.int i tk) m l
 | .str i => ∀ tk, k (.str i tk) m l
 | .none => k .none m l
 | .bool b => k (.bool b) m l
 | _ => d
noncomputable def either (b : Bool) (x y : Prop) : Prop :=
 match b with
 | true => x
 | false => y
noncomputable def sliceE (s : Expr) (f : Option Expr -> Option Expr -> Pos -> Prop) (g d : Prop) : Prop :=
 match s with
 | .Slice lo hi st sp => match st with
  | none => f lo hi sp
  | some _ => d
 | _ => g
noncomputable def calls (fx : Expr) (kw : List Keyword) (f : Expr -> Str -> Pos -> Prop) (g : Str -> Pos -> Prop) (d : Prop) : Prop :=
 match kw with
 | [] => match fx with
  | .Attribute o nm ap => f o nm ap
  | .Name id q => g id q
  | _ => d
 | _ :: _ => d
noncomputable def subE (e : EvT) (v s : Expr) (p : Pos) (k : Value -> Loc -> Led -> Prop) (m : Loc) (l : Led) (d : Prop) : Prop :=
 sliceE s (fun lo hi sp => e v (fun o => part e lo (fun lv => part e hi (fun uv => WQ c z (sliceT p v (.Slice lo hi none sp) o lv uv) k))) m l)
  (e v (fun o => e s (fun i => WQ c z (subscriptTail v s o i) k)) m l) d
noncomputable def methE (e : EvT) (o : Expr) (nm : Str) (ap : Pos) (es : List Expr) (p : Pos) (k : Value -> Loc -> Led -> Prop) (m : Loc) (l : Led) (d : Prop) : Prop :=
 either (es.all plainE && (decide (es.length < 30) && (ap.endLine == p.line && notCall o))) (e o (fun ov => WQ c z (getMethod ov nm (do return (<- importBound o env).getD true)) (fun fx => callF c z env e p fx.1 fx.2 es k)) m l) d
noncomputable def evS (e : EvT) (t : TsT) (x : Expr) (k : Value -> Loc -> Led -> Prop) (m : Loc) (l : Led) : Prop :=
 match x with
 | .Constant v q p => constE v k m l (WQ c z (eval (.Constant v q p) env) k m l)
 | .Name id p => nameE c z env nms id p k m l
 | .BinOp a op b _ => e a (fun va => e b (fun vb => bin c z op va vb k)) m l
 | .IfExp a b d _ => t a (fun q m l => either q (e b k m l) (e d k m l)) m l
 | .Compare a ops bs p => one1 (fun op => one1 (fun b => either (behindInMarks op b) (WQ c z (eval (.Compare a ops bs p) env) k m l) (e a (fun va => e b (fun vb => WQ c z (compareOp op va vb) k)) m l)) (WQ c z (eval (.Compare a ops bs p) env) k m l) bs) (WQ c z (eval (.Compare a ops bs p) env) k m l) ops
 | .Attribute o a p => either (notCall o) (e o (fun ov => WQ c z (getAttr ov a true) k) m l) (WQ c z (eval (.Attribute o a p) env) k m l)
 | .UnaryOp op a p => match op with
  | .USub => e a (fun v => neg c z v k) m l
  | _ => WQ c z (eval (.UnaryOp op a p) env) k m l
 | .Subscript v s p => subE c z e v s p k m l (WQ c z (eval (.Subscript v s p) env) k m l)
 | .Tuple es a p => either (es.all plainE) (evsW e es (fun vs => WQ c z (newTuple vs) k) m l) (WQ c z (eval (.Tuple es a p) env) k m l)
 | .List es p => either (es.all plainE) (evsW e es (fun vs => WQ c z (newList vs) k) m l) (WQ c z (eval (.List es p) env) k m l)
 | .Call fx es kw p => calls fx kw (fun o nm ap => methE c z env e o nm ap es p k m l (WQ c z (eval (.Call fx es kw p) env) k m l)) (fun id q => nameE c z env nms id q (fun fv => callF c z env e p fv [] es k) m l) (WQ c z (eval (.Call fx es kw p) env) k m l)
 | x => WQ c z (eval x env) k m l
noncomputable def allT (t : TsT) (op : BoolOp) : List Expr -> (Bool -> Loc -> Led -> Prop) -> Loc -> Led -> Prop
 | [], k, m, l => (match op with
  | .And => k true m l
  | .Or => k false m l)
 | x :: r, k, m, l => t x (fun q m l => (match op with
  | .And => either q (allT t op r k m l) (k false m l)
  | .Or => either q (k true m l) (allT t op r k m l))) m l
noncomputable def tsS (e : EvT) (t : TsT) (x : Expr) (k : Bool -> Loc -> Led -> Prop) (m : Loc) (l : Led) : Prop :=
 match x with
 | .UnaryOp op y p => match op with
  | .Not => t y (fun q => k (!q)) m l
  | _ => WQ c z (isTrue (.UnaryOp op y p) env (eval (.UnaryOp op y p) env)) k m l
 | .BoolOp op xs _ => allT t op xs k m l
 | .Compare a ops bs p => one1 (fun op => one1 (fun b => either (behindInMarks op b) (WQ c z (isTrue (.Compare a ops bs p) env (eval (.Compare a ops bs p) env)) k m l) (e a (fun va => e b (fun vb => cmpT c z op va vb k)) m l)) (WQ c z (isTrue (.Compare a ops bs p) env (eval (.Compare a ops bs p) env)) k m l) bs) (WQ c z (isTrue (.Compare a ops bs p) env (eval (.Compare a ops bs p) env)) k m l) ops
 | .IfExp a b d p => WQ c z (isTrue (.IfExp a b d p) env (eval (.IfExp a b d p) env)) k m l
 | x => e x (fun v => trv c z v k) m l
noncomputable def et : Nat -> EvT × TsT
 | 0 => (fun x k m l => WQ c z (eval x env) k m l, fun x k m l => WQ c z (isTrue x env (eval x env)) k m l)
 | n + 1 => (evS c z env nms (et n).1 (et n).2, tsS c z env (et n).1 (et n).2)
noncomputable def rzOk (vs : List Value) : Prop :=
 match vs with
 | [] => False
 | v :: r => match v with
  | .str _ _ => match r with
   | [] => c.Er (-1)
   | y :: r2 => match r2 with
    | [] => match y with
     | .int f _ => c.Er f
     | _ => False
    | _ :: _ => False
  | _ => False
noncomputable def rzN (f : Str -> Pos -> Expr -> List Expr -> Pos -> Prop) (d : Prop) (x cs : Option Expr) : Prop :=
 match x with
 | none => d
 | some x => match cs with
  | some _ => d
  | none => match x with
   | .Call fn es kw p => match kw with
    | _ :: _ => d
    | [] => match es with
     | [] => d
     | y :: ys => match fn with
      | .Name id q => f id q y ys p
      | _ => d
   | _ => d
noncomputable def asgE (e : EvT) (tg v : Expr) (K : Flow -> Loc -> Led -> Prop) (m : Loc) (l : Led) (d : Prop) : Prop :=
 match tg with
 | .Name x _ => either (nms.lookup x == some .local) (e v (fun v m l => K .next (up m x v) l) m l) (e v (fun v => WQ c z (bindName env x v) (fun _ => K .next)) m l)
 | .Attribute o a _ => e v (fun v => e o (fun ov => WQ c z (setAttr ov a v) (fun _ => K .next))) m l
 | .Subscript o i _ => sliceE i (fun _ _ _ => d) (e v (fun v => e o (fun ov => e i (fun iv => WQ c z (setItem ov iv v) (fun _ => K .next)))) m l) d
 | _ => d
noncomputable def stm (r : List Stmt -> (Flow -> Loc -> Led -> Prop) -> Loc -> Led -> Prop) (e : EvT) (t : TsT) (st : Stmt) (K : Flow -> Loc -> Led -> Prop) (m : Loc) (l : Led) : Prop :=
 match st with
 | .Expr x p => either (notComp x) (e x (fun _ => K .next) m l) (WQ c z (exec (.Expr x p) env) K m l)
 | .Assign ts v p => one1 (fun tg => either (notComp v) (asgE c z env nms e tg v K m l (WQ c z (exec (.Assign ts v p) env) K m l)) (WQ c z (exec (.Assign ts v p) env) K m l)) (WQ c z (exec (.Assign ts v p) env) K m l) ts
 | .Return x p => match x with
  | some x => e x (fun v => K (.ret v)) m l
  | none => WQ c z (exec (.Return none p) env) K m l
 | .If a b d _ => t a (fun q m l => either q (r b K m l) (r d K m l)) m l
 | .Raise x cs p' => rzN (fun id _ y ys _ => either ((y :: ys).all plainE && (id == ("TableFault" : Str) && nms.lookup id == some .globalImplicit)) (evsW e (y :: ys) (fun vs _ _ => rzOk c vs) m l) (WQ c z (exec (.Raise x cs p') env) K m l)) (WQ c z (exec (.Raise x cs p') env) K m l) x cs
 | st => WQ c z (exec st env) K m l
noncomputable def seqK (R : Loc -> Led -> Prop) (K : Flow -> Loc -> Led -> Prop) (f : Flow) (m : Loc) (l : Led) : Prop :=
 match f with
 | .next => R m l
 | f => K f m l
noncomputable def run : Nat -> List Stmt -> (Flow -> Loc -> Led -> Prop) -> Loc -> Led -> Prop
 | 0, ss, K, m, l => WQ c z (execs ss env) K m l
 | _ + 1, [], K, m, l => K .next m l
 | n + 1, st :: rest, K, m, l => stm c z env nms (run n) (et c z env nms n).1 (et c z env nms n).2 st (seqK (run n rest K) K) m l
end
section
variable {w : World} {c : Cf w} {z : Zs} {env : Env} {nms : List (Str × NameKind)} {d u : Nat}
theorem bin_ok {op : Operator} {va vb : Value} {m : Loc} {l : Led} {k : Value -> Loc -> Led -> Prop} (h : bin c z op va vb k m l) : WQ c z (binaryOp op va vb) k m l := by
 refine intV_elim h (fun a ta b tb e1 e2 h => ?_) id
 subst e1 e2
 cases op with
 | Add => exact .same fun s Q' x q => PyProof.Rows.add_int (q _ _ (h _))
 | Sub => exact .same fun s Q' x q => PyProof.Rows.sub_int (q _ _ (h _))
 | Mult => exact .same fun s Q' x q => PyProof.Rows.mul_int (q _ _ (h.2 _)) h.1
 | Mod => exact .same fun s Q' x q => PyProof.Rows.mod_int' h.1 (q _ _ (h.2 _))
 | FloorDiv => exact .same fun s Q' x q => PyProof.Rows.floordiv_int h.1.1 (q _ _ (h.2 _)) (.inl (PyProof.noPylong_small h.1.2))
 | _ => exact h
theorem neg_ok {v : Value} {m : Loc} {l : Led} {k : Value -> Loc -> Led -> Prop} (h : neg c z v k m l) : WQ c z (unaryOp .USub v) k m l := by
 cases v with
 | int a ta => exact .same fun s Q' x q => PyProof.Rows.neg_int (q _ _ (h _))
 | _ => exact h
theorem trv_ok {v : Value} {m : Loc} {l : Led} {k : Bool -> Loc -> Led -> Prop} (h : trv c z v k m l) : WQ c z (truthy v) k m l := by
 cases v with
 | bool b => exact .any fun s x => wpAny_truthy_bool ⟨m, l, x, h⟩
 | _ => exact h
theorem cmp_ok {op : CmpOp} {va vb : Value} {m : Loc} {l : Led} {k : Bool -> Loc -> Led -> Prop} (h : cmpT c z op va vb k m l) : WQ c z (compareOp op va vb) (fun v m l => WQ c z (truthy v) k m l) m l := by
 have two : ∀ {p : Prop} [Decidable p] {q : Bool} {s : Shared}, q = decide p -> Two p (¬ p) (fun q => k q m l) -> At c z m l s -> ∃ m' l', At c z m' l' s /\ WQ c z (truthy (.bool q)) k m' l' := fun {p} _ {q} {s} e h x => by
  refine ⟨m, l, x, .any fun s x => wpAny_truthy_bool ⟨m, l, x, ?_⟩⟩
  subst e
  by_cases hp : p
  ·rw [decide_eq_true hp]; exact h.yes hp
  ·rw [decide_eq_false hp]; exact h.no hp
 have one : ∀ {q : Bool} {s : Shared}, k q m l -> At c z m l s -> ∃ m' l', At c z m' l' s /\ WQ c z (truthy (.bool q)) k m' l' := fun h x => ⟨m, l, x, .any fun s x => wpAny_truthy_bool ⟨m, l, x, h⟩⟩
 have gen : WQ c z (compareOp op va vb) (fun v => trv c z v k) m l -> WQ c z (compareOp op va vb) (fun v m l => WQ c z (truthy v) k m l) m l := fun h => h.mono fun _ _ _ q => trv_ok q
 refine intV_elim h (fun a ta b tb e1 e2 h => ?_) fun h => ?_
 ·subst e1 e2
  cases op with
  | Lt => exact .any fun s x => PyProof.Rows.lt_int (two rfl h x)
  | Gt => exact .any fun s x => PyProof.Rows.gt_int (two rfl h x)
  | LtE => exact .any fun s x => PyProof.Rows.le_int (two rfl h x)
  | GtE => exact .any fun s x => PyProof.Rows.ge_int (two rfl h x)
  | Eq => exact .any fun s x => PyProof.Rows.eq_int (two (by rw [Bool.eq_iff_iff]; simp) h x)
  | NotEq => exact .any fun s x => PyProof.Rows.ne_int (two (by rw [Bool.eq_iff_iff]; simp) ⟨h.yes, fun q => h.no (Decidable.byContradiction q)⟩ x)
  | _ => exact gen h
 ·cases vb with
  | none => cases va with
   | none => cases op with
    | Is => exact .any fun s x => PyProof.Rows.is_none_gen (one h x)
    | IsNot => exact .any fun s x => PyProof.Rows.isnot_none_none (one h x)
    | _ => exact gen h
   | ref a => cases op with
    | Is => exact .any fun s x => PyProof.Rows.is_none_gen (one h x)
    | IsNot => exact .any fun s x => PyProof.Rows.isnot_ref_none (one h x)
    | _ => exact gen h
   | _ => exact gen h
  | _ => exact gen h
theorem name_ok (V : EnvOk c z env nms) {id : Str} {p : Pos} {m : Loc} {l : Led} {k : Value -> Loc -> Led -> Prop} (h : nameE c z env nms id p k m l) : WQ c z (eval (.Name id p) env) k m l := by
 have nd : ∀ {kd}, nms.lookup id = some kd -> (id == ("__debug__" : Str)) = false := fun {kd} e => by
  cases q : id == ("__debug__" : Str) with
  | false => rfl
  | true => rw [eq_of_beq q, V.dbg] at e; cases e
 unfold nameE at h
 split at h
 ·rename_i q
  split at h
  ·rename_i v hv
   exact .any fun s x => V.ld (z1 := z.led) (fun _ h => h) x q hv (nd q) ⟨m, l, x, h⟩
  ·exact h.elim
 ·rename_i q
  split at h
  ·rename_i v hv
   exact .any fun s x => V.gl (z1 := z.led) x q (gtab_ok _ (lookup_in hv)).1 (gtab_ok (w := w) _ (lookup_in hv)).2 ⟨m, l, x, h⟩
  ·split at h
   ·rename_i v hv
    have y := btab_ok (w := w) _ (lookup_in hv)
    exact .any fun s x => V.bi (z1 := z.led) x q y.1 y.2.1 y.2.2.1 y.2.2.2 ⟨m, l, x, h⟩
   ·exact h
 ·exact h
end
end
section
set_option tactic.hygienic false
open PySem PySem.W PyProof.Rows PySem.Calls PySem.Spec
theorem base_notCall {o : Expr} {a : Str} {env : Env} {t : Sem Value} (h : notCall o = true) : attributeBase o a env t = t := by
 cases o <;> first | rfl | exact Bool.noConfusion h
theorem either_elim {b : Bool} {x y P : Prop} (h : either b x y) (h1 : b = true -> x -> P) (h2 : b = false -> y -> P) : P := by
 cases b with
 | true => exact h1 rfl h
 | false => exact h2 rfl h
theorem sliceE_elim {s : Expr} {f : Option Expr -> Option Expr -> Pos -> Prop} {g d P : Prop} (h : sliceE s f g d) (h1 : ∀ lo hi sp, s = .Slice lo hi none sp -> f lo hi sp -> P) (h2 : g -> P) (h3 : d -> P) : P := by
 cases s with
 | Slice lo hi st sp => cases st with
  | none => exact h1 _ _ _ rfl h
  | some _ => exact h3 h
 | _ => exact h2 h
theorem calls_elim {fx : Expr} {kw : List Keyword} {f : Expr -> Str -> Pos -> Prop} {g : Str -> Pos -> Prop} {d P : Prop} (h : calls fx kw f g d) (h1 : ∀ o nm ap, fx = .Attribute o nm ap -> kw = [] -> f o nm ap -> P) (h2 : ∀ id q, fx = .Name id q -> kw = [] -> g id q -> P) (h3 : d -> P) : P := by
 cases kw with
 | cons _ _ => exact h3 h
 | nil => cases fx with
  | Attribute o nm ap => exact h1 _ _ _ rfl rfl h
  | Name id q => exact h2 _ _ rfl rfl h
  | _ => exact h3 h
section
variable {w : World} {c : Cf w} {z : Zs} {env : Env} {nms : List (Str × NameKind)} {d u : Nat} {e : EvT} {t : TsT}
theorem evS_ok (V : EnvOk c z env nms) (hC : CfOk c d u) (he : ∀ x m l k, e x k m l -> WQ c z (eval x env) k m l) (ht : ∀ x m l k, t x k m l -> WQ c z (isTrue x env (eval x env)) k m l) {x : Expr} {m : Loc} {l : Led} {k : Value -> Loc -> Led -> Prop}
  (h : evS c z env nms e t x k m l) : WQ c z (eval x env) k m l := by
 cases x with
 | Constant v q p => cases v with
  | int i => exact .any fun s y => wpAny_Constant_int ⟨m, l, y.tok, h _⟩
  | str i => exact .any fun s y => wpAny_Constant_str ⟨m, l, y.tok, h _⟩
  | none => exact .any fun s y => wpAny_Constant_none ⟨m, l, y, h⟩
  | bool b => exact .any fun s y => wpAny_Constant_bool ⟨m, l, y, h⟩
  | _ => exact h
 | Name id p => exact name_ok V h
 | BinOp a op b p =>
  rw [arm_eval_BinOp]
  exact .bind ((he _ _ _ _ h).mono fun _ _ _ q => .bind (.holding ((he _ _ _ _ q).mono fun _ _ _ q => .at_ (.operate (bin_ok q)))))
 | IfExp a b d p =>
  rw [arm_eval_IfExp]
  refine .bind ((ht _ _ _ _ h).mono fun b _ _ q => ?_)
  cases b with
  | true => exact he _ _ _ _ q
  | false => exact he _ _ _ _ q
 | Compare a ops bs p =>
  refine one1_elim h (fun op e1 h => one1_elim h (fun b e2 h => ?_) id) id
  subst e1 e2
  refine either_elim h (fun _ h => h) fun hm h => ?_
  rw [eval_Compare1, markedBehindIn_of_false hm]
  exact .bind ((he _ _ _ _ h).mono fun _ _ _ q => .bind (.holding ((he _ _ _ _ q).mono fun _ _ _ q => .at_ (.operate q))))
 | Attribute o a p =>
  refine either_elim h (fun hn h => ?_) fun _ h => h
  rw [arm_eval_Attribute, base_notCall hn]
  exact .bind ((he _ _ _ _ h).mono fun _ _ _ q => .at_ (.bind (.holding (q.mono fun _ m l q => .bind (.any fun s y => wpAny_letTemporaryGo ⟨m, l, y, .pure q⟩)))))
 | UnaryOp op a p => cases op with
  | USub =>
   rw [arm_eval_UnaryOp]
   exact .bind ((he _ _ _ _ h).mono fun _ _ _ q => .at_ (.holding (neg_ok q)))
  | _ => exact h
 | Subscript v s p =>
  refine sliceE_elim h (fun lo hi sp e1 h => ?_) (fun h => ?_) id
  ·subst e1
   rw [arm_eval_Subscript]
   have pt : ∀ {x : Option Expr} {m l} {k : Value -> Loc -> Led -> Prop}, part e x k m l -> WQ c z (valueOrNone (evalOpt x env)) k m l := fun {x m l k} h => by
    cases x with
    | none => exact .pure h
    | some x => exact he _ _ _ _ h
   refine .bind ((he _ _ _ _ h).mono fun o m l q => .unhold ?_)
   show WQ c z ((valueOrNone (evalOpt lo env) >>= fun l => holding [l] (valueOrNone (evalOpt hi env)) >>= fun u => holding [l, u] (valueOrNone none) >>= fun s => newFields "slice" [l, u, s]) >>= _) k m l
   refine .assoc (.bind ((pt q).mono fun lv m l q => .assoc (.bind (.holding ((pt q).mono fun uv m l q => .assoc (.bind (.holding (.pure ?_))))))))
   exact q
  ·rw [arm_eval_Subscript]
   refine .bind ((he _ _ _ _ h).mono fun _ _ _ q => .bind (.holding ((he _ _ _ _ q).mono fun _ _ _ q => ?_)))
   exact .at_ q
 | Tuple es a p =>
  refine either_elim h (fun hp h => ?_) fun _ h => h
  rw [arm_eval_Tuple]
  exact .at_ (.bind (.spliced he hp h))
 | List es p =>
  refine either_elim h (fun hp h => ?_) fun _ h => h
  rw [arm_eval_List]
  exact .at_ (.bind (.spliced he hp h))
 | Call fx es kw p =>
  refine calls_elim h (fun o nm ap e1 e2 h => ?_) (fun id q e1 e2 h2 => ?_) id
  ·subst e1 e2
   refine either_elim h (fun hg h => ?_) fun _ h => h
   rw [Bool.and_eq_true, Bool.and_eq_true, Bool.and_eq_true] at hg
   refine hideG ?_; intro PG9 hG9
   obtain ⟨g1, g2, g3, g4⟩ := hg
   refine hG9 ?_; clear hG9 PG9
   have g2 := of_decide_eq_true g2
   rw [arm_eval_Call, base_notCall g4]
   refine .bind ((he _ _ _ _ h).mono fun ov m l q => .at_ ?_)
   have few : methodCallForm (es.length + ([] : List Keyword).length) (backTo p (starEach es env)) (backToKw p (keywordEach [] env)) = true := by
    have e1 : ((backTo p (starEach es env)).all fun x => !x.1) = true := by
     rw [List.all_eq_not_any_not]
     simp only [Bool.not_not]
     rw [any_plain g1]; rfl
    unfold methodCallForm
    rw [e1]
    show (true && true && decide (es.length + 0 + 0 < 30)) = true
    rw [decide_eq_true (show es.length + 0 + 0 < 30 from g2)]; rfl
   unfold methodCall
   rw [few]
   refine .bind (.holding (q.mono fun fx m l q => ?_))
   obtain ⟨f, first⟩ := fx
   refine .bind ?_
   unfold methodCallPos
   rw [g3]
   exact .pure (callF_ok hC he q)
  ·subst e1 e2
   show WQ c z (do callWith p (<- eval (.Name id q) env) [] (backTo p (starEach es env)) []) k m l
   exact .bind ((name_ok V h2).mono fun _ _ _ q => callF_ok hC he q)
 | _ => exact h
theorem all_ok (ht : ∀ x m l k, t x k m l -> WQ c z (isTrue x env (eval x env)) k m l) {op : BoolOp} : ∀ {xs : List Expr} {m l} {k : Bool -> Loc -> Led -> Prop}, allT t op xs k m l -> WQ c z (allTrue op xs env) k m l
 | [], m, l, k, h => by cases op <;> exact .pure h
 | x :: r, m, l, k, h => by
  cases op with
  | And =>
   show WQ c z (do
    match BoolOp.And, <- isTrue x env (eval x env) with
    | .And, false => pure false
    | .Or, true => pure true
    | _, _ => allTrue .And r env) k m l
   refine .bind ((ht _ _ _ _ h).mono fun b _ _ q => ?_)
   cases b with
   | true => exact all_ok ht q
   | false => exact .pure q
  | Or =>
   show WQ c z (do
    match BoolOp.Or, <- isTrue x env (eval x env) with
    | .And, false => pure false
    | .Or, true => pure true
    | _, _ => allTrue .Or r env) k m l
   refine .bind ((ht _ _ _ _ h).mono fun b _ _ q => ?_)
   cases b with
   | true => exact .pure q
   | false => exact all_ok ht q
theorem ts_gen {x : Expr} {m : Loc} {l : Led} {k : Bool -> Loc -> Led -> Prop} (key : isTrue x env (eval x env) = (do let v <- eval x env; standAt x.pos; holding [v] (truthy v))) (he : ∀ x m l k, e x k m l -> WQ c z (eval x env) k m l) (h : e x (fun v => trv c z v k) m l) : WQ c z (isTrue x env (eval x env)) k m l := by
 rw [key]
 exact .bind ((he _ _ _ _ h).mono fun _ _ _ q => .at_ (.holding (trv_ok q)))
theorem tsS_ok (he : ∀ x m l k, e x k m l -> WQ c z (eval x env) k m l) (ht : ∀ x m l k, t x k m l -> WQ c z (isTrue x env (eval x env)) k m l) {x : Expr} {m : Loc} {l : Led} {k : Bool -> Loc -> Led -> Prop}
  (h : tsS c z env e t x k m l) : WQ c z (isTrue x env (eval x env)) k m l := by
 cases x with
 | UnaryOp op y p => cases op with
  | Not =>
   rw [arm_isTrue_UnaryOp]
   exact .bind ((ht _ _ _ _ h).mono fun _ _ _ q => .pure q)
  | _ => exact h
 | BoolOp op xs p => rw [arm_isTrue_BoolOp]; exact all_ok ht h
 | Compare a ops bs p =>
  refine one1_elim h (fun op e1 h => one1_elim h (fun b e2 h => ?_) id) id
  subst e1 e2
  refine either_elim h (fun _ h => h) fun hm h => ?_
  rw [isTrue_Compare1, markedBehindIn_of_false hm]
  exact .bind ((he _ _ _ _ h).mono fun _ _ _ q => .bind (.holding ((he _ _ _ _ q).mono fun _ _ _ q => .at_ (.bind (.operate ((cmp_ok q).mono fun _ _ _ q => .holding q))))))
 | IfExp a b d p => exact h
 | _ => exact ts_gen rfl he h
theorem et_ok (V : EnvOk c z env nms) (hC : CfOk c d u) : ∀ n, (∀ x m l k, (et c z env nms n).1 x k m l -> WQ c z (eval x env) k m l) /\ (∀ x m l k, (et c z env nms n).2 x k m l -> WQ c z (isTrue x env (eval x env)) k m l)
 | 0 => ⟨fun _ _ _ _ h => h, fun _ _ _ _ h => h⟩
 | n + 1 => ⟨fun _ _ _ _ h => evS_ok V hC (et_ok V hC n).1 (et_ok V hC n).2 h, fun _ _ _ _ h => tsS_ok (et_ok V hC n).1 (et_ok V hC n).2 h⟩
end
end
section
set_option tactic.hygienic false
open PySem PySem.W PyProof.Rows PySem.Calls PySem.Spec
theorem swaps_no {v : Expr} {o : Option Expr} {n : Nat} {env : Env} (h : notComp v = true) : swapsWith v o n env = pure false := by
 cases v <;> first | rfl | exact Bool.noConfusion h
section
variable {w : World} {c : Cf w} {z : Zs} {env : Env} {nms : List (Str × NameKind)} {d u : Nat} {e : EvT} {t : TsT} {m : Loc} {l : Led}
theorem raise_ok (V : EnvOk c z env nms) (hf9 : ForOk c z env nms) (hC : CfOk c d u) (hdd : d <= 880) (hu : 300 <= u) (he : ∀ x m l k, e x k m l -> WQ c z (eval x env) k m l) {q p p' : Pos} {x : Expr} {xs : List Expr} {K : Flow -> Loc -> Led -> Prop}
  (hp : (x :: xs).all plainE = true) (hl : nms.lookup ("TableFault" : Str) = some .globalImplicit) (h : evsW e (x :: xs) (fun vs _ _ => rzOk c vs) m l) : WQ c z (exec (.Raise (some (.Call (.Name "TableFault" q) (x :: xs) [] p)) none p') env) K m l := by
 rw [arm_exec_Raise]
 refine .at_ ⟨fun s y => ?_⟩
 show wpG _ _ _ (raiseStmt env (some (do let v <- eval (.Call (.Name "TableFault" q) (x :: xs) [] p) env; standAt p'; pure v)) none) _ _ s
 have bA : ∀ {α β : Type} {m : Sem α} {f : α -> Sem β} {Q : β -> Shared -> Prop} {s : Shared}, wpAny (model PW w) c.A m (fun a s' => wpG c.b (model PW w) c.A (f a) Q c.E s') c.E s -> wpG c.b (model PW w) c.A (m >>= f) Q c.E s := fun h => wpG_bind (wpG_any h)
 have tail : ∀ {v : Value} {Q : Flow -> Shared -> Prop} {s : Shared}, wpAny (model PW w) c.A (raiseStmt env (some (pure v)) none) Q c.E s -> wpAny (model PW w) c.A ((fun xv => raiseStmt env (some (pure xv)) none) v) Q c.E s := fun h => h
 have split : ∀ {T : Sem Value} {Q : Flow -> Shared -> Prop} {s : Shared}, wpG c.b (model PW w) c.A T (fun v s' => wpAny (model PW w) c.A (raiseStmt env (some (pure v)) none) Q c.E s') c.E s -> wpG c.b (model PW w) c.A (raiseStmt env (some T) none) Q c.E s := fun {T Q s} h => by
  unfold raiseStmt at h ⊢
  dsimp only at h ⊢
  refine wpG_bind (wpG_mono h (fun v s' h' => wpG_any ?_) fun _ _ y => y)
  intro Γ p hΓ
  have := h' Γ p hΓ
  rw [Sem.wp_bind'] at this
  exact this
 refine split (wpG_bind ?_)
 show wpG _ _ _ (do callWith p (<- eval (.Name "TableFault" q) env) [] (backTo p (starEach (x :: xs) env)) []) _ _ s
 refine bA (V.gl (z1 := z.led) y hl (show nsIn _ _ _ = some (some (.ref 61)) by kernel_rfl) (by kernel_rfl) ?_)
 refine callWithG (P := fun h => (hd.heap_1 w.params).In h) (by rw [any_plain hp]; rfl) (keeps_K (by kernel_rfl)) ?_
 refine wpG_mono ((evalArgsG (Q := fun a m l => a.kw = [] /\ rzOk c a.pos) (any_plain hp) ((WQ.spliced he hp h).mono fun vs _ _ q => ⟨rfl, q⟩)).run s y) (fun a s1 ⟨m1, l1, y1, q⟩ => ?_) fun _ _ y => y
 refine ⟨hC.kin.keeps y1.fr.keep, ?_⟩
 obtain ⟨vs, kw⟩ := a
 obtain ⟨rfl, q⟩ := q
 have B := hC.bel y1.fr
 have fin : ∀ {f : Int} {tf : Tok} {msg : Value}, c.Er f -> (handedIn msg = true /\ (vs = [msg, .int f tf] \/ (vs = [msg] /\ (Value.int f tf) = .int (-1) 209))) -> wpG c.b (model PW w) c.A (call (.ref 61) ([] ++ vs) []) (fun v s' => wpG c.b (model PW w) c.A (do standAt p'; pure v) (fun v s' => wpAny (model PW w) c.A (raiseStmt env (some (pure v)) none) (fun a s' => ∃ m' l', At c z m' l' s' /\ K a m' l') c.E s') c.E s') c.E s1 := fun hf hv => by
  refine wpG_any (wpAny_call (exc_call B hC.G (Nat.lt_of_lt_of_le hC.dp (Nat.le_trans hdd (by decide))) (by have := hC.un; omega) hv fun h' tk' e x k hn => ?_))
  have B' := below_kp (S := []) B k (fun _ h => nomatch h) (fun _ h => nomatch h)
  refine wpG_any (wpAny_bind (wpAny_standAt (wpAny_pure (exc_raiseStmt hC.hh (wpAny_pure ?_)))))
  exact ⟨e, _, _, _, rfl, hC.G.kin.keeps B'.stays, x, hf9.er0 hf y1 x k hn B'.stays B'.frames⟩
 cases vs with
 | nil => exact q.elim
 | cons v r => cases v with
  | str msg tm => cases r with
   | nil => exact fin (tf := 209) q ⟨rfl, .inr ⟨rfl, rfl⟩⟩
   | cons y r2 => cases r2 with
    | cons _ _ => exact q.elim
    | nil => cases y with
     | int f tf => exact fin q ⟨rfl, .inl rfl⟩
     | _ => exact q.elim
  | _ => exact q.elim
theorem rzN_elim {f : Str -> Pos -> Expr -> List Expr -> Pos -> Prop} {d P : Prop} {x cs : Option Expr} (h : rzN f d x cs) (h1 : ∀ id q y ys p, x = some (.Call (.Name id q) (y :: ys) [] p) -> cs = none -> f id q y ys p -> P) (h2 : d -> P) : P := by
 cases x with
 | none => exact h2 h
 | some x => cases cs with
  | some _ => exact h2 h
  | none => cases x with
   | Call fn es kw p => cases kw with
    | cons _ _ => exact h2 h
    | nil => cases es with
     | nil => exact h2 h
     | cons y ys => cases fn with
      | Name id q => exact h1 _ _ _ _ _ rfl rfl h
      | _ => exact h2 h
   | _ => exact h2 h
theorem stm_ok (V : EnvOk c z env nms) (hf9 : ForOk c z env nms) (hC : CfOk c d u) (hdd : d <= 880) (hu : 300 <= u) {r : List Stmt -> (Flow -> Loc -> Led -> Prop) -> Loc -> Led -> Prop} (hr : ∀ ss m l K, r ss K m l -> WQ c z (execs ss env) K m l)
  (he : ∀ x m l k, e x k m l -> WQ c z (eval x env) k m l) (ht : ∀ x m l k, t x k m l -> WQ c z (isTrue x env (eval x env)) k m l) {st : Stmt} {K : Flow -> Loc -> Led -> Prop} (h : stm c z env nms r e t st K m l) : WQ c z (exec st env) K m l := by
 cases st with
 | Expr x p =>
  refine either_elim h (fun hn h => ?_) fun _ h => h
  rw [exec_Expr env _ _ V.inter (swaps_no hn)]
  exact .at_ (.bind ((he _ _ _ _ h).mono fun _ _ _ q => .any fun s y => wpAny_dropValue ⟨_, _, y, q⟩))
 | Assign ts v p =>
  refine one1_elim h (fun tg e1 h => either_elim h (fun hn h => ?_) fun _ h => h) id
  subst e1
  cases tg with
  | Name x q =>
   rw [exec_Assign_Name env _ _ _ _ (swaps_no hn)]
   refine either_elim h (fun hg2 h => ?_) fun _ h => ?_
   ·exact .at_ (.bind ((he _ _ _ _ h).mono fun v m l q => .at_ (.bind (.any fun s y => hf9.st (z1 := z.led) y (eq_of_beq hg2) fun s' y' => ⟨_, _, y', .pure q⟩))))
   ·exact .at_ (.bind ((he _ _ _ _ h).mono fun v m l q => .at_ (.bind (q.mono fun _ _ _ q => .pure q))))
  | Attribute o a q =>
   rw [plainObj_exec_Assign_Attribute _ _ _ _ _ (swaps_no hn)]
   refine .at_ (.bind ((he _ _ _ _ h).mono fun v m l q => .bind ?_))
   rw [assign_Attribute]
   refine .bind (.holding ((he _ _ _ _ q).mono fun ov m l q => .at_ (.bind (.holding (q.mono fun _ m l q => ?_)))))
   exact .any fun s y => wpAny_release ⟨_, _, y, .pure q⟩
  | Subscript o i q =>
   refine sliceE_elim h (fun _ _ _ _ h => h) (fun h => ?_) id
   rw [PySem.exec_Assign_Subscript _ _ _ _ _ (swaps_no hn)]
   refine .at_ (.bind ((he _ _ _ _ h).mono fun v m l q => .bind ?_))
   rw [PySem.assign_Subscript]
   refine .bind (.holding ((he _ _ _ _ q).mono fun ov m l q => .bind (.holding ((he _ _ _ _ q).mono fun iv m l q => .at_ (.bind (.holding (q.mono fun _ m l q => ?_)))))))
   exact .any fun s y => wpAny_release ⟨_, _, y, .pure q⟩
  | _ => exact h
 | Return x p => cases x with
  | none => exact h
  | some x =>
   rw [exec_Return_some]
   exact .at_ (.bind ((he _ _ _ _ h).mono fun _ _ _ q => .pure q))
 | If a b d p =>
  rw [exec_If]
  refine .at_ (.bind ((ht _ _ _ _ h).mono fun b _ _ q => ?_))
  cases b with
  | true => exact hr _ _ _ _ q
  | false => exact hr _ _ _ _ q
 | Raise x cs p' =>
  refine rzN_elim h (fun id q y ys p e1 e2 h => either_elim h (fun hg h2 => ?_) fun _ h => h) fun h => h
  subst e1 e2
  rw [Bool.and_eq_true, Bool.and_eq_true] at hg
  have e1 := eq_of_beq hg.2.1
  subst e1
  exact raise_ok V hf9 hC hdd hu he hg.1 (eq_of_beq hg.2.2) h2
 | _ => exact h
theorem run_ok (V : EnvOk c z env nms) (hf9 : ForOk c z env nms) (hC : CfOk c d u) (hdd : d <= 880) (hu : 300 <= u) : ∀ n ss m l K, run c z env nms n ss K m l -> WQ c z (execs ss env) K m l
 | 0, _, _, _, _, h => h
 | _ + 1, [], m, l, _, h => .any fun s y => wpAny_execs_nil ⟨m, l, y, h⟩
 | n + 1, st :: rest, m, l, K, h => by
  rw [execs_cons]
  refine .bind ((stm_ok V hf9 hC hdd hu (run_ok V hf9 hC hdd hu n) (et_ok V hC n).1 (et_ok V hC n).2 h).mono fun f m l q => ?_)
  cases f <;> first | exact run_ok V hf9 hC hdd hu n _ _ _ _ q | exact .pure q
end
end
section
set_option tactic.hygienic false
open PySem PySem.W PyProof.Rows PySem.Calls PySem.Spec
noncomputable def z0 : Zs := ⟨[], fm, fun _ => True⟩
noncomputable def rv (f : Flow) : Value := match f with
 | .ret v => v
 | _ => .none
noncomputable def Fre {w : World} (c : Cf w) (a : Addr) : Prop := c.s.heap.get? a = none
structure Ex (S : List Addr) (h : Heap) (l : Led) (h' : Heap) : Prop where
 kp : Kp S h h'
 at_ : ∀ p ∈ l, h'.get? p.1 = some p.2
 nd : l.Pairwise fun p q => p.1 ≠ q.1
section
variable {w : World} {c : Cf w} {z : Zs} {m : Loc} {l : Led} {s : Shared} {d u : Nat}
theorem At.kp (hg : ∀ b o, c.s.heap.get? b = some o -> b ∉ c.kn.map (·.1) -> c.g.get? b = some o) (hkn : ∀ p ∈ c.kn, c.s.heap.get? p.1 = some p.2) (x : At c z m l s) : Kp c.S c.s.heap s.heap := exitKp hg hkn x.fr x.nw x.kn
theorem envOk_X {nm : Str} {sc : Scope} {a : Addr} {cd : Value} {cl : List (Str × Addr)} (hC : CfOk c d u) (hk : sc.kind = .function) (hdb : sc.names.lookup ("__debug__" : Str) = none) : EnvOk c z0 (envX nm sc c.L a cd cl) sc.names where
 nm := rfl
 fn := hk
 dbg := hdb
 fr := rfl
 gb := rfl
 bb := rfl
 ld _ x hl hv hd h := nameX_L x.fr hv h hk hl hd
 gl x hl hv hd h := nameX_K x.fr hC.kin (topRead_of hC.top) hv h hk hl hd
 bi x hl h1 h2 h3 hd h := nameX_B x.fr hC.kin (topRead_of hC.top) h1 h2 h3 h hk hl hd
 ce y hl hc hm hd hb h := nameX_C y.nw hc (List.mem_append_left _ hm) hd h hk hl hb
theorem st_X {nm : Str} {sc : Scope} {a : Addr} {cd : Value} {cl : List (Str × Addr)} (hk : sc.kind = .function) {z1 : Led} {m : Loc} {l : Led} {s : Shared} {x : Str} {v : Value} {Q : Unit -> Shared -> Prop} (y : At c { z0 with led := z1 } m l s) (hl : sc.names.lookup x = some .local) (h : ∀ s', At c { z0 with led := z1 } (up m x v) l s' -> Q () s') :
  wpAny (model PW w) c.A (bindName (envX nm sc c.L a cd cl) x v) Q c.E s :=
 wpAny_bindName (storeX_L y.fr y.nw (fun h' F N => h _ ⟨by rw [show z0.mf (up m x v) = _ from fm_up]; exact F, N, y.nd, y.kn, by have := y.st; rw [this], trivial, y.hd⟩) hk hl)
end
noncomputable def lnames (sc : Scope) : List Str := sc.names.filterMap fun p => match p.2 with
 | .local => some p.1
 | _ => none
theorem mem_lnames {sc : Scope} {x : Str} (h : sc.names.lookup x = some .local) : x ∈ lnames sc := List.mem_filterMap.mpr ⟨_, lookup_in h, rfl⟩
theorem fm_map {g : Str -> Option Value} : ∀ {ns : List Str}, (∀ y, y ∉ ns -> g y = none) -> fm (ns.map fun x => (x, g x)) = g
 | [], h => funext fun y => (h y List.not_mem_nil).symm
 | x :: r, h => by
  funext y
  show (if y = x then g x else fm (r.map fun x => (x, g x)) y) = g y
  by_cases q : y = x
  ·rw [if_pos q, q]
  ·rw [if_neg q]
   have : ∀ {ns : List Str}, y ∉ ns -> fm (ns.map fun x => (x, g x)) y = none := fun {ns} hn => by
    induction ns with
    | nil => rfl
    | cons a t ih =>
     show (if y = a then g a else fm (t.map fun x => (x, g x)) y) = none
     rw [if_neg (fun (e : y = a) => hn (e ▸ List.Mem.head _)), ih fun e => hn (.tail _ e)]
   by_cases q2 : y ∈ r
   ·have ih : ∀ {ns : List Str}, y ∈ ns -> fm (ns.map fun x => (x, g x)) y = g y := fun {ns} hn => by
     induction ns with
     | nil => exact absurd hn List.not_mem_nil
     | cons a t ih =>
      show (if y = a then g a else fm (t.map fun x => (x, g x)) y) = g y
      by_cases e : y = a
      ·rw [if_pos e, e]
      ·rw [if_neg e]
       exact ih ((List.mem_cons.mp hn).resolve_left e)
    exact ih q2
   ·rw [this q2, h y fun e => (List.mem_cons.mp e).elim q q2]
section
variable {w : World} {mean : ExcName -> Option Value} {mg mb : Str -> Option Value} {A : Around} {base : Heap} {outer : List Env} {s : Shared} {R : Result -> Shared -> Prop}
theorem coreG {α : Type} {kn l0 : List (Addr × Obj)} {S : List Addr} {Er : Int -> Prop} {dd uu : Nat} {g h₁ : Heap} {L' a : Addr} {nm : Str} {sc : Scope} {cd : Value} {cl : List (Str × Addr)} {mf : Str -> Option Value} {m0 : Loc} {tk : Nat}
  (t : Env -> Sem α) (rvv : α -> Value) (G : Gd w mean mg mb base) (hh : A.handled = none) (hdp : A.depth < dd) (hu : A.units + uu < cLine) (huu : 3 <= uu)
  (hkn : ∀ p ∈ kn, s.heap.get? p.1 = some p.2) (hm0 : fm m0 = mf) (hnd : l0.Pairwise fun p q => p.1 ≠ q.1) (hk0 : ∀ p ∈ kn, p ∈ l0)
  (hEr : ∀ f, Er f -> ∀ h' tk' e t, FlyD base outer e (.int f t) (S ++ fr outer) s.heap h' -> R (.error (.ref e)) { s with heap := h', toks := tk' })
  (hk : sc.kind = .function) (hdb : sc.names.lookup ("__debug__" : Str) = none)
  (F : Fr g L' h₁ mf) (N : News g L' h₁ l0) (B' : Below A base outer g) (X : (hd.heap_1 w.params).In g) (T : Top topProg LO mean mg mb g) (hg : ∀ b o, s.heap.get? b = some o -> b ∉ kn.map (·.1) -> g.get? b = some o) (hL : s.heap.get? L' = none)
  (h : ∀ (c : Cf w) (z : Zs) (env : Env) (K : α -> Loc -> Led -> Prop), CfOk c (dd + 1) (uu - 3) -> EnvOk c z env sc.names -> env.cells = cl -> ForOk c z env sc.names -> c.S = S -> c.L = L' -> c.outer = outer -> c.mean = mean /\ c.mg = mg /\ c.mb = mb -> c.env0 = env -> env = envX nm sc L' a cd cl -> (∀ f, Er f -> c.Er f) -> (∀ a, Fre c a ↔ s.heap.get? a = none) -> (∀ p ∈ kn, ¬ Fre c p.1) ->
   (∀ f m l, (∀ h' tk', Ex S s.heap l h' -> R (.ok (.ret (rvv f))) { s with heap := h', toks := tk' }) -> K f m l) -> WQ c z (t env) K m0 l0) :
  wpS (model PW w) (A.deeper (envX nm sc L' a cd cl)) (t (envX nm sc L' a cd cl)) (fun fl s' => R (.ok (.ret (rvv fl))) s')
   (fun e s' => wpAny (model PW w) (A.deeper (envX nm sc L' a cd cl)) (leaving (envX nm sc L' a cd cl) e) (fun _ s'' => R (.error e) s'') (fun e' s'' => R (.error e') s'') s')
   { s with heap := h₁, toks := tk } := by
 let E : Value -> Shared -> Prop := fun e s' => wpAny (model PW w) (A.deeper (envX nm sc L' a cd cl)) (leaving (envX nm sc L' a cd cl) e) (fun _ s'' => R (.error e) s'') (fun e' s'' => R (.error e') s'') s'
 let c : Cf w := ⟨true, A.deeper (envX nm sc L' a cd cl), E, g, L', s, S, kn, base, envX nm sc L' a cd cl, outer, mean, mg, mb, Er, []⟩
 have hC : CfOk c (dd + 1) (uu - 3) := {
  bt := rfl, G := G, kin := X, top := T, bel := fun {h m} F => push_any B' F rfl hk, knn := fun {h m l} F N => kn_of B' N rfl, hks := hkn, hh := hh, dp := Nat.succ_lt_succ hdp
  un := by show A.units + 3 + (uu - 3) < cLine; omega
  hg := hg, bel0 := ⟨A, B'⟩, fr0 := Around.frames_deeper B'.stack, hL := hL
  up := fun {z m l s1} y => frames_upL rfl B' y.fr y.nw hg y.kn
  er := fun {f m z l s1 e t S1 h' tk} hf y hS x => by
   have e1 : s1 = { s with heap := s1.heap, toks := s1.toks } := y.st
   rw [e1]
   exact body_raiseE (s₁ := { s with heap := s1.heap, toks := s1.toks }) (R' := fun v s'' => R (.error v) s'') rfl B' y.fr y.nw hg hkn y.kn hL x (fun a ha => (hS a ha).1) fun h'' z => hEr f hf h'' _ e t z }
 have er0 : ∀ {f m z l s1 e t msg h' tk}, c.Er f -> At c z m l s1 -> Exc0 s1.heap h' e msg (.int f t) -> Kp [] s1.heap h' -> s1.heap.get? e = none -> c.base.StaysIn h' -> h'.FunFrames c.base c.out -> c.E (.ref e) { s1 with heap := h', toks := tk } := fun {f m z l s1 e t msg h' tk} hf y x k hn st fl => by
  have e1 : s1 = { s with heap := s1.heap, toks := s1.toks } := y.st
  rw [e1]
  exact body_raise0E (s₁ := { s with heap := s1.heap, toks := s1.toks }) (R' := fun v s'' => R (.error v) s'') rfl B' y.fr y.nw hg hkn y.kn hL x k hn st fl fun h'' z => hEr f hf h'' _ e t z
 have V : EnvOk c z0 (envX nm sc L' a cd cl) sc.names := envOk_X (c := c) hC hk hdb
 have hF : ForOk c z0 (envX nm sc L' a cd cl) sc.names := ⟨rfl, fun _ => trivial, by passes_own, rfl, rfl, fun y => st_X hk y, fun y hl hc U hd h => by obtain ⟨v0, hd⟩ := hd; exact wpAny_bindName (storeX_C y.fr y.nw hc U hd (fun h' o' F N e => h h' o' F N e) hk hl), er0, fun {f e t s'} hf x h2 => by
  obtain ⟨h2, tk2, rfl⟩ := h2
  exact body_raiseX (R2 := fun s'' => R (.error (.ref e)) s'') rfl B' hL x fun h'' z => hEr f hf h'' _ e t z⟩
 have q := (h c z0 (envX nm sc L' a cd cl) (fun f m l => ∀ h' tk', Ex S s.heap l h' -> R (.ok (.ret (rvv f))) { s with heap := h', toks := tk' }) hC V rfl hF rfl rfl rfl ⟨rfl, rfl, rfl⟩ rfl rfl (fun _ x => x) (fun _ => Iff.rfl)
  (fun p hp x => by have := hkn p hp; rw [show s.heap.get? p.1 = none from x] at this; cases this) (fun _ _ _ x => x)).run { s with heap := h₁, toks := tk }
  ⟨by show Fr g L' h₁ (fm m0); rw [hm0]; exact F, by show News g L' h₁ (l0 ++ []); rw [List.append_nil]; exact N, by show (l0 ++ []).Pairwise _; rw [List.append_nil]; exact hnd, fun p hp => .inl (by show p ∈ l0 ++ []; rw [List.append_nil]; exact hk0 p hp), rfl, trivial, fun _ h => absurd h List.not_mem_nil⟩
 refine wpS_mono (toS q) (fun f s' ⟨m', l', y, k⟩ => ?_) fun _ _ y => y
 have e1 : s' = { s with heap := s'.heap, toks := s'.toks } := y.st
 have nw : News g L' s'.heap (l' ++ []) := y.nw
 have nd : (l' ++ []).Pairwise (fun (p q : Addr × Obj) => p.1 ≠ q.1) := y.nd
 rw [List.append_nil] at nw nd
 have k2 := k s'.heap s'.toks ⟨y.kp hg hkn, fun p hp => (nw p hp).1, nd⟩
 rw [<- e1] at k2
 exact k2
theorem coreQ {kn l0 : List (Addr × Obj)} {S : List Addr} {Er : Int -> Prop} {dd uu : Nat} {g h₁ : Heap} {L' a : Addr} {nm : Str} {sc : Scope} {cd : Value} {cl : List (Str × Addr)} {body : List Stmt} {mf : Str -> Option Value} {m0 : Loc} {tk : Nat}
  (n : Nat) (G : Gd w mean mg mb base) (hh : A.handled = none) (hdp : A.depth < dd) (hu : A.units + uu < cLine) (hdd : dd + 1 <= 880) (huu : 303 <= uu)
  (hkn : ∀ p ∈ kn, s.heap.get? p.1 = some p.2) (hm0 : fm m0 = mf) (hnd : l0.Pairwise fun p q => p.1 ≠ q.1) (hk0 : ∀ p ∈ kn, p ∈ l0)
  (hEr : ∀ f, Er f -> ∀ h' tk' e t, FlyD base outer e (.int f t) (S ++ fr outer) s.heap h' -> R (.error (.ref e)) { s with heap := h', toks := tk' })
  (hk : sc.kind = .function) (hdb : sc.names.lookup ("__debug__" : Str) = none)
  (F : Fr g L' h₁ mf) (N : News g L' h₁ l0) (B' : Below A base outer g) (X : (hd.heap_1 w.params).In g) (T : Top topProg LO mean mg mb g) (hg : ∀ b o, s.heap.get? b = some o -> b ∉ kn.map (·.1) -> g.get? b = some o) (hL : s.heap.get? L' = none)
  (h : ∀ (c : Cf w) (z : Zs) (env : Env) (K : Flow -> Loc -> Led -> Prop), CfOk c (dd + 1) (uu - 3) -> EnvOk c z env sc.names -> env.cells = cl -> ForOk c z env sc.names -> c.S = S -> c.L = L' -> c.outer = outer -> env = envX nm sc L' a cd cl -> (∀ f, Er f -> c.Er f) -> (∀ a, Fre c a ↔ s.heap.get? a = none) -> (∀ p ∈ kn, ¬ Fre c p.1) ->
   (∀ f m l, (∀ h' tk', Ex S s.heap l h' -> R (.ok (.ret (rv f))) { s with heap := h', toks := tk' }) -> K f m l) -> run c z env sc.names n body K m0 l0) :
  wpS (model PW w) (A.deeper (envX nm sc L' a cd cl)) (execs body (envX nm sc L' a cd cl)) (fun fl s' => R (.ok (.ret (match fl with | .ret v => v | _ => .none))) s')
   (fun e s' => wpAny (model PW w) (A.deeper (envX nm sc L' a cd cl)) (leaving (envX nm sc L' a cd cl) e) (fun _ s'' => R (.error e) s'') (fun e' s'' => R (.error e') s'') s')
   { s with heap := h₁, toks := tk } :=
 coreG (fun env => execs body env) rv G hh hdp hu (Nat.le_trans (by decide) huu) hkn hm0 hnd hk0 hEr hk hdb F N B' X T hg hL fun c z env K hC V hcl hf hS hcL ho _ _ he h1 h2 h3 h4 => run_ok V hf hC hdd (Nat.le_sub_of_add_le huu) n _ _ _ _ (h c z env K hC V hcl hf hS hcL ho he h1 h2 h3 h4)
section
variable {kn : List (Addr × Obj)} {name qual : Str} {params : Arguments} {body : List Stmt} {scope : Scope} {dV kV doc pm cdv ct oc : Value} {an od : Option Addr} {osl : Array (Option Value)} {f : Addr} {args : Args} {binds : List (Str × Value)}
theorem enterQ (n : Nat) (S : List Addr) (Er : Int -> Prop) {dd uu : Nat} (B : Below A base outer s.heap) (G : Gd w mean mg mb base) (hh : A.handled = none) (hdp : A.depth < dd) (hu : A.units + uu < cLine) (hkn : Kn base outer s.heap kn)
  (ho : (hd.heap_1 w.params).lookup f = some ⟨oc, od, .func (fnOf name qual params body scope dV kV doc pm an cdv ct), osl⟩)
  (hcd : codeIn (hd.heap_1 w.params) cdv qual = true) (hdd : dd + 1 <= 880) (huu : 303 <= uu)
  (hbind : BindsTo s (fnOf name qual params body scope dV kV doc pm an cdv ct) args binds) (hloc : ∀ y ∈ binds, scope.names.lookup y.1 = some .local)
  (hnd : kn.Pairwise fun p q => p.1 ≠ q.1)
  (hEr : ∀ f, Er f -> ∀ h' tk' e t, FlyD base outer e (.int f t) (S ++ fr outer) s.heap h' -> R (.error (.ref e)) { s with heap := h', toks := tk' })
  (h : ∀ (c : Cf w) (z : Zs) (env : Env) (K : Flow -> Loc -> Led -> Prop), CfOk c (dd + 1) (uu - 3) -> EnvOk c z env scope.names -> ForOk c z env scope.names -> c.S = S -> (∀ f, Er f -> c.Er f) -> (∀ a, Fre c a -> s.heap.get? a = none) -> (∀ p ∈ kn, ¬ Fre c p.1) ->
   (∀ f m l, (∀ h' tk', Ex S s.heap l h' -> R (.ok (.ret (rv f))) { s with heap := h', toks := tk' }) -> K f m l) -> run c z env scope.names n body K ((lnames scope).map fun x => (x, binds.reverse.lookup x)) kn)
  (hco : scope.isCoroutine = false) (hgen : scope.isGenerator = false) (hk : scope.kind = .function)
  (hcell : ∀ x ∈ scope.names, x.2 ≠ .cell) (hdb : scope.names.lookup ("__debug__" : Str) = none) : codeS (model PW w) A (.call (.ref f) args) R s := by
 refine enterS kn B G hkn ho hcd (Nat.lt_of_lt_of_le hdp (Nat.le_trans (Nat.le_of_succ_le hdd) (by decide))) hbind hloc (fun g L' h₁ F N B' X T hg hL => ?_) hco hgen hk hcell
 refine (coreQ (cl := []) n G hh hdp hu hdd huu (fun p hp => (hkn p hp).1) ?_ hnd (fun _ hp => hp) hEr hk hdb F N B' X T hg hL fun c z env K hC V _ hf hS _ _ _ h1 h2 h3 h4 => h c z env K hC V hf hS h1 (fun a => (h2 a).mp) h3 h4)
 refine fm_map fun y hy => ?_
 cases q : binds.reverse.lookup y with
 | none => rfl
 | some v => exact absurd (mem_lnames (hloc _ (List.mem_reverse.mp (lookup_in q)))) hy
end
end
end
section
open PySem PySem.W PyProof.Rows PySem.Calls PySem.Spec
inductive Rp (d : Addr) (o o' : Obj) : Led -> Led -> Prop
 | head {r : Led} : Rp d o o' ((d, o) :: r) ((d, o') :: r)
 | tail {p : Addr × Obj} {r r' : Led} (h : Rp d o o' r r') : Rp d o o' (p :: r) (p :: r')
 | app {a r r' : Led} (h : Rp d o o' r r') : Rp d o o' (a ++ r) (a ++ r')
section
variable {d : Addr} {o o' : Obj} {l l' : Led}
theorem Rp.old (h : Rp d o o' l l') : (d, o) ∈ l := by
 induction h with
 | head => exact .head _
 | tail _ ih => exact .tail _ ih
 | app _ ih => exact List.mem_append_right _ ih
theorem Rp.new (h : Rp d o o' l l') : (d, o') ∈ l' := by
 induction h with
 | head => exact .head _
 | tail _ ih => exact .tail _ ih
 | app _ ih => exact List.mem_append_right _ ih
theorem Rp.addrs (h : Rp d o o' l l') : l'.map (·.1) = l.map (·.1) := by
 induction h with
 | head => rfl
 | tail _ ih => rw [List.map_cons, List.map_cons, ih]
 | app _ ih => rw [List.map_append, List.map_append, ih]
theorem Rp.fwd (h : Rp d o o' l l') : ∀ p ∈ l, p.1 ≠ d -> p ∈ l' := by
 induction h with
 | head => exact fun p hp hn => (List.mem_cons.mp hp).elim (fun e => absurd (by rw [e]) hn) (.tail _)
 | tail _ ih => exact fun p hp hn => (List.mem_cons.mp hp).elim (fun e => e ▸ .head _) fun z => .tail _ (ih p z hn)
 | app _ ih => exact fun p hp hn => (List.mem_append.mp hp).elim (List.mem_append_left _) fun z => List.mem_append_right _ (ih p z hn)
theorem Rp.bwd (h : Rp d o o' l l') (nd : l.Pairwise fun p q => p.1 ≠ q.1) : ∀ p ∈ l', p = (d, o') \/ (p ∈ l /\ p.1 ≠ d) := by
 induction h with
 | head =>
  refine fun p hp => (List.mem_cons.mp hp).elim .inl fun z => .inr ⟨.tail _ z, fun e => ?_⟩
  exact (List.pairwise_cons.mp nd).1 p z e.symm
 | tail h ih =>
  rename_i q r r'
  refine fun p hp => (List.mem_cons.mp hp).elim (fun e => .inr ⟨e ▸ .head _, fun e2 => ?_⟩) fun z => (ih (List.pairwise_cons.mp nd).2 p z).imp id fun ⟨x, y⟩ => ⟨.tail _ x, y⟩
  exact (List.pairwise_cons.mp nd).1 _ h.old (e ▸ e2)
 | app h ih =>
  refine fun p hp => (List.mem_append.mp hp).elim (fun z => .inr ⟨List.mem_append_left _ z, fun e2 => ?_⟩) fun z => (ih (List.pairwise_append.mp nd).2.1 p z).imp id fun ⟨x, y⟩ => ⟨List.mem_append_right _ x, y⟩
  exact (List.pairwise_append.mp nd).2.2 p z _ h.old e2
theorem nd_map {l l' : Led} (e : l'.map (·.1) = l.map (·.1)) (nd : l.Pairwise fun p q => p.1 ≠ q.1) : l'.Pairwise fun p q => p.1 ≠ q.1 := by
 have h : (l.map (·.1)).Pairwise (· ≠ ·) := List.pairwise_map.mpr nd
 rw [<- e] at h
 exact List.pairwise_map.mp h
end
section
variable {w : World} {c : Cf w} {z : Zs} {m : Loc} {l l' : Led} {s : Shared} {d : Addr} {o o' : Obj} {h' : Heap} {tk : Nat}
theorem Rp.zed (h : Rp d o o' l l') : Rp d o o' (l ++ z.led) (l' ++ z.led) := by
 induction h with
 | head => exact .head
 | tail _ ih => exact .tail ih
 | app _ ih => rw [List.append_assoc, List.append_assoc]; exact .app ih
theorem At.k0 (y : At c z m l s) (k : Kp [] s.heap h') : At c z m l { s with heap := h', toks := tk } :=
 ⟨fr_kp0 y.fr k, news_kp0 y.nw k, y.nd, y.kn, by have := y.st; rw [this], y.ck, y.hd⟩
theorem At.put {new : Led} (y : At c z m l s) (U : Rp d o o' l l') (hM : d ∈ c.S \/ Fre c d) (hks : ∀ p ∈ c.kn, ¬ Fre c p.1) (k : Kp [d] s.heap h') (hd : h'.get? d = some o') (hn : ∀ p ∈ new, h'.get? p.1 = some p.2 /\ s.heap.get? p.1 = none) (nd : new.Pairwise fun p q => p.1 ≠ q.1) : At c z m (new ++ l') { s with heap := h', toks := tk } := by
 have U' := U.zed (z := z)
 have hmem := y.nw _ (List.mem_append_left z.led U.old)
 have nw1 : News c.g c.L h' (l' ++ z.led) := fun p hp => by
  rcases U'.bwd y.nd p hp with rfl | ⟨q, hne⟩
  ·exact ⟨hd, hmem.2⟩
  ·have := y.nw p q
   exact ⟨k.kp _ _ this.1 (fun e => hne (List.mem_singleton.mp e)), this.2⟩
 have hF := fr_kp y.fr k (fun a ha => by rw [List.mem_singleton.mp ha]; exact hmem.2.2) (fun e => hmem.2.1 (List.mem_singleton.mp e).symm)
 have hgn : ∀ p ∈ new, p.1 ≠ c.L /\ c.g.get? p.1 = none := fun p hp => by
  refine ⟨fun e => ?_, ?_⟩
  ·refine hideG ?_; intro PG9 hG9
   obtain ⟨oL, _, _, hL, _⟩ := y.fr.ns
   refine hG9 ?_; clear hG9 PG9
   have := (hn p hp).2
   rw [e, hL] at this; cases this
  ·cases q : c.g.get? p.1 with
   | none => rfl
   | some o => have := (hn p hp).2; rw [y.fr.keep _ _ q] at this; cases this
 refine ⟨hF, ?_, ?_, ?_, by have := y.st; rw [this], y.ck, y.hd⟩
 ·rw [List.append_assoc]
  exact fun p hp => (List.mem_append.mp hp).elim (fun q => ⟨(hn p q).1, hgn p q⟩) (nw1 p)
 ·rw [List.append_assoc]
  refine List.pairwise_append.mpr ⟨nd, nd_map U'.addrs y.nd, fun p hp q hq e => ?_⟩
  have h2 := (hn p hp).2
  have : q.1 ∈ (l ++ z.led).map (·.1) := by rw [<- U'.addrs]; exact List.mem_map_of_mem hq
  obtain ⟨r, hr, er⟩ := List.mem_map.mp this
  rw [e, <- er, (y.nw r hr).1] at h2; cases h2
 ·intro p hp
  rw [List.append_assoc]
  rcases y.kn p hp with q | ⟨q, o2, q2⟩
  ·by_cases e : p.1 = d
   ·rcases hM with hM | hM
    ·exact .inr ⟨e ▸ hM, o', List.mem_append_right _ (e ▸ U'.new)⟩
    ·exact absurd hM (e ▸ hks p hp)
   ·exact .inl (List.mem_append_right _ (U'.fwd p q e))
  ·refine .inr ⟨q, ?_⟩
   have : p.1 ∈ (l' ++ z.led).map (·.1) := by rw [U'.addrs]; exact List.mem_map.mpr ⟨_, q2, rfl⟩
   obtain ⟨r, hr, er⟩ := List.mem_map.mp this
   exact ⟨r.2, List.mem_append_right _ (er ▸ hr)⟩
theorem At.more {new : Led} (y : At c z m l s) (k : Kp [] s.heap h') (hn : ∀ p ∈ new, h'.get? p.1 = some p.2 /\ s.heap.get? p.1 = none) (nd : new.Pairwise fun p q => p.1 ≠ q.1) : At c z m (new ++ l) { s with heap := h', toks := tk } := by
 have nw1 : News c.g c.L h' (l ++ z.led) := news_kp0 y.nw k
 have hgn : ∀ p ∈ new, p.1 ≠ c.L /\ c.g.get? p.1 = none := fun p hp => by
  refine ⟨fun e => ?_, ?_⟩
  ·refine hideG ?_; intro PG9 hG9
   obtain ⟨oL, _, _, hL, _⟩ := y.fr.ns
   refine hG9 ?_; clear hG9 PG9
   have := (hn p hp).2
   rw [e, hL] at this; cases this
  ·cases q : c.g.get? p.1 with
   | none => rfl
   | some o => have := (hn p hp).2; rw [y.fr.keep _ _ q] at this; cases this
 refine ⟨fr_kp0 y.fr k, ?_, ?_, ?_, by have := y.st; rw [this], y.ck, y.hd⟩
 ·rw [List.append_assoc]
  exact fun p hp => (List.mem_append.mp hp).elim (fun q => ⟨(hn p q).1, hgn p q⟩) (nw1 p)
 ·rw [List.append_assoc]
  refine List.pairwise_append.mpr ⟨nd, y.nd, fun p hp q hq e => ?_⟩
  have h2 := (hn p hp).2
  rw [e, (y.nw q hq).1] at h2; cases h2
 ·intro p hp
  rw [List.append_assoc]
  exact (y.kn p hp).imp (List.mem_append_right _) fun ⟨q, o, q2⟩ => ⟨q, o, List.mem_append_right _ q2⟩
theorem At.new1 {D : Addr} {o : Obj} (y : At c z m l s) (F : Fr c.g c.L h' (z.mf m)) (N : News c.g c.L h' ((D, o) :: (l ++ z.led))) (lt : ∀ p ∈ l ++ z.led, p.1 < D) : At c z m ((D, o) :: l) { s with heap := h', toks := tk } :=
 ⟨F, N, List.pairwise_cons.mpr ⟨fun p hp e => Nat.lt_irrefl _ (by have := lt p hp; rw [<- e] at this; exact this), y.nd⟩, fun p hp => (y.kn p hp).imp (.tail _) fun ⟨q, o, q2⟩ => ⟨q, o, .tail _ q2⟩, by have := y.st; rw [this], y.ck, y.hd⟩
end
theorem CfOk.mono {w : World} {c : Cf w} {d u d' u' : Nat} (h : CfOk c d u) (hd : d <= d') (hu : u' <= u) : CfOk c d' u' :=
 ⟨h.bt, h.G, h.kin, h.top, h.bel0, h.fr0, h.bel, h.knn, h.hL, h.hh, Nat.lt_of_lt_of_le h.dp hd, Nat.lt_of_le_of_lt (Nat.add_le_add_left hu _) h.un, h.hg, h.hks, h.up, h.er⟩
theorem CfOk.mo {w : World} {c : Cf w} {d u d' u' : Nat} (h : CfOk c d u) (k : (Nat.ble d d' && Nat.ble u' u) = true) : CfOk c d' u' :=
 h.mono (Nat.le_of_ble_eq_true (Bool.and_eq_true_iff.mp k).1) (Nat.le_of_ble_eq_true (Bool.and_eq_true_iff.mp k).2)
theorem mR {a : Addr × Obj} {l r : Led} (h : a ∈ r) : a ∈ l ++ r := List.mem_append_right _ h
theorem mL {a : Addr × Obj} {l r : Led} (h : a ∈ l) : a ∈ l ++ r := List.mem_append_left _ h
theorem lkc {env : Env} {cs : List (Str × Addr)} {y : Str} {a : Addr} (h : env.cells = cs) (e : cs.lookup y = some a) : env.cells.lookup y = some a := h ▸ e
theorem CfOk.kp {w : World} {c : Cf w} {z : Zs} {m : Loc} {l : Led} {s : Shared} {d u : Nat} (h : CfOk c d u) (y : At c z m l s) : Kp c.S c.s.heap s.heap :=
 exitKp h.hg h.hks y.fr y.nw y.kn
theorem CfOk.nof {w : World} {c : Cf w} {d u : Nat} (h : CfOk c d u) : ∀ p ∈ c.kn, ¬ Fre c p.1 := fun p hp e => by
 have := h.hks p hp; rw [show c.s.heap.get? p.1 = none from e] at this; cases this
theorem CfOk.fre {w : World} {c : Cf w} {z : Zs} {m : Loc} {l : Led} {s : Shared} {d u : Nat} {a : Addr} (h : CfOk c d u) (y : At c z m l s) (e : s.heap.get? a = none) : Fre c a := (h.kp y).fresh e
theorem CfOk.fre1 {w : World} {c : Cf w} {z : Zs} {m : Loc} {l : Led} {s : Shared} {d u : Nat} {D : Addr} {o : Obj} (h : CfOk c d u) {h' : Heap} {r : Led} (y : At c z m l s) (N : News c.g c.L h' ((D, o) :: r)) (lt : ∀ p ∈ l ++ z.led, p.1 < D) : Fre c D := by
 cases q : c.s.heap.get? D with
 | none => exact q
 | some o' =>
  exfalso
  have n := (N _ (.head _)).2.2
  by_cases hk : D ∈ c.kn.map (·.1)
  ·obtain ⟨p, hp, e⟩ := List.mem_map.mp hk
   have : ∃ r ∈ l ++ z.led, r.1 = D := by
    rcases y.kn p hp with x | ⟨_, o2, x⟩
    ·exact ⟨_, x, e⟩
    ·exact ⟨_, x, e⟩
   obtain ⟨r, hr, er⟩ := this
   exact Nat.lt_irrefl _ (by have := lt r hr; rw [er] at this; exact this)
  ·rw [h.hg _ _ q hk] at n; cases n
end
section
open PySem PySem.W PyProof.Rows PySem.Calls PySem.Spec
section
variable {d : Addr} {o o' : Obj} {l l' : Led}
theorem upd_app {d : Addr} {o o' : Obj} {r r' : Led} : ∀ {a : Led}, (∀ p ∈ a, p.1 ≠ d) -> Upd d o o' r r' -> Upd d o o' (a ++ r) (a ++ r')
 | [], _, h => h
 | p :: a, hn, h => .tail (hn p (.head _)) (upd_app (fun q hq => hn q (.tail _ hq)) h)
theorem Rp.upd (h : Rp d o o' l l') (nd : l.Pairwise fun p q => p.1 ≠ q.1) : Upd d o o' l l' := by
 induction h with
 | head => exact .head fun p hp => ((List.pairwise_cons.mp nd).1 p hp).symm
 | tail h ih => exact .tail ((List.pairwise_cons.mp nd).1 _ h.old) (ih (List.pairwise_cons.mp nd).2)
 | app h ih => exact upd_app (fun p hp => (List.pairwise_append.mp nd).2.2 p hp _ h.old) (ih (List.pairwise_append.mp nd).2.1)
theorem updF_ap {d : Addr} {o : Obj} {r : Led} {g : Obj -> Led} : ∀ {a : Led}, (∀ p ∈ a, p.1 ≠ d) -> UpdF d o r g -> UpdF d o (a ++ r) (fun o' => a ++ g o')
 | [], _, h => h
 | p :: a, hn, h => .tail (hn p (.head _)) (updF_ap (fun q hq => hn q (.tail _ hq)) h)
theorem Rp.updF (h : Rp d o o' l l') (nd : l.Pairwise fun p q => p.1 ≠ q.1) : ∃ g, UpdF d o l g /\ ∀ o2, (d, o2) ∈ g o2 /\ ∀ p ∈ l, p.1 ≠ d -> p ∈ g o2 := by
 induction h with
 | head =>
  rename_i r
  exact ⟨_, .head fun p hp => ((List.pairwise_cons.mp nd).1 p hp).symm, fun o2 => ⟨.head _, fun p hp hn => (List.mem_cons.mp hp).elim (fun e => absurd (by rw [e]) hn) (.tail _)⟩⟩
 | tail h ih =>
  obtain ⟨g, U, k⟩ := ih (List.pairwise_cons.mp nd).2
  exact ⟨_, .tail ((List.pairwise_cons.mp nd).1 _ h.old) U, fun o2 => ⟨.tail _ (k o2).1, fun p hp hn => (List.mem_cons.mp hp).elim (fun e => e ▸ .head _) fun q => .tail _ ((k o2).2 p q hn)⟩⟩
 | app h ih =>
  obtain ⟨g, U, k⟩ := ih (List.pairwise_append.mp nd).2.1
  exact ⟨_, updF_ap (fun p hp => (List.pairwise_append.mp nd).2.2 p hp _ h.old) U, fun o2 => ⟨List.mem_append_right _ (k o2).1, fun p hp hn => (List.mem_append.mp hp).elim (List.mem_append_left _) fun q => List.mem_append_right _ ((k o2).2 p q hn)⟩⟩
end
section
variable {w : World} {c : Cf w} {z : Zs} {m : Loc} {l l' : Led} {s : Shared} {d : Addr} {o o' : Obj} {h' : Heap} {tk : Nat} {dn un : Nat}
theorem At.upd (y : At c z m l s) (hC : CfOk c dn un) (U : Rp d o o' l l') (hM : d ∈ c.S \/ Fre c d) (F : Fr c.g c.L h' (z.mf m)) (hd : h'.get? d = some o') (hr : ∀ p ∈ l ++ z.led, p.1 ≠ d -> h'.get? p.1 = some p.2) : At c z m l' { s with heap := h', toks := tk } := by
 have U' := U.zed (z := z)
 have hmem := y.nw _ (List.mem_append_left z.led U.old)
 refine ⟨F, fun p hp => ?_, nd_map U'.addrs y.nd, fun p hp => ?_, by have := y.st; rw [this], y.ck, y.hd⟩
 ·rcases U'.bwd y.nd p hp with rfl | ⟨q, hne⟩
  ·exact ⟨hd, hmem.2⟩
  ·exact ⟨hr p q hne, (y.nw p q).2⟩
 ·rcases y.kn p hp with q | ⟨q, o2, q2⟩
  ·by_cases e : p.1 = d
   ·rcases hM with hM | hM
    ·exact .inr ⟨e ▸ hM, o', e ▸ U'.new⟩
    ·exact absurd hM (e ▸ hC.nof p hp)
   ·exact .inl (U'.fwd p q e)
  ·refine .inr ⟨q, ?_⟩
   have : p.1 ∈ (l' ++ z.led).map (·.1) := by rw [U'.addrs]; exact List.mem_map.mpr ⟨_, q2, rfl⟩
   obtain ⟨r, hr, er⟩ := List.mem_map.mp this
   exact ⟨r.2, er ▸ hr⟩
theorem At.updN (y : At c z m l s) (hC : CfOk c dn un) (U : Rp d o o' l l') (hM : d ∈ c.S \/ Fre c d) (F : Fr c.g c.L h' (z.mf m)) (N : News c.g c.L h' (l' ++ z.led)) : At c z m l' { s with heap := h', toks := tk } :=
 y.upd hC U hM F (N _ (List.mem_append_left _ U.new)).1 fun p hp hn => (N p ((U.zed (z := z)).fwd p hp hn)).1
theorem At.mem {x : Addr} {ox : Obj} (_ : At c z m l s) (h : (x, ox) ∈ l) : (x, ox) ∈ l ++ z.led := List.mem_append_left _ h
end
noncomputable def atab : List (Nat × Str) := [(170, ("data" : Str)), (170, ("at" : Str)), (266, ("made" : Str)), (302, ("x" : Str)), (302, ("y" : Str)), (426, ("glyphs" : Str))]
noncomputable def mtab : List ((Nat × Str) × Nat) := [((170, ("need" : Str)), 106), ((170, ("number" : Str)), 113), ((170, ("u16" : Str)), 127), ((170, ("i16" : Str)), 134), ((170, ("rows" : Str)), 160), ((266, ("u16" : Str)), 207), ((266, ("i16" : Str)), 214), ((266, ("rows" : Str)), 242), ((266, ("add" : Str)), 249), ((266, ("octets" : Str)), 263), ((302, ("told" : Str)), 299)]
section
variable {w : World}
theorem atab_ok : ∀ p ∈ atab, plainGet (hd.heap_1 w.params) p.1 p.2 = true /\ hasDictIn (hd.heap_1 w.params) p.1 = true /\ findIn (hd.heap_1 w.params) (.ref p.1) p.2 = some none /\ noGet (hd.heap_1 w.params) none = true /\
  findIn (hd.heap_1 w.params) (.ref p.1) ("__setattr__" : Str) = some (some (.builtin "object.__setattr__")) /\ plainOver (hd.heap_1 w.params) p.1 = true /\ takerIn (hd.heap_1 w.params) p.1 p.2 = some none := by
 unfold atab
 repeat (refine List.forall_mem_cons.mpr ⟨⟨by kernel_rfl, by kernel_rfl, by kernel_rfl, by kernel_rfl, by kernel_rfl, by kernel_rfl, by kernel_rfl⟩, ?_⟩)
 exact fun _ h => absurd h List.not_mem_nil
theorem mtab_ok : ∀ p ∈ mtab, plainGet (hd.heap_1 w.params) p.1.1 p.1.2 = true /\ findIn (hd.heap_1 w.params) (.ref p.1.1) p.1.2 = some (some (.ref p.2)) /\ isFn (hd.heap_1 w.params) (.ref p.2) = true := by
 unfold mtab
 repeat (refine List.forall_mem_cons.mpr ⟨⟨by kernel_rfl, by kernel_rfl, by kernel_rfl⟩, ?_⟩)
 exact fun _ h => absurd h List.not_mem_nil
end
section
variable {w : World} {c : Cf w} {z : Zs} {m : Loc} {l l' : Led} {dn un : Nat}
theorem lenB_q {b : List UInt8} {t : Tok} {k : Value -> Loc -> Led -> Prop} (hb : b.length <= 1000000) (h : ∀ tk, k (.int b.length tk) m l) : WQ c z (call (.builtin "len") [.bytes b.toArray t] []) k m l :=
 .same fun _ _ _ q => len_bytes (by rw [List.size_toArray]; exact Nat.le_trans hb (by decide)) (q _ _ (by rw [List.size_toArray]; exact h _))
theorem nn1 {P : Addr × Obj -> Prop} : ∀ p ∈ ([] : Led), P p := fun _ h => absurd h List.not_mem_nil
theorem nn0 {P : Addr -> Prop} : ∀ a ∈ ([] : List Addr), P a := fun _ h => absurd h List.not_mem_nil
theorem nn2 {P : Prop} : P -> ([] : Led).Pairwise fun p q => p.1 ≠ q.1 := fun _ => .nil
theorem itemB_q {x : List UInt8} {i : Int} {t ui : Tok} {v s : Expr} {k : Value -> Loc -> Led -> Prop} (hb : x.length <= 1000000) (h0 : 0 <= i) (h1 : i < x.length)
  (h : ∀ tk, k (.int (x.getD i.toNat 0).toNat tk) m l) (hs : autoParam (∀ (o i : Value), subscripted s false o i = operate [o, i] (getItem o i)) rA) (hv : autoParam (∀ (o r : Value), letTemporaryGo v o r = pure ()) rA) : WQ c z (subscriptTail v s (.bytes x.toArray t) (.int i ui)) k m l :=
 .same fun _ _ _ q => bytes_item_K (Nat.le_trans hb (by decide)) h0 h1 rfl (q _ _ (h _)) (hs _ _) (hv _)
theorem attr_q {x C d : Addr} {es : List DictEntry} {n : Nat} {a : Str} {v : Value} {b : Bool} {k : Value -> Loc -> Led -> Prop} (hC : CfOk c dn un) (hx : (x, instObj C d) ∈ l) (hd : (d, dictOf es n) ∈ l) (ha : (C, a) ∈ atab) (hv : getL a es = some (some v)) (hh : handedIn v = true) (h : k v m l) :
  WQ c z (getAttr (.ref x) a b) k m l := by
 have t := atab_ok (w := w) _ ha
 exact .same fun s _ y q => get_own y.fr hC.kin (InstAt.of_news y.nw (y.mem hx) (y.mem hd)) t.1 t.2.1 t.2.2.1 t.2.2.2.1 hv hh (q _ _ h)
theorem meth_q {x C d f : Addr} {es : List DictEntry} {n : Nat} {a : Str} {pl : Sem Bool} {k : Value × List Value -> Loc -> Led -> Prop} (hC : CfOk c dn un) (hx : (x, instObj C d) ∈ l) (hd : (d, dictOf es n) ∈ l) (ha : mtab.lookup (C, a) = some f) (hv : getL a es = some none) (h : k (.ref f, [.ref x]) m l) :
  WQ c z (getMethod (.ref x) a pl) k m l := by
 have t := mtab_ok (w := w) _ (lookup_in ha)
 exact .same fun s _ y q => method_inst y.fr hC.kin (InstAt.of_news y.nw (y.mem hx) (y.mem hd)) t.1 t.2.1 t.2.2 hv (q _ _ h)
theorem setA_q {x C d : Addr} {es : List DictEntry} {n n' : Nat} {a : Str} {v : Value} {l1 : Tok -> Led} {k : Unit -> Loc -> Led -> Prop} (hC : CfOk c dn un) (hx : (x, instObj C d) ∈ l) (ha : (C, a) ∈ atab) (hg : (getL a es).isSome = true)
  (hp : ∀ t, ∃ es', (putL a (PyData.keyHash w.params a) (.str a t) v es, putN a es n) = (es', n') /\ es'.length <= 1000 /\ Rp d (dictOf es n) (dictOf es' n') l (l1 t)) (hM : d ∈ c.S \/ Fre c d) (h : ∀ t, k () m (l1 t)) :
  WQ c z (setAttr (.ref x) a v) k m l := by
 have t := atab_ok (w := w) _ ha
 refine .any fun s y => ?_
 refine hideG ?_; intro PG9 hG9
 obtain ⟨es', e1, e2, U⟩ := hp (s.toks + 1)
 refine hG9 ?_; clear hG9 PG9
 refine set_dict y.fr hC.kin y.nw (InstAt.of_news y.nw (y.mem hx) (y.mem U.old)) rfl t.2.2.2.2.1 t.2.2.2.2.2.1 t.2.2.2.2.2.2 t.2.1 hg e1 ((U.zed (z := z)).upd y.nd) e2 fun h' F N => ?_
 exact ⟨m, _, y.updN hC U hM F N, h _⟩
theorem newTup_q {vs : List Value} {k : Value -> Loc -> Led -> Prop} (hC : CfOk c dn un) (hs : vs.length <= 1000000) (h : ∀ D, Fre c D -> k (.ref D) m ((D, { cls := .type "tuple", data := .seq vs.toArray }) :: l)) : WQ c z (newTuple vs) k m l :=
 .any fun s y => kup_newTuple y.fr y.nw (fun D h' F N lt => ⟨m, _, y.new1 F N lt, h D (hC.fre1 y N lt)⟩) (by rw [sizeLine_eq]; exact Nat.le_trans hs (by decide))
theorem newList_q {vs : List Value} {k : Value -> Loc -> Led -> Prop} (hC : CfOk c dn un) (hs : vs.length <= 1000000) (h : ∀ D, Fre c D -> k (.ref D) m ((D, PySem.W.listOf vs.toArray 0) :: l)) : WQ c z (newList vs) k m l :=
 .any fun s y => newList_K y.fr y.nw (fun D h' F N lt => ⟨m, _, y.new1 F N lt, h D (hC.fre1 y N lt)⟩) (by rw [sizeLine_eq]; exact Nat.le_trans hs (by decide))
theorem code_q {f : Value} {vs : List Value} {k : Value -> Loc -> Led -> Prop} (h : ∀ s, At c z m l s -> codeAny (model PW w) c.A (.call f ⟨vs, []⟩) (fun r s' => match r with | .ok (.ret v) => ∃ m' l', At c z m' l' s' /\ k v m' l' | .ok _ => False | .error e => c.E e s') s) : WQ c z (call f vs []) k m l :=
 .any fun s y => wpAny_call (h s y)
theorem codeS_q {f : Value} {vs : List Value} {k : Value -> Loc -> Led -> Prop} (hb : c.b = true) (h : ∀ s, At c z m l s -> codeS (model PW w) c.A (.call f ⟨vs, []⟩) (fun r s' => match r with | .ok (.ret v) => ∃ m' l', At c z m' l' s' /\ k v m' l' | .ok _ => False | .error e => c.E e s') s) : WQ c z (call f vs []) k m l :=
 ⟨fun s y => wpG_S hb (wpS_call (h s y))⟩
end
section
variable {w : World} {c : Cf w} {z : Zs} {m : Loc} {l l1 : Led} {dn un : Nat}
variable {name qual : Str} {params : Arguments} {body : List Stmt} {scope : Scope} {dV kV doc pm cdv ct oc : Value} {an od : Option Addr} {osl : Array (Option Value)} {f : Addr} {args : Args} {binds : List (Str × Value)} {vs : List Value} {k : Value -> Loc -> Led -> Prop}
theorem enter0 (n : Nat) (kn : Led) (hC : CfOk c dn un) (hdd : dn + 1 <= 880) (huu : 303 <= un) (hkn : ∀ p ∈ kn, p ∈ l)
  (ho : (hd.heap_1 w.params).lookup f = some ⟨oc, od, .func (fnOf name qual params body scope dV kV doc pm an cdv ct), osl⟩)
  (hcd : codeIn (hd.heap_1 w.params) cdv qual = true)
  (hbind : ∀ s, (hd.heap_1 w.params).In s.heap -> BindsTo s (fnOf name qual params body scope dV kV doc pm an cdv ct) ⟨vs, []⟩ binds) (hloc : ∀ y ∈ binds, scope.names.lookup y.1 = some .local)
  (hnd : (l.Pairwise fun p q => p.1 ≠ q.1) -> kn.Pairwise fun p q => p.1 ≠ q.1)
  (h : ∀ (c' : Cf w) (z' : Zs) (env : Env) (K : Flow -> Loc -> Led -> Prop), CfOk c' (dn + 1) (un - 3) -> EnvOk c' z' env scope.names -> ForOk c' z' env scope.names -> c'.S = [] -> (∀ f, c.Er f -> c'.Er f) -> (∀ a, Fre c' a -> Fre c a) ->
   (∀ f m' l' new, (∀ p ∈ new, p ∈ l' /\ Fre c' p.1) -> (l'.Pairwise (fun p q => p.1 ≠ q.1) -> new.Pairwise fun p q => p.1 ≠ q.1) -> k (rv f) m (new ++ l) -> K f m' l') -> run c' z' env scope.names n body K ((lnames scope).map fun x => (x, binds.reverse.lookup x)) kn)
  (hco : scope.isCoroutine = false) (hgen : scope.isGenerator = false) (hk : scope.kind = .function)
  (hcell : ∀ x ∈ scope.names, x.2 ≠ .cell) (hdb : scope.names.lookup ("__debug__" : Str) = none) : WQ c z (call (.ref f) vs []) k m l := by
 refine codeS_q hC.bt fun s y => ?_
 have ndl : l.Pairwise fun p q => p.1 ≠ q.1 := (List.pairwise_append.mp y.nd).1
 refine enterQ n [] c.Er (hC.bel y.fr) hC.G hC.hh hC.dp hC.un (kn := kn) (fun p hp => hC.knn y.fr y.nw p (List.mem_append_left _ (hkn p hp))) ho hcd hdd huu (hbind s (hC.kin.keeps y.fr.keep)) hloc (hnd ndl)
  (fun f hf h' tk e t x => hC.er hf y (fun a ha => absurd ha List.not_mem_nil) x) (fun c' z' env K hC' V hf hS h1 h2 h3 hK => ?_) hco hgen hk hcell hdb
 refine h c' z' env K hC' V hf hS h1 (fun a ha => hC.fre y (h2 a ha)) fun fl m' l' new hn hnd2 hk => hK _ _ _ fun h' tk x => ?_
 exact ⟨m, _, y.more x.kp (fun p hp => ⟨x.at_ p (hn p hp).1, h2 _ (hn p hp).2⟩) (hnd2 x.nd), hk⟩
theorem enter1 (n : Nat) (kn : Led) {d : Addr} {o : Obj} (hC : CfOk c dn un) (hdd : dn + 1 <= 880) (huu : 303 <= un) (hkn : ∀ p ∈ kn, p ∈ l) (hM : d ∈ c.S \/ Fre c d) (hdl : (d, o) ∈ l)
  (ho : (hd.heap_1 w.params).lookup f = some ⟨oc, od, .func (fnOf name qual params body scope dV kV doc pm an cdv ct), osl⟩)
  (hcd : codeIn (hd.heap_1 w.params) cdv qual = true)
  (hbind : ∀ s, (hd.heap_1 w.params).In s.heap -> BindsTo s (fnOf name qual params body scope dV kV doc pm an cdv ct) ⟨vs, []⟩ binds) (hloc : ∀ y ∈ binds, scope.names.lookup y.1 = some .local)
  (hnd : (l.Pairwise fun p q => p.1 ≠ q.1) -> kn.Pairwise fun p q => p.1 ≠ q.1)
  (h : ∀ (c' : Cf w) (z' : Zs) (env : Env) (K : Flow -> Loc -> Led -> Prop), CfOk c' (dn + 1) (un - 3) -> EnvOk c' z' env scope.names -> ForOk c' z' env scope.names -> d ∈ c'.S -> (∀ f, c.Er f -> c'.Er f) -> (∀ a, Fre c' a -> Fre c a) ->
   (∀ f m' l' new o' l1, (∀ p ∈ new, p ∈ l' /\ Fre c' p.1) -> (l'.Pairwise (fun p q => p.1 ≠ q.1) -> new.Pairwise fun p q => p.1 ≠ q.1) -> (d, o') ∈ l' -> Rp d o o' l l1 -> k (rv f) m (new ++ l1) -> K f m' l') -> run c' z' env scope.names n body K ((lnames scope).map fun x => (x, binds.reverse.lookup x)) kn)
  (hco : scope.isCoroutine = false) (hgen : scope.isGenerator = false) (hk : scope.kind = .function)
  (hcell : ∀ x ∈ scope.names, x.2 ≠ .cell) (hdb : scope.names.lookup ("__debug__" : Str) = none) : WQ c z (call (.ref f) vs []) k m l := by
 refine codeS_q hC.bt fun s y => ?_
 have ndl : l.Pairwise fun p q => p.1 ≠ q.1 := (List.pairwise_append.mp y.nd).1
 refine enterQ n [d] c.Er (hC.bel y.fr) hC.G hC.hh hC.dp hC.un (kn := kn) (fun p hp => hC.knn y.fr y.nw p (List.mem_append_left _ (hkn p hp))) ho hcd hdd huu (hbind s (hC.kin.keeps y.fr.keep)) hloc (hnd ndl)
  (fun f hf h' tk e t x => hC.er hf y (fun a ha => by rw [List.mem_singleton.mp ha]; exact ⟨hM, o, hdl⟩) x) (fun c' z' env K hC' V hf hS h1 h2 h3 hK => ?_) hco hgen hk hcell hdb
 refine h c' z' env K hC' V hf (by rw [hS]; exact .head _) h1 (fun a ha => hC.fre y (h2 a ha)) fun fl m' l' new o' l1 hn hnd2 ho' U hk => hK _ _ _ fun h' tk x => ?_
 exact ⟨m, _, y.put U hM hC.nof x.kp (x.at_ _ ho') (fun p hp => ⟨x.at_ p (hn p hp).1, h2 _ (hn p hp).2⟩) (hnd2 x.nd), hk⟩
end
end
section
set_option tactic.hygienic false
open PySem PySem.W PyProof.Rows PySem.Calls PySem.Spec
section
variable {w : World} (c : Cf w) (z : Zs) (env : Env) (xn : Str) (body : List Stmt) (K : Flow -> Loc -> Led -> Prop)
noncomputable def QK (f : Flow) (s : Shared) : Prop := ∃ m l, At c z m l s /\ K f m l
noncomputable def ItQ (xv : Value) (m : Loc) (l : Led) : Prop := ∀ s, At c z m l s -> wpAny (model PW w) c.A (pyIter xv) (fun it s₂ => LoopS w c.A c.g env xn body (QK c z K) c.E it s₂) c.E s
noncomputable def TurnQ {X : Type} (mm : X -> Loc) (ll : X -> Led) (ok : X -> Prop) (f : Flow) (m : Loc) (l : Led) : Prop :=
 match f with
 | .ret v => K (.ret v) m l
 | .brk => K .next m l
 | _ => ∃ x, m = mm x /\ l = ll x /\ ok x
noncomputable def JQ {X : Type} (mm : X -> Loc) (ll : X -> Led) (ok : Nat -> X -> Prop) (i : Nat) (mf : Str -> Option Value) (nw : Led) : Prop :=
 ∃ x, ok i x /\ mf = fm (mm x) /\ nw = ll x ++ z.led /\ nw.Pairwise (fun p q => p.1 ≠ q.1) /\ ∀ p ∈ c.kn, p ∈ nw \/ (p.1 ∈ c.S /\ ∃ o, (p.1, o) ∈ nw)
end
section
variable {w : World} {c : Cf w} {z : Zs} {env : Env} {nms : List (Str × NameKind)} {xn : Str} {body : List Stmt} {K : Flow -> Loc -> Led -> Prop} {m : Loc} {l : Led} {d u : Nat} {s : Shared}
theorem At.hide {I : Addr} {oI : Obj} {mf : Str -> Option Value} {h : Heap} {tk : Nat} (hmf : z.mf m = mf) (hck : z.ck m) (hh : ∀ p ∈ c.hid, p ∈ z.led) (hst : s = { c.s with heap := s.heap, toks := s.toks }) (F : Fr c.g c.L h mf) (N : News c.g c.L h ((I, oI) :: (l ++ z.led))) (hI : AllNe I (l ++ z.led)) (nd : (l ++ z.led).Pairwise fun p q => p.1 ≠ q.1)
  (kn : ∀ p ∈ c.kn, p ∈ l ++ z.led \/ (p.1 ∈ c.S /\ ∃ o, (p.1, o) ∈ l ++ z.led)) : At c { z with led := (I, oI) :: z.led } m l { s with heap := h, toks := tk } := by
 have pm : (l ++ (I, oI) :: z.led).Perm ((I, oI) :: (l ++ z.led)) := List.perm_middle
 refine ⟨by show Fr _ _ _ (z.mf m); rw [hmf]; exact F, fun p hp => N p (pm.mem_iff.mp hp), (pm.pairwise_iff (fun h => h.symm)).mpr (List.pairwise_cons.mpr ⟨fun p hp => (allNe_mem hI p hp).symm, nd⟩), fun p hp => ?_, by rw [hst], hck, fun p hp => .tail _ (hh p hp)⟩
 exact (kn p hp).imp (fun q => pm.mem_iff.mpr (.tail _ q)) fun ⟨q, o, q2⟩ => ⟨q, o, pm.mem_iff.mpr (.tail _ q2)⟩
theorem At.unhide {I : Addr} {oI : Obj} (y : At c { z with led := (I, oI) :: z.led } m l s) (hI : ∀ p ∈ c.kn, p.1 ≠ I) (hh : ∀ p ∈ c.hid, p ∈ z.led) : At c z m l s := by
 have pm : (l ++ (I, oI) :: z.led).Perm ((I, oI) :: (l ++ z.led)) := List.perm_middle
 have nd := (pm.pairwise_iff (R := fun p q : Addr × Obj => p.1 ≠ q.1) (fun h => h.symm)).mp y.nd
 refine ⟨y.fr, fun p hp => y.nw p (pm.mem_iff.mpr (.tail _ hp)), (List.pairwise_cons.mp nd).2, fun p hp => ?_, y.st, y.ck, hh⟩
 rcases y.kn p hp with q | ⟨q, o, q2⟩
 ·rcases List.mem_cons.mp (pm.mem_iff.mp q) with e | q
  ·exact absurd (by rw [e]) (hI p hp)
  ·exact .inl q
 ·rcases List.mem_cons.mp (pm.mem_iff.mp q2) with e | q2
  ·exact absurd (congrArg (·.1) e) (hI p hp)
  ·exact .inr ⟨q, o, q2⟩
theorem At.off {I : Addr} {oI : Obj} (y : At c { z with led := (I, oI) :: z.led } m l s) : AllNe I (l ++ z.led) := by
 have pm : (l ++ (I, oI) :: z.led).Perm ((I, oI) :: (l ++ z.led)) := List.perm_middle
 have nd := (pm.pairwise_iff (R := fun p q : Addr × Obj => p.1 ≠ q.1) (fun h => h.symm)).mp y.nd
 exact allNe_of fun p hp => ((List.pairwise_cons.mp nd).1 p hp).symm
section
variable {X : Type} {mm : X -> Loc} {ll : X -> Led} {ok : Nat -> X -> Prop} {n : Nat} {P : Nat -> Value -> Prop}
theorem stepQ (hC : CfOk c d u) (hf : ForOk c z env nms) (y : At c z m l s) (step : ∀ i v x z1, i < n -> P i v -> (∀ p ∈ z.led, p ∈ z1) -> ok i x -> WQ c { z with led := z1 } (execs body env) (TurnQ K mm ll (ok (i + 1))) (up (mm x) xn v) (ll x)) :
  LStep w c.A c.g env xn body (QK c z K) c.E s n P (JQ c z mm ll ok) := by
 intro i v m₁ nw I h tk oI hi hP hz109 hI F N
 refine hideG ?_; intro PG9 hG9
 obtain ⟨x, hok, rfl, rfl, nd, kn⟩ := hz109
 refine hG9 ?_; clear hG9 PG9
 rw [hf.lo] at F N ⊢
 have hkI : ∀ p ∈ c.kn, p.1 ≠ I := fun p hp => by
  rcases kn p hp with q | ⟨_, o, q⟩
  ·exact allNe_mem hI p q
  ·exact allNe_mem hI (p.1, o) q
 have yA : At c { z with led := (I, oI) :: z.led } (up (mm x) xn v) (ll x) { s with heap := h, toks := tk } := At.hide (by rw [hf.mf]; exact fm_up) (hf.ck _) y.hd y.st F N hI nd kn
 refine wpS_mono (toS ((step i v x ((I, oI) :: z.led) hi hP (fun _ h => .tail _ h) hok).run _ yA)) (fun f s' ⟨m', l', y', t⟩ => ?_) fun _ _ e => e
 have fin : (∃ x, m' = mm x /\ l' = ll x /\ ok (i + 1) x) -> TurnEnd c.g c.L I oI (JQ c z mm ll ok (i + 1)) { s with heap := h, toks := tk } s' := by
  intro hz09
  refine hideG ?_; intro PG9 hG9
  obtain ⟨x', rfl, rfl, hok'⟩ := hz09
  refine hG9 ?_; clear hG9 PG9
  have pm : (ll x' ++ (I, oI) :: z.led).Perm ((I, oI) :: (ll x' ++ z.led)) := List.perm_middle
  have y2 := y'.unhide hkI y.hd
  refine ⟨s'.heap, s'.toks, fm (mm x'), ll x' ++ z.led, ?_, ?_, fun p hp => y'.nw p (pm.mem_iff.mpr hp), y'.off, x', hok', rfl, rfl, y2.nd, y2.kn⟩
  ·have e1 := y'.st
   have e2 := y.st
   rw [e1, e2]
  ·have := y'.fr
   have e : z.mf (mm x') = fm (mm x') := by rw [hf.mf]
   rw [<- e]; exact this
 cases f with
 | ret v => exact ⟨m', l', y'.unhide hkI y.hd, t⟩
 | brk => exact ⟨m', l', y'.unhide hkI y.hd, t⟩
 | next => exact fin t
 | cont => exact fin t
theorem doneQ (hf : ForOk c z env nms) (y : At c z m l s) (done : ∀ x, ok n x -> K .next (mm x) (ll x)) : ∀ h' tk m' nw, JQ c z mm ll ok n m' nw -> Fr c.g env.locals h' m' -> News c.g env.locals h' nw -> QK c z K .next { s with heap := h', toks := tk } := by
 intro h' tk m' nw hz49 F N
 refine hideG ?_; intro PG9 hG9
 obtain ⟨x, hok, rfl, rfl, nd, kn⟩ := hz49
 refine hG9 ?_; clear hG9 PG9
 rw [hf.lo] at F N
 exact ⟨mm x, ll x, ⟨by rw [hf.mf]; exact F, N, nd, kn, by have := y.st; rw [this], hf.ck _, y.hd⟩, done x hok⟩
theorem j0Q (hf : ForOk c z env nms) (y : At c z m l s) {x0 : X} (hm : m = mm x0) (hl : l = ll x0) (h0 : ok 0 x0) : JQ c z mm ll ok 0 (z.mf m) (l ++ z.led) := by
 subst hm hl
 exact ⟨x0, h0, by rw [hf.mf], rfl, y.nd, y.kn⟩
theorem itList_q (hC : CfOk c d u) (hf : ForOk c z env nms) {ax : Addr} {vs : List Value} {nn : Nat} (mm : X -> Loc) (ll : X -> Led) (ok : Nat -> X -> Prop) (x0 : X) (hm : m = mm x0) (hl : l = ll x0) (h0 : ok 0 x0) (hsrc : ∀ x, (ax, PySem.W.listOf vs.toArray nn) ∈ ll x)
  (step : ∀ i v x z1, vs[i]? = some v -> (∀ p ∈ z.led, p ∈ z1) -> ok i x -> WQ c { z with led := z1 } (execs body env) (TurnQ K mm ll (ok (i + 1))) (up (mm x) xn v) (ll x)) (done : ∀ x, ok vs.length x -> K .next (mm x) (ll x)) : ItQ c z env xn body K (.ref ax) m l := fun s y => by
 have F := y.fr
 have N := y.nw
 rw [<- hf.lo] at F N
 exact loop_listS hC.hh (y.mem (hl ▸ hsrc x0)) rfl rfl F N (JQ c z mm ll ok) (fun i m nw ⟨x, _, _, e, _⟩ => by rw [e]; exact List.mem_append_left _ (hsrc x)) (j0Q hf y hm hl h0)
  (stepQ hC hf y fun i v x z1 _ => step i v x z1) (doneQ hf y done)
theorem itTup_q (hC : CfOk c d u) (hf : ForOk c z env nms) {ax : Addr} {vs : List Value} {nn : Nat} (mm : X -> Loc) (ll : X -> Led) (ok : Nat -> X -> Prop) (x0 : X) (hm : m = mm x0) (hl : l = ll x0) (h0 : ok 0 x0) (hsrc : ∀ x, (ax, ({ cls := .type "tuple", data := .seq vs.toArray nn } : Obj)) ∈ ll x)
  (step : ∀ i v x z1, vs[i]? = some v -> (∀ p ∈ z.led, p ∈ z1) -> ok i x -> WQ c { z with led := z1 } (execs body env) (TurnQ K mm ll (ok (i + 1))) (up (mm x) xn v) (ll x)) (done : ∀ x, ok vs.length x -> K .next (mm x) (ll x)) : ItQ c z env xn body K (.ref ax) m l := fun s y => by
 have F := y.fr
 have N := y.nw
 rw [<- hf.lo] at F N
 exact loop_tupS hC.hh (y.mem (hl ▸ hsrc x0)) rfl rfl F N (JQ c z mm ll ok) (fun i m nw ⟨x, _, _, e, _⟩ => by rw [e]; exact List.mem_append_left _ (hsrc x)) (j0Q hf y hm hl h0)
  (stepQ hC hf y fun i v x z1 _ => step i v x z1) (doneQ hf y done)
end
theorem for_q {iter : Expr} {px pos : Pos} (hC : CfOk c d u) (V : EnvOk c z env nms) (hf : ForOk c z env nms) (hx : nms.lookup xn = some .local) (h : WQ c z (eval iter env) (fun xv m l => ItQ c z env xn body K xv m l) m l) (hs : autoParam (∀ x, foldedSetIterable iter env x = pure x) rA) :
  WQ c z (exec (.For (.Name xn px) iter body [] pos) env) K m l := by
 rw [arm_exec_For]
 refine .at_ (.bind (h.mono fun xv m l q => ?_))
 rw [hs]
 refine .bind (.pure (.at_ ⟨fun s y => ?_⟩))
 refine wpG_bind (wpG_any (wpAny_holding (wpAny_mono (q s y) (fun it s₂ h₂ => ?_) fun _ _ e => e)))
 refine hideG ?_; intro PG9 hG9
 obtain ⟨I, src, n, P, St, m, news, J, rfl, X⟩ := h₂
 refine hG9 ?_; clear hG9 PG9
 refine wpG_S hC.bt (wpS_runOwn (loopS_run X (by unfold Env.kindOf; rw [V.nm]; exact hx) (by rw [V.fn]; rfl) hf.po) ?_)
 have e := hC.hh
 unfold Around.mark
 rw [e]
 cases hA : c.A
 rw [hA] at e
 cases e
 rfl
theorem for_e {iter : Expr} {px pos : Pos} (hC : CfOk c d u) (V : EnvOk c z env nms) (hf : ForOk c z env nms) (hx : nms.lookup xn = some .local) (h : (et c z env nms 20).1 iter (ItQ c z env xn body K) m l) (hs : autoParam (∀ x, foldedSetIterable iter env x = pure x) rA) :
  WQ c z (exec (.For (.Name xn px) iter body [] pos) env) K m l := for_q hC V hf hx ((et_ok V hC 20).1 _ _ _ _ h) hs
theorem body_e0 {z1 : Led} {ss : List Stmt} (n : Nat) (hC : CfOk c d u) (hdd : d <= 880) (huu : 300 <= u) (V : EnvOk c z env nms) (hf : ForOk c z env nms) (hz : ∀ p ∈ z.led, p ∈ z1) (h : ∀ T : Flow -> Loc -> Led -> Prop, (∀ f m l, K f m l -> T f m l) -> run c { z with led := z1 } env nms n ss T m l) : WQ c { z with led := z1 } (execs ss env) K m l :=
 run_ok (V.shift z1 hz) (hf.shift z1) hC hdd huu n _ _ _ _ (h K fun _ _ _ h => h)
theorem el_e0 {x : Expr} {k : Value -> Loc -> Led -> Prop} (V : EnvOk c z env nms) (hC : CfOk c d u) (h : ∀ T : Value -> Loc -> Led -> Prop, (∀ v m l, k v m l -> T v m l) -> (et c z env nms 20).1 x T m l) : WQ c z (eval x env) k m l := (et_ok V hC 20).1 _ _ _ _ (h k fun _ _ _ h => h)
theorem body_e {X : Type} {mm : X -> Loc} {ll : X -> Led} {ok : X -> Prop} {z1 : Led} {ss : List Stmt} (n : Nat) (hC : CfOk c d u) (hdd : d <= 880) (huu : 300 <= u) (V : EnvOk c z env nms) (hf : ForOk c z env nms) (hz : ∀ p ∈ z.led, p ∈ z1)
  (h : ∀ T : Flow -> Loc -> Led -> Prop, (∀ x, ok x -> T .next (mm x) (ll x)) -> run c { z with led := z1 } env nms n ss T m l) : WQ c { z with led := z1 } (execs ss env) (TurnQ K mm ll ok) m l :=
 body_e0 n hC hdd huu V hf hz fun T hT => h T fun x hx => hT _ _ _ ⟨x, rfl, rfl, hx⟩
theorem el_e {X : Type} {ll : X -> Led} {ok : X -> Value -> Prop} {x : Expr} (V : EnvOk c z env nms) (hC : CfOk c d u) (h : ∀ T : Value -> Loc -> Led -> Prop, (∀ x1 y m', ok x1 y -> T y m' (ll x1)) -> (et c z env nms 20).1 x T m l) : WQ c z (eval x env) (fun y _ l' => ∃ x1, l' = ll x1 /\ ok x1 y) m l :=
 el_e0 V hC fun T hT => h T fun x1 y m' hx => hT _ _ _ ⟨x1, rfl, hx⟩
end
end
section
set_option tactic.hygienic false
open PySem PySem.W PyProof.Rows PySem.Calls PySem.Spec
theorem nd_pre {new r : Led} (h : (new ++ r).Pairwise fun p q => p.1 ≠ q.1) : new.Pairwise fun p q => p.1 ≠ q.1 := (List.pairwise_append.mp h).1
theorem nn3 {P : Addr × Obj -> Prop} {a : Addr × Obj} (h : P a) : ∀ p ∈ [a], P p := fun p hp => by rw [List.mem_singleton.mp hp]; exact h
theorem nn4 {P : Addr × Obj -> Prop} {a b : Addr × Obj} (h : P a) (k : P b) : ∀ p ∈ [a, b], P p := fun p hp => (List.mem_cons.mp hp).elim (fun e => e ▸ h) fun q => by rw [List.mem_singleton.mp q]; exact k
theorem nd_ne {a b : Addr} {oa ob : Obj} : ∀ {l : Led}, (l.Pairwise fun p q => p.1 ≠ q.1) -> (a, oa) ∈ l -> (b, ob) ∈ l -> oa ≠ ob -> a ≠ b
 | p :: r, nd, ha, hb, hn => by
  have h := List.pairwise_cons.mp nd
  rcases List.mem_cons.mp ha with e1 | ha
  ·rcases List.mem_cons.mp hb with e2 | hb
   ·exact absurd (by rw [<- e1] at e2; exact ((Prod.mk.inj e2).2).symm) hn
   ·have := h.1 _ hb; rw [<- e1] at this; exact this
  ·rcases List.mem_cons.mp hb with e2 | hb
   ·have := h.1 _ ha; rw [<- e2] at this; exact this.symm
   ·exact nd_ne h.2 ha hb hn
noncomputable abbrev tupQ (vs : List Value) (n : Nat) : Obj := { cls := .type "tuple", data := .seq vs.toArray n }
noncomputable abbrev rgO (a b c : Int) (t u v : Tok) : Obj := { cls := .type "range", data := .fields #[.int a t, .int b u, .int c v] }
section
variable {w : World} {c : Cf w} {z : Zs} {m : Loc} {l l1 : Led} {dn un : Nat} {D : Addr}
theorem lmApp_q {its : Array Value} {n : Nat} {pl : Sem Bool} {k : Value × List Value -> Loc -> Led -> Prop} (hx : (D, PySem.W.listOf its n) ∈ l) (h : k (.builtin "list.append", [.ref D]) m l) : WQ c z (getMethod (.ref D) "append" pl) k m l :=
 .same fun s _ y q => listMethod_K y.nw (y.mem hx) slot_list_append type_list_append (q _ _ h)
theorem lmExt_q {its : Array Value} {n : Nat} {pl : Sem Bool} {k : Value × List Value -> Loc -> Led -> Prop} (hx : (D, PySem.W.listOf its n) ∈ l) (h : k (.builtin "list.extend", [.ref D]) m l) : WQ c z (getMethod (.ref D) "extend" pl) k m l :=
 .same fun s _ y q => listMethod_K y.nw (y.mem hx) (.of (owner := "list") (n := "extend") (by rw [typeLookup_type, builtinLookup_eq_fast]; kernel_rfl) (by decide +kernel) (by decide +kernel) (by decide +kernel)
  (by first | exact .inl (by decide +kernel) | exact .inr (by decide +kernel)) (by rw [isSubtype_type]; kernel_rfl)) (by show builtinType _ = _; rw [builtinType_eq_fast]; kernel_rfl) (q _ _ h)
theorem app_q {ys : List Value} {n : Nat} {v : Value} {k : Value -> Loc -> Led -> Prop} (hC : CfOk c dn un) (U : Rp D (PySem.W.listOf ys.toArray n) (PySem.W.listOf (ys ++ [v]).toArray (n + 1)) l l1) (hM : D ∈ c.S \/ Fre c D) (hz : ys.length <= 1000000) (h : k .none m l1) : WQ c z (call (.builtin "list.append") [.ref D, v] []) k m l :=
 .any fun s y => append_K y.fr y.nw (by rw [List.push_toArray]; exact (U.zed (z := z)).upd y.nd) (fun h' F N => ⟨m, _, y.updN hC U hM F N, h⟩) (by rw [List.size_toArray, sizeLine_eq]; exact Nat.le_trans hz (by decide))
theorem ext_q {B : Addr} {ys zs : List Value} {n n2 : Nat} {l1 : Nat -> Led} {k : Value -> Loc -> Led -> Prop} (hC : CfOk c dn un) (U : ∀ n', Rp D (PySem.W.listOf ys.toArray n) (PySem.W.listOf (ys ++ zs).toArray n') l (l1 n')) (hB : (B, PySem.W.listOf zs.toArray n2) ∈ l) (hM : D ∈ c.S \/ Fre c D) (hz : ys.length + zs.length <= 1000000) (h : ∀ n', k .none m (l1 n')) : WQ c z (call (.builtin "list.extend") [.ref D, .ref B] []) k m l :=
 .any fun s y => by
  obtain ⟨g, UF, hg⟩ := ((U 0).zed (z := z)).updF y.nd
  refine extend_L y.fr y.nw UF (y.mem hB) hz fun h' n' F N => ⟨m, _, y.upd hC (U n') hM F (N _ (hg _).1).1 fun p hp hn => (N p ((hg _).2 p hp hn)).1, h n'⟩
theorem notin_q {t : Addr} {vs : List Value} {n : Nat} {ns : List Int} {x : Int} {u : Tok} {k : Value -> Loc -> Led -> Prop} (hx : (t, tupQ vs n) ∈ l) (hi : IntsAre vs ns) (h : k (.bool !(ns.any fun y => y == x)) m l) : WQ c z (compareOp .NotIn (.int x u) (.ref t)) k m l :=
 .same fun s _ y q => notin_tuple_ints (News.isTup y.nw (y.mem hx)) hi (q _ _ h)
theorem szl {n : Nat} (h : Nat.ble n 1000000 = true) : n <= 1000000 := Nat.le_of_ble_eq_true h
theorem notin3_q {t : Addr} {a b d x : Int} {ta tb td u : Tok} {n : Nat} {k : Value -> Loc -> Led -> Prop} (hx : (t, tupQ [.int a ta, .int b tb, .int d td] n) ∈ l) (h1 : x ≠ a -> x ≠ b -> x ≠ d -> k (.bool true) m l) (h2 : x = a \/ x = b \/ x = d -> k (.bool false) m l) : WQ c z (compareOp .NotIn (.int x u) (.ref t)) k m l :=
 notin_q (ns := [a, b, d]) hx (.cons _ _ (.cons _ _ (.cons _ _ .nil))) (by
  cases q : ([a, b, d].any fun y => y == x) with
  | true =>
   simp only [List.any_cons, List.any_nil, Bool.or_false, Bool.or_eq_true, beq_iff_eq] at q
   exact h2 (by omega)
  | false =>
   simp only [List.any_cons, List.any_nil, Bool.or_false, Bool.or_eq_false_iff, beq_eq_false_iff_ne] at q
   exact h1 (fun e => q.1 e.symm) (fun e => q.2.1 e.symm) fun e => q.2.2 e.symm)
theorem itemT_q {vs : List Value} {n : Nat} {i : Int} {u : Tok} {j : Nat} {v : Value} {ve sl : Expr} {k : Value -> Loc -> Led -> Prop} (hx : (D, tupQ vs n) ∈ l) (h0 : -2 ^ 63 <= i) (h1 : i < 2 ^ 63) (hj : seqIndex? i vs.length = some j) (hv : vs[j]? = some v) (h : k v m l)
  (hs : autoParam (∀ (o i : Value), subscripted sl false o i = operate [o, i] (getItem o i)) rA) : WQ c z (subscriptTail ve sl (.ref D) (.int i u)) k m l :=
 .same fun s _ y q => item_tupleT ⟨_, (y.nw _ (y.mem hx)).1, rfl, _, rfl⟩ h0 h1 hj hv (q _ _ h) (hs _ _)
theorem itemL_q {vs : List Value} {n : Nat} {i : Int} {u : Tok} {v : Value} {ve sl : Expr} {k : Value -> Loc -> Led -> Prop} (hx : (D, PySem.W.listOf vs.toArray n) ∈ l) (h0 : 0 <= i) (h1 : i < 2 ^ 63) (hv : vs[i.toNat]? = some v) (h : k v m l)
  (hs : autoParam (∀ (o i : Value), subscripted sl false o i = operate [o, i] (getItem o i)) rA) : WQ c z (subscriptTail ve sl (.ref D) (.int i u)) k m l :=
 .same fun s _ y q => seq_item y.nw (y.mem hx) rfl rfl hv h0 h1 (q _ _ h) (hs _ _)
theorem lenL_q {vs : List Value} {n : Nat} {k : Value -> Loc -> Led -> Prop} (hx : (D, PySem.W.listOf vs.toArray n) ∈ l) (hz : vs.length <= 1000000) (h : ∀ t, k (.int vs.length t) m l) : WQ c z (call (.builtin "len") [.ref D] []) k m l :=
 .same fun s _ y q => len_listN y.nw (y.mem hx) rfl rfl rfl hz fun t j => q _ _ (h t)
theorem lenT_q {vs : List Value} {k : Value -> Loc -> Led -> Prop} (hx : (D, ({ cls := .type "tuple", data := .seq vs.toArray } : Obj)) ∈ l) (hz : vs.length <= 1000000) (h : ∀ t, k (.int vs.length t) m l) : WQ c z (call (.builtin "len") [.ref D] []) k m l :=
 .same fun s _ y q => len_tupN y.nw (y.mem hx) rfl hz fun t j => q _ _ (h t)
theorem tupL_q {vs : List Value} {n : Nat} {k : Value -> Loc -> Led -> Prop} (hC : CfOk c dn un) (hx : (D, PySem.W.listOf vs.toArray n) ∈ l) (hz : vs.length <= 1000000) (h : ∀ T, Fre c T -> k (.ref T) m ((T, { cls := .type "tuple", data := .seq vs.toArray }) :: l)) : WQ c z (call (.type "tuple") [.ref D] []) k m l :=
 .any fun s y => tup_ofL y.fr y.nw (y.mem hx) rfl rfl hz fun T h' F N lt => ⟨m, _, y.new1 F N lt, h T (hC.fre1 y N lt)⟩
theorem dict_q {env : Env} {pos : Pos} {k : Value -> Loc -> Led -> Prop} (hC : CfOk c dn un) (h : ∀ d o, o.IsDictOf (intKind PW w) [] -> (d == sysModules) = false -> Fre c d -> k (.ref d) m ((d, o) :: l)) : WQ c z (eval (.Dict [] [] pos) env) k m l :=
 .any fun s y => newDict_K y.fr y.nw hC.top.nolimit fun d h' o F N lt ns _ _ hi _ => ⟨m, _, y.new1 F N lt, h d o hi ns (hC.fre1 y N lt)⟩
theorem dset_q {kvs : List (Int × Value)} {o : Obj} {i : Int} {ti : Tok} {v : Value} {l1 : Obj -> Led} {k : Unit -> Loc -> Led -> Prop} (hC : CfOk c dn un) (U : ∀ o', Rp D o o' l (l1 o')) (hd : o.IsDictOf (intKind PW w) kvs) (hM : D ∈ c.S \/ Fre c D) (hz : kvs.length <= 1000000)
  (h : ∀ o', o'.IsDictOf (intKind PW w) (stored kvs i v) -> k () m (l1 o')) : WQ c z (setItem (.ref D) (.int i ti) v) k m l :=
 .any fun s y => by
  obtain ⟨g, UF, hg⟩ := ((U o).zed (z := z)).updF y.nd
  exact kda_set (knd := intKind PW w) y.fr y.nw UF hd (intKind_is _ _ _ _) (by rw [sizeLine_eq]; exact Nat.le_trans hz (by decide)) fun h' o' F N hd' => ⟨m, _, y.upd hC (U o') hM F (N _ (hg _).1).1 fun p hp hn => (N p ((hg _).2 p hp hn)).1, h o' hd'⟩
theorem range1_q {n : Int} {t : Tok} {k : Value -> Loc -> Led -> Prop} (hC : CfOk c dn un) (h : ∀ r t1 u1 v1, Fre c r -> k (.ref r) m ((r, rgO 0 n 1 t1 u1 v1) :: l)) : WQ c z (call (.type "range") [.int n t] []) k m l :=
 .any fun s y => range1_rows y.fr y.nw fun h' tk t1 u1 v1 R F N up => ⟨m, _, y.more (new := [(s.heap.objs.size, rgO 0 n 1 t1 u1 v1)]) (.of up) (fun p hp => by rw [List.mem_singleton.mp hp]; exact ⟨R, none_ge (Nat.le_refl _)⟩) (.cons (fun _ h => absurd h List.not_mem_nil) .nil), h _ _ _ _ (hC.fre y (none_ge (Nat.le_refl _)))⟩
end
section
variable {w : World} {c : Cf w} {z : Zs} {env : Env} {nms : List (Str × NameKind)} {xn : Str} {body : List Stmt} {K : Flow -> Loc -> Led -> Prop} {m : Loc} {l : Led} {d u : Nat} {s : Shared} {X : Type}
theorem itRange_q (hC : CfOk c d u) (hf : ForOk c z env nms) {r : Addr} {b : Int} {t1 u1 v1 : Tok} {n : Nat} (hr : (r, rgO 0 b 1 t1 u1 v1) ∈ l) (hb : b = n) (hn : n <= 1000000) (mm : X -> Loc) (ll : X -> Led) (ok : Nat -> X -> Prop) (x0 : X) (hm : m = mm x0) (hl : l = ll x0) (h0 : ok 0 x0)
  (step : ∀ (i : Nat) t x z1, i < n -> (∀ p ∈ z.led, p ∈ z1) -> ok i x -> WQ c { z with led := z1 } (execs body env) (TurnQ K mm ll (ok (i + 1))) (up (mm x) xn (.int i t)) (ll x)) (done : ∀ x, ok n x -> K .next (mm x) (ll x)) : ItQ c z env xn body K (.ref r) m l := fun s y => by
 have F := y.fr
 have N := y.nw
 rw [<- hf.lo] at F N
 subst hb
 exact loop_rangeS hC.hh (y.nw _ (y.mem hr)).1 (small_one (by omega) (by omega) (by omega) (by omega)) (by rw [rs_one]; omega) F N (JQ c z mm ll ok) (j0Q hf y hm hl h0)
  (stepQ hC hf y fun i v x z1 hi ⟨t, e⟩ hz hok => by subst e; rw [show (0 : Int) + (i : Int) * 1 = i by omega]; exact step i t x z1 hi hz hok) (doneQ hf y done)
end
end
section
set_option tactic.hygienic false
open PySem PySem.W PyProof.Rows PySem.Calls PySem.Spec
section
variable {w : World} {A : Around} {s : Shared} {E : Value -> Shared -> Prop} {env : Env}
theorem comprehensionQ {e : Expr} {scope : Scope} {pos : Pos} {newAcc first : Sem Value} {g : Comprehension} {gs : List Comprehension} {cl : List (Str × Addr)} {Q : Value -> Shared -> Prop}
  (hcl : clausesOf e = g :: gs) (hs : ∀ x, foldedSetIterable g.iter env x = pure x) (hclos : closureFor scope env = pure cl)
  (hkind : scope.kind = .function) (hnames : ∀ x ∈ scope.names, x.2 = .local -> scope.names.lookup x.1 = some .local) (hm : A.mark none = A)
  (h : wpS (model PW w) A first (fun x s₁ => wpAny (model PW w) A (pyIter x) (fun it s₂ => wpAny (model PW w) A newAcc (fun acc s₃ =>
   wpAny (model PW w) A (newFunctionEnv scope env.globals cl [] env.qual none .none (some env)) (fun cenv s₄ =>
    codeS (model PW w) A (.compStart e 0 it acc { cenv with scope := relabel scope env }) (compPost (model PW w) A E none Q acc cenv.locals) s₄) E s₃) E s₂) E s₁) E s) :
  wpS (model PW w) A (comprehension e scope env pos newAcc false first none) Q E s := by
 unfold comprehension
 rw [hclos, hcl]
 refine wpS_bind (wpS_mono h (fun x s₁ h₁ => wpS_bindA (wpAny_standAt (wpS_bindA (wpAny_of_eq (hs x) (wpS_bindA (wpAny_holding (wpAny_mono h₁ (fun it s₂ h₂ => ?_) fun _ _ h' => h'))))))) fun _ _ h' => h')
 refine wpS_bindA (wpAny_mono h₂ (fun acc s₃ h₃ => wpS_bindA (wpAny_pure (wpS_bindA (wpAny_mono h₃ (fun cenv s₄ h₄ => ?_) fun _ _ h' => h')))) fun _ _ h' => h')
 dsimp only
 have hv : ∀ x ∈ (scope.names.filter fun x => (x.2 == .local || x.2 == .cell) && x.1 != (".0" : Str)).reverse, x.2 = .local ->
   Env.kindOf { cenv with scope := relabel scope env } x.1 = some .local := fun x hx hl => lookup_relabel_local (hnames x (List.mem_filter.mp (List.mem_reverse.mp hx)).1 hl)
 refine wpS_holding (wpS_bind (wpS_attempt (wpS_holding (wpS_run (codeS_mono (by rw [hm]; exact h₄) fun r s' hr => ?_)))))
 cases r with
 | ok f =>
  obtain ⟨m, hn, hr⟩ := hr
  exact wpS_any (wpAny_bind (wpAny_holding (wpAny_comp_letGo (cenv := { cenv with scope := relabel scope env }) hkind _ s' m hv hn fun h' m' _ hs' => wpAny_pure (hr h' hs'))))
 | error x =>
  obtain ⟨m, hn, hr⟩ := hr
  exact wpS_any (wpAny_bind (wpAny_holding (wpAny_comp_letGo (cenv := { cenv with scope := relabel scope env }) hkind _ s' m hv hn fun h' m' _ hs' => wpAny_mono (hr h' hs' _ rfl) (fun _ _ f => f.elim) fun _ _ y => y)))
end
section
variable {w : World} {A : Around} {s : Shared} {E : Value -> Shared -> Prop} {env : Env}
theorem comprehensionU {e : Expr} {scope : Scope} {pos : Pos} {newAcc first : Sem Value} {g : Comprehension} {gs : List Comprehension} {cl : List (Str × Addr)} {u : Value -> Sem Unit} {Q : Value -> Shared -> Prop}
  (hcl : clausesOf e = g :: gs) (hs : ∀ x, foldedSetIterable g.iter env x = pure x) (hclos : closureFor scope env = pure cl)
  (hkind : scope.kind = .function) (hnames : ∀ x ∈ scope.names, x.2 = .local -> scope.names.lookup x.1 = some .local) (hm : A.mark none = A)
  (h : wpS (model PW w) A first (fun x s₁ => wpAny (model PW w) A (pyIter x) (fun it s₂ => wpAny (model PW w) A newAcc (fun acc s₃ =>
   wpAny (model PW w) A (newFunctionEnv scope env.globals cl [] env.qual none .none (some env)) (fun cenv s₄ =>
    codeS (model PW w) A (.compStart e 0 it acc { cenv with scope := relabel scope env }) (compPost (model PW w) A E (some u) Q acc cenv.locals) s₄) E s₃) E s₂) E s₁) E s) :
  wpS (model PW w) A (comprehension e scope env pos newAcc false first (some u)) Q E s := by
 unfold comprehension
 rw [hclos, hcl]
 refine wpS_bind (wpS_mono h (fun x s₁ h₁ => wpS_bindA (wpAny_standAt (wpS_bindA (wpAny_of_eq (hs x) (wpS_bindA (wpAny_holding (wpAny_mono h₁ (fun it s₂ h₂ => ?_) fun _ _ h' => h'))))))) fun _ _ h' => h')
 show wpS _ _ (PySem.standAt _ >>= fun _ => newAcc >>= _) _ _ _
 refine wpS_bindA (wpAny_standAt (wpS_bindA (wpAny_mono h₂ (fun acc s₃ h₃ => wpS_bindA (wpAny_pure (wpS_bindA (wpAny_mono h₃ (fun cenv s₄ h₄ => ?_) fun _ _ h' => h')))) fun _ _ h' => h')))
 dsimp only
 have hv : ∀ x ∈ (scope.names.filter fun x => (x.2 == .local || x.2 == .cell) && x.1 != (".0" : Str)).reverse, x.2 = .local ->
   Env.kindOf { cenv with scope := relabel scope env } x.1 = some .local := fun x hx hl => lookup_relabel_local (hnames x (List.mem_filter.mp (List.mem_reverse.mp hx)).1 hl)
 have hv' : ∀ x ∈ (scope.names.filter fun x => (x.2 == .local || x.2 == .cell) && x.1 != (".0" : Str)).reverse.drop 1 ++ (scope.names.filter fun x => (x.2 == .local || x.2 == .cell) && x.1 != (".0" : Str)).reverse.take 1,
   x.2 = .local -> Env.kindOf { cenv with scope := relabel scope env } x.1 = some .local := fun x hx hl => by
  rcases List.mem_append.mp hx with h1 | h1
  ·exact hv x (List.mem_of_mem_drop h1) hl
  ·exact hv x (List.mem_of_mem_take h1) hl
 refine wpS_holding (wpS_bind (wpS_attempt (wpS_holding (wpS_run (codeS_mono (by rw [hm]; exact h₄) fun r s' hr => ?_)))))
 cases r with
 | ok f =>
  refine wpS_any (wpAny_bind (wpAny_rule (wpAny_bind (wpAny_holding (wpAny_mono hr (fun _ s'' hr' => ?_) fun _ _ h' => h')))))
  obtain ⟨m, hn, hr'⟩ := hr'
  exact wpAny_bind (wpAny_comp_letGo (cenv := { cenv with scope := relabel scope env }) hkind _ s'' m hv' hn fun h' m' _ hs' => wpAny_pure (hr' h' hs'))
 | error x =>
  obtain ⟨m, hn, hr⟩ := hr
  exact wpS_any (wpAny_bind (wpAny_holding (wpAny_comp_letGo (cenv := { cenv with scope := relabel scope env }) hkind _ s' m hv hn fun h' m' _ hs' => wpAny_mono (hr h' hs' _ rfl) (fun _ _ f => f.elim) fun _ _ y => y)))
end
theorem stq {s s0 : Shared} {h : Heap} {tk : Nat} (e : s = { s0 with heap := s.heap, toks := s.toks }) : ({ s with heap := h, toks := tk } : Shared) = { s0 with heap := h, toks := tk } := by rw [e]
theorem mark_none {A : Around} (h : A.handled = none) : A.mark none = A := by
 unfold Around.mark
 rw [h]
 cases A
 cases h
 rfl
section
variable {w : World} (c : Cf w) (z : Zs) (env : Env) (elt : Expr) (x : Str) (scope : Scope) (cl : List (Str × Addr)) (k : Value -> Loc -> Led -> Prop)
noncomputable def ErQ : Value -> Prop := fun atv => ∃ f t, atv = .int f t /\ c.Er f
noncomputable def ELQ (C : Addr) (s : Shared) (v : Value) (s' : Shared) : Prop := CompErr c.base c.env0 c.outer c.s.heap c.S (ErQ c) C s v s'
noncomputable def nmC (nms names : List (Str × NameKind)) : List (Str × NameKind) := names.map fun (n, k) => if (k == NameKind.free && (ScopeKind.function == ScopeKind.function) && nms.lookup n == some .cell) then (n, NameKind.cell) else (n, k)
noncomputable def JC {X : Type} (ll : X -> Led) (ok : Nat -> X -> List Value -> Prop) (i : Nat) (ys : List Value) (nw : Led) : Prop :=
 ∃ x, ok i x ys /\ nw = ll x ++ z.led /\ nw.Pairwise (fun p q => p.1 ≠ q.1) /\ ∀ p ∈ c.kn, p ∈ nw \/ (p.1 ∈ c.S /\ ∃ o, (p.1, o) ∈ nw)
noncomputable def FinW (m : Loc) (ys : List Value) (nw : Led) : Prop := ∃ l, nw = l ++ z.led /\ nw.Pairwise (fun p q => p.1 ≠ q.1) /\ (∀ p ∈ c.kn, p ∈ nw \/ (p.1 ∈ c.S /\ ∃ o, (p.1, o) ∈ nw)) /\ ∀ D, Fre c D -> k (.ref D) m ((D, LCg.lst ys) :: l)
noncomputable def ItC (EL : Addr -> Shared -> Value -> Shared -> Prop) (xv : Value) (m : Loc) (l : Led) : Prop := ∀ s, At c z m l s -> wpAny (model PW w) c.A (pyIter xv) (fun it s₂ => (∃ h, s₂ = { s with heap := h }) /\ CompAtS w c.A c.g c.L (z.mf m) env elt x scope cl EL
 (fun ys nw _ => FinW c z k m ys nw) it s₂) c.E s
end
noncomputable def CEr {w : World} (c : Cf w) (b : Bool) : Int -> Prop := match b with
 | true => c.Er
 | false => fun _ => False
noncomputable def CEL {w : World} (c : Cf w) (b : Bool) : Addr -> Shared -> Value -> Shared -> Prop := match b with
 | true => ELQ c
 | false => fun _ _ _ _ => False
section
variable {w : World} {c : Cf w} {z : Zs} {env : Env} {nms : List (Str × NameKind)} {elt : Expr} {x : Str} {scope : Scope} {cl : List (Str × Addr)} {k : Value -> Loc -> Led -> Prop} {m : Loc} {l : Led} {d u : Nat} {s : Shared}
theorem finW_at (hC : CfOk c d u) (y : At c z m l s) {ys : List Value} {nw : Led} {h : Heap} {tk : Nat} {D : Addr} (W : FinW c z k m ys nw) (F : Fr c.g c.L h (z.mf m)) (N : News c.g c.L h ((D, LCg.lst ys) :: nw)) (aD : AllNe D nw) : ∃ l', l' ++ z.led = (D, LCg.lst ys) :: nw /\ At c z m l' { s with heap := h, toks := tk } /\ k (.ref D) m l' := by
 refine hideG ?_; intro PG9 hG9
 obtain ⟨l', rfl, nd, kn, hk⟩ := W
 refine hG9 ?_; clear hG9 PG9
 refine ⟨(D, LCg.lst ys) :: l', rfl, ⟨F, N, .cons (fun p hp => (allNe_mem aD p hp).symm) nd, fun p hp => (kn p hp).imp (.tail _) fun ⟨q, o, q2⟩ => ⟨q, o, .tail _ q2⟩, stq y.st, y.ck, y.hd⟩, hk D ?_⟩
 show c.s.heap.get? D = none
 cases q : c.s.heap.get? D with
 | none => rfl
 | some o' =>
  exfalso
  have n := (N _ (.head _)).2.2
  by_cases hk : D ∈ c.kn.map (·.1)
  ·obtain ⟨p, hp, e⟩ := List.mem_map.mp hk
   rcases kn p hp with x | ⟨_, o2, x⟩
   ·exact allNe_mem aD p x e
   ·exact allNe_mem aD (p.1, o2) x e
  ·rw [hC.hg _ _ q hk] at n; cases n
theorem comp_q {iter : Expr} {px pos : Pos} (hC : CfOk c d u) (V : EnvOk c z env nms) (hf : ForOk c z env nms) (hclos : closureFor scope env = pure cl) (hcell : ∀ y ∈ scope.names, y.2 ≠ .cell) (hkind : scope.kind = .function)
  (hnames : ∀ y ∈ scope.names, y.2 = .local -> scope.names.lookup y.1 = some .local) (hx : scope.names.lookup x = some .local) (h : (et c z env nms 20).1 iter (ItC c z env elt x scope cl k (CEL c true)) m l) (hst : autoParam (∀ x, foldedSetIterable iter env x = pure x) rA) :
  WQ c z (eval (.ListComp elt [⟨.Name x px, iter, [], 0⟩] scope pos) env) k m l := by
 refine ⟨fun s y => wpG_S hC.bt ?_⟩
 rw [eval_ListComp]
 refine comprehensionQ rfl hst hclos hkind hnames (mark_none hC.hh) (wpS_mono (toS (((et_ok V hC 20).1 _ _ _ _ h).run s y)) (fun xv s₁ ⟨m1, l1, y1, q⟩ => ?_) fun _ _ e => e)
 refine wpAny_mono (q s₁ y1) (fun it s₂ h₂ => ?_) fun _ _ e => e
 refine hideG ?_; intro PG9 hG9
 obtain ⟨⟨hh2, rfl⟩, I, src, n, P, St, news, J, rfl, X⟩ := h₂
 refine hG9 ?_; clear hG9 PG9
 refine compJS_block X hcell hkind hx (fun D C h9 tk9 v s' _ hC0 hCL zz => ?_) ?_
 ·have hfr := hC.fr0
  have e0 := hf.ev
  subst e0
  refine compErr_out (s₂ := { s₁ with heap := h9, toks := tk9 }) hfr V.fr V.fr hC.hL (fun e atv h' tk p y2 => ?_) zz
  refine hideG ?_; intro PG9 hG9
  obtain ⟨f, t, rfl, hf9⟩ := p
  refine hG9 ?_; clear hG9 PG9
  exact hf.erX hf9 y2 ⟨h', tk, by show ({ s₁ with heap := h', toks := tk } : Shared) = _; rw [y1.st]⟩
 ·intro D C h tk m' ys news' F' N' o1 hn hC₀ hD₀ hCL hDL hCD offC hJ hl
  refine ⟨m', hn, fun h'' hs'' => ?_⟩
  obtain ⟨l', _, yy, kk⟩ := finW_at (tk := tk) hC y1 (X.fin ys news' h'' tk hJ hl) (F'.change hs'' hCL hC₀) (fun p hp => ⟨hs''.extBut _ _ (by
   rcases List.mem_cons.mp hp with rfl | hp
   ·exact Ne.symm hCD
   ·exact offC p hp) (N' p hp).1, (N' p hp).2⟩) o1
  exact ⟨_, l', yy, kk⟩
theorem comp0_q {iter : Expr} {px pos : Pos} (hC : CfOk c d u) (V : EnvOk c z env nms) (hclos : closureFor scope env = pure cl) (hcell : ∀ y ∈ scope.names, y.2 ≠ .cell) (hkind : scope.kind = .function)
  (hnames : ∀ y ∈ scope.names, y.2 = .local -> scope.names.lookup y.1 = some .local) (hx : scope.names.lookup x = some .local) (h : (et c z env nms 20).1 iter (ItC c z env elt x scope cl k (CEL c false)) m l) (hst : autoParam (∀ x, foldedSetIterable iter env x = pure x) rA) :
  WQ c z (eval (.ListComp elt [⟨.Name x px, iter, [], 0⟩] scope pos) env) k m l := by
 refine ⟨fun s y => wpG_S hC.bt ?_⟩
 rw [eval_ListComp]
 refine comprehensionQ rfl hst hclos hkind hnames (mark_none hC.hh) (wpS_mono (toS (((et_ok V hC 20).1 _ _ _ _ h).run s y)) (fun xv s₁ ⟨m1, l1, y1, q⟩ => ?_) fun _ _ e => e)
 refine wpAny_mono (q s₁ y1) (fun it s₂ h₂ => ?_) fun _ _ e => e
 refine hideG ?_; intro PG9 hG9
 obtain ⟨⟨hh2, rfl⟩, I, src, n, P, St, news, J, rfl, X⟩ := h₂
 refine hG9 ?_; clear hG9 PG9
 refine compJS_block X hcell hkind hx (fun D C h tk v s' _ hC0 hCL zz => zz.elim) ?_
 intro D C h tk m' ys news' F' N' o1 hn hC₀ hD₀ hCL hDL hCD offC hJ hl
 refine ⟨m', hn, fun h'' hs'' => ?_⟩
 obtain ⟨l', _, yy, kk⟩ := finW_at (tk := tk) hC y1 (X.fin ys news' h'' tk hJ hl) (F'.change hs'' hCL hC₀) (fun p hp => ⟨hs''.extBut _ _ (by
  rcases List.mem_cons.mp hp with rfl | hp
  ·exact Ne.symm hCD
  ·exact offC p hp) (N' p hp).1, (N' p hp).2⟩) o1
 exact ⟨_, l', yy, kk⟩
end
noncomputable def compC {w : World} (c : Cf w) (E' : Value -> Shared -> Prop) (Er' : Int -> Prop) (C : Addr) (oC : Obj) : Cf w := { c with E := E', Er := Er', hid := (C, oC) :: c.hid }
noncomputable def compZ (z : Zs) (m : Loc) (I C D : Addr) (oI oC oD : Obj) : Zs := ⟨(I, oI) :: (C, oC) :: (D, oD) :: z.led, fun _ => z.mf m, fun m2 => z.ck m /\ ∃ mm, LCg.NsObj oC mm /\ ∀ y v, fm m2 y = some v -> mm y = some v⟩
section
variable {w : World} {c : Cf w} {z : Zs} {env : Env} {nms : List (Str × NameKind)} {elt : Expr} {x : Str} {scope : Scope} {cl : List (Str × Addr)} {k : Value -> Loc -> Led -> Prop} {m : Loc} {l : Led} {d u : Nat} {s : Shared} {E' : Value -> Shared -> Prop} {Er' : Int -> Prop} {C I D : Addr} {oC oI oD : Obj}
theorem At.unC {z : Zs} (y : At (compC c E' Er' C oC) z m l s) : At c z m l s := ⟨y.fr, y.nw, y.nd, y.kn, y.st, y.ck, fun p hp => y.hd p (.tail _ hp)⟩
theorem cfOk_C (hC : CfOk c d u) (her : ∀ {f m z l s e t S1 h' tk}, Er' f -> At (compC c E' Er' C oC) z m l s -> (∀ a ∈ S1, (a ∈ c.S \/ c.s.heap.get? a = none) /\ ∃ o, (a, o) ∈ l) -> FlyD c.base c.out e (.int f t) (S1 ++ fr c.out) s.heap h' -> E' (.ref e) { s with heap := h', toks := tk }) : CfOk (compC c E' Er' C oC) d u :=
 ⟨hC.bt, hC.G, hC.kin, hC.top, hC.bel0, hC.fr0, hC.bel, hC.knn, hC.hL, hC.hh, hC.dp, hC.un, hC.hg, hC.hks, fun y => hC.up y.unC, her⟩
theorem envOk_C (hC : CfOk c d u) (V : EnvOk c z env nms) (hkind : scope.kind = .function) (hdb : (nmC nms scope.names).lookup ("__debug__" : Str) = none) : EnvOk (compC c E' Er' C oC) (compZ z m I C D oI oC oD) (compEnvC scope cl C env) (nmC nms scope.names) := by
 have hk : (compEnvC scope cl C env).scope.kind = .function := hkind
 have hn : (compEnvC scope cl C env).scope.names = nmC nms scope.names := by
  show scope.names.map _ = scope.names.map _
  unfold Env.kindOf
  rw [V.nm, V.fn]
 have kd : ∀ {y kk}, (nmC nms scope.names).lookup y = some kk -> (compEnvC scope cl C env).kindOf y = some kk := fun h => by unfold Env.kindOf; rw [hn]; exact h
 refine ⟨hn, hk, hdb, V.fr, V.gb, V.bb, fun {z1 m2 l s y pos v Q} hs a hl hv hd h => ?_, fun a hl hv hd h => LCgL.ld_global a.fr hC.kin hC.top hv h V.gb hk (kd hl) hd, fun a hl h1 h2 h3 hd h => LCgL.ld_built a.fr hC.kin hC.top h1 h2 h3 h V.gb V.bb hk (kd hl) hd, fun a hl hc hm hd hb h => kcf_cell a.nw hc (List.mem_append_left _ hm) hd h hk (kd hl) hb⟩
 refine hideG ?_; intro PG9 hG9
 obtain ⟨_, mm, ns, hmm⟩ := a.ck
 refine hG9 ?_; clear hG9 PG9
 exact LCgL.ld_own a.nw (List.mem_append_right _ (hs _ (.tail _ (.head _)))) ns (hmm _ _ hv) h hk (kd hl) hd
variable {X : Type} {ll : X -> Led} {ok : Nat -> X -> List Value -> Prop} {n : Nat} {P : Nat -> Value -> Prop} {EL : Addr -> Shared -> Value -> Shared -> Prop}
noncomputable def ElemQ {w : World} (c : Cf w) (d u : Nat) (nms : List (Str × NameKind)) (elt : Expr) (x : Str) (scope : Scope) (cl : List (Str × Addr)) (Er' : Int -> Prop) (ll : X -> Led) (ok : Nat -> X -> List Value -> Prop) (n : Nat) (P : Nat -> Value -> Prop) : Prop :=
 ∀ (i : Nat) (v : Value) (x0 : X) (ys : List Value) (c' : Cf w) (z' : Zs) (env' : Env), i < n -> P i v -> ok i x0 ys -> ys.length = i -> CfOk c' d u -> EnvOk c' z' env' (nmC nms scope.names) -> env'.cells = cl -> (∀ f, Er' f -> c'.Er f) -> c'.S = c.S -> (∀ a, Fre c' a -> Fre c a) -> (∀ a, Fre c a -> Fre c' a) ->
  WQ c' z' (eval elt env') (fun y _ l' => ∃ x1, l' = ll x1 /\ ok (i + 1) x1 (ys ++ [y])) [(x, some v)] (ll x0)
theorem cstepQ (hC : CfOk c d u) (V : EnvOk c z env nms) (hkind : scope.kind = .function) (hdb : (nmC nms scope.names).lookup ("__debug__" : Str) = none) (y : At c z m l s)
  (her : ∀ {C oC h tk f m1 z1 l1 s1 e t S1 h' tk'}, s.heap.get? C = none -> (∃ mC, LCg.NsObj oC mC) -> Er' f -> At (compC c (EL C { s with heap := h, toks := tk }) Er' C oC) z1 m1 l1 s1 -> (∀ a ∈ S1, (a ∈ c.S \/ c.s.heap.get? a = none) /\ ∃ o, (a, o) ∈ l1) -> FlyD c.base c.out e (.int f t) (S1 ++ fr c.out) s1.heap h' -> EL C { s with heap := h, toks := tk } (.ref e) { s1 with heap := h', toks := tk' })
  (step : ElemQ c d u nms elt x scope cl Er' ll ok n P) : CStepS w c.A c.g c.L (z.mf m) env elt x scope cl EL s n P (JC c z ll ok) := by
 intro i ys nw v I oI C oC D m₂ h tk hi hz139 hP hns hx hl hC0 F N aI aC aD hz249
 refine hideG ?_; intro PG9 hG9
 obtain ⟨x0, hok, rfl, nd, kn⟩ := hz139
 refine hG9 ?_; clear hG9 PG9
 obtain ⟨n1, n2, n3⟩ := hz249
 have hkI : ∀ p ∈ c.kn, p.1 ≠ I /\ p.1 ≠ C /\ p.1 ≠ D := fun p hp => by
  rcases kn p hp with q | ⟨_, o, q⟩
  ·exact ⟨allNe_mem aI p q, allNe_mem aC p q, allNe_mem aD p q⟩
  ·exact ⟨allNe_mem aI (p.1, o) q, allNe_mem aC (p.1, o) q, allNe_mem aD (p.1, o) q⟩
 have pm : ∀ (l : Led), (l ++ (compZ z m I C D oI oC (LCg.lst ys)).led).Perm ((I, oI) :: (C, oC) :: (D, LCg.lst ys) :: (l ++ z.led)) := fun l =>
  (List.perm_middle (l₁ := l) (l₂ := (C, oC) :: (D, LCg.lst ys) :: z.led)).trans (.cons _ ((List.perm_middle (l₁ := l) (l₂ := (D, LCg.lst ys) :: z.led)).trans (.cons _ List.perm_middle)))
 have sym : ∀ {p q : Addr × Obj}, p.1 ≠ q.1 -> q.1 ≠ p.1 := fun h => h.symm
 let c' := compC c (EL C { s with heap := h, toks := tk }) Er' C oC
 have yA : At c' (compZ z m I C D oI oC (LCg.lst ys)) [(x, some v)] (ll x0) { s with heap := h, toks := tk } := by
  refine ⟨F, fun p hp => N p ((pm _).mem_iff.mp hp), ((pm _).pairwise_iff sym).mpr (.cons (fun p hp => ?_) (.cons (fun p hp => ?_) (.cons (fun p hp => (allNe_mem aD p hp).symm) nd))), fun p hp => ?_, stq y.st, ⟨y.ck, m₂, hns, fun b v' e => ?_⟩, fun p hp => ?_⟩
  ·rcases List.mem_cons.mp hp with rfl | hp
   ·exact n1
   ·rcases List.mem_cons.mp hp with rfl | hp
    ·exact n2
    ·exact (allNe_mem aI p hp).symm
  ·rcases List.mem_cons.mp hp with rfl | hp
   ·exact n3
   ·exact (allNe_mem aC p hp).symm
  ·exact (kn p hp).imp (fun q => (pm _).mem_iff.mpr (.tail _ (.tail _ (.tail _ q)))) fun ⟨q, o, q2⟩ => ⟨q, o, (pm _).mem_iff.mpr (.tail _ (.tail _ (.tail _ q2)))⟩
  ·have e' : (if b = x then some v else none) = some v' := e
   split at e'
   ·rename_i hb; rw [hb, hx]; exact e'
   ·cases e'
  ·rcases List.mem_cons.mp hp with rfl | hp
   ·exact .tail _ (.head _)
   ·exact .tail _ (.tail _ (.tail _ (y.hd p hp)))
 have hC' : CfOk c' d u := cfOk_C hC (her hC0 ⟨_, hns⟩)
 have V' : EnvOk c' (compZ z m I C D oI oC (LCg.lst ys)) (compEnvC scope cl C env) (nmC nms scope.names) := envOk_C hC V hkind hdb
 refine wpS_mono (toS ((step i v x0 ys c' _ _ hi hP hok hl hC' V' rfl (fun _ h => h) rfl (fun _ h => h) (fun _ h => h)).run _ yA)) (fun yv s' ⟨m', l', y', x1, e1, hok'⟩ => ?_) fun _ _ e => e
 subst e1
 have nd2 := ((pm _).pairwise_iff sym).mp y'.nd
 have q1 := List.pairwise_cons.mp nd2
 have q2 := List.pairwise_cons.mp q1.2
 have q3 := List.pairwise_cons.mp q2.2
 refine ⟨s'.heap, s'.toks, ll x1 ++ z.led, ?_, y'.fr, fun p hp => y'.nw p ((pm _).mem_iff.mpr hp), allNe_of fun p hp => (q1.1 p (.tail _ (.tail _ hp))).symm, allNe_of fun p hp => (q2.1 p (.tail _ hp)).symm, allNe_of fun p hp => (q3.1 p hp).symm, x1, hok', rfl, q3.2, fun p hp => ?_⟩
 ·have e1 := y'.st
  have e2 := y.st
  rw [e1, e2]
  rfl
 ·have hk := hkI p hp
  have red : ∀ q : Addr × Obj, q.1 = p.1 -> q ∈ ll x1 ++ (compZ z m I C D oI oC (LCg.lst ys)).led -> q ∈ ll x1 ++ z.led := fun q hq h => by
   rcases List.mem_cons.mp ((pm _).mem_iff.mp h) with e | h
   ·exact absurd (hq ▸ congrArg (·.1) e) hk.1
   ·rcases List.mem_cons.mp h with e | h
    ·exact absurd (hq ▸ congrArg (·.1) e) hk.2.1
    ·rcases List.mem_cons.mp h with e | h
     ·exact absurd (hq ▸ congrArg (·.1) e) hk.2.2
     ·exact h
  exact (y'.kn p hp).imp (red p rfl) fun ⟨q, o, q2⟩ => ⟨q, o, red _ rfl q2⟩
theorem cfinQ (fin : ∀ x ys, ok n x ys -> ys.length = n -> ∀ D, Fre c D -> k (.ref D) m ((D, LCg.lst ys) :: ll x)) : ∀ ys nw, JC c z ll ok n ys nw -> ys.length = n -> FinW c z k m ys nw := by
 intro ys nw hz29 hl
 refine hideG ?_; intro PG9 hG9
 obtain ⟨x, hok, rfl, nd, kn⟩ := hz29
 refine hG9 ?_; clear hG9 PG9
 exact ⟨ll x, rfl, nd, kn, fin x ys hok hl⟩
theorem herQ (hC : CfOk c d u) (y : At c z m l s) {C : Addr} {oC : Obj} {h : Heap} {tk : Nat} {f : Int} {m1 : Loc} {z1 : Zs} {l1 : Led} {s1 : Shared} {e : Addr} {t : Tok} {S1 : List Addr} {h' : Heap} {tk' : Nat} (hC0 : s.heap.get? C = none) (hn : ∃ mC, LCg.NsObj oC mC) (hf : c.Er f)
  (y1 : At (compC c (ELQ c C { s with heap := h, toks := tk }) c.Er C oC) z1 m1 l1 s1) (hS : ∀ a ∈ S1, (a ∈ c.S \/ c.s.heap.get? a = none) /\ ∃ o, (a, o) ∈ l1) (x : FlyD c.base c.out e (.int f t) (S1 ++ fr c.out) s1.heap h') : ELQ c C { s with heap := h, toks := tk } (.ref e) { s1 with heap := h', toks := tk' } := by
 obtain ⟨mC, hns⟩ := hn
 have B := hC.bel y.fr
 have hCz : (C, oC) ∈ z1.led := y1.hd _ (.head _)
 refine ⟨e, .int f t, S1, s1.heap, h', tk', rfl, ?_, ⟨.none, x⟩, ⟨mC, hns.ns (y1.nw _ (List.mem_append_right _ hCz)).1⟩, fun hm => ?_, fun hm => ?_, ?_, (hC.kp y).fresh hC0, hC.kp y1.unC, fun a ha => (hS a ha).1, ⟨f, t, rfl, hf⟩, hC.up y1.unC⟩
 ·have e1 := y1.st
  have e2 := y.st
  rw [e1, e2]
  rfl
 ·obtain ⟨_, o, ho⟩ := hS C hm
  exact (List.pairwise_append.mp y1.nd).2.2 _ ho _ hCz rfl
 ·refine hideG ?_; intro PG9 hG9
  obtain ⟨_, o', ho, _⟩ := B.frames.mem hm
  refine hG9 ?_; clear hG9 PG9
  rw [hC0] at ho; cases ho
 ·cases q : c.base.get? C with
  | none => rfl
  | some o => have := B.stays _ _ q; rw [hC0] at this; cases this
theorem comp_rangeS {r : Addr} {a b c' : Int} {t u' v : Tok} {n : Nat} {A : Around} {h₀ : Heap} {L : Addr} {mf : Str -> Option Value} {news : Led} {E : Value -> Shared -> Prop} {Fin : List Value -> Led -> Shared -> Prop} (hh : A.handled = none) (hr : IsRange s.heap r a b c' t u' v) (hsm : Builtin.Range.small a b c' = true) (hn : Builtin.Range.rangeSize a b c' = (n : Int)) (hz : n <= sizeLine)
  (F : Fr h₀ L s.heap mf) (N : News h₀ L s.heap news) (J : Nat -> List Value -> Led -> Prop) (h0 : J 0 [] news)
  (step : CStepS w A h₀ L mf env elt x scope cl EL s n (fun i v => ∃ t, v = .int (a + (i : Int) * c') t) J)
  (fin : ∀ ys nw h tk, J n ys nw -> ys.length = n -> Fin ys nw { s with heap := h, toks := tk }) :
  wpAny (model PW w) A (pyIter (.ref r)) (fun it s₂ => (∃ h, s₂ = { s with heap := h }) /\ CompAtS w A h₀ L mf env elt x scope cl EL Fin it s₂) E s := by
 refine wpAny_pyIter_range hr hsm ⟨⟨_, rfl⟩, ?_⟩
 refine ⟨_, [], n, _, _, news, J, rfl, Walks.range hh s.heap.objs.size a c' n, hz, fun i h st => ⟨_, st⟩, ?_, (by show IsRangeIter _ _ _ _ _; rw [hn]; simpa using Heap.get?_push_size _ rfl),
  F.keeps fun _ _ e => Heap.get?_push_of_some _ e, N.grown fun _ _ e => Heap.get?_push_of_some _ e, fun p hp => Nat.ne_of_lt (Heap.lt_size (N p hp).1), Nat.ne_of_lt F.ns.lt, next_is_new F, (fun i ys nw hj p hp => nomatch hp), h0, ?_, ?_⟩
 ·intro i h h' o nw st e e' N' hs
  have st' : h.get? s.heap.objs.size = some _ := st
  show h'.get? s.heap.objs.size = some _
  rw [e', <- e]; exact st'
 ·intro i ys nw v oI C oC D m₂ h tk a1 a2 a3 a4 a5 a6 a7
  exact step i ys nw v _ oI C oC D m₂ h tk a1 a2 a3 a4 a5 a6 (freshC a7)
 ·intro ys nw h tk; exact fin ys nw h tk
theorem cstepB {b : Bool} (hC : CfOk c d u) (V : EnvOk c z env nms) (hkind : scope.kind = .function) (hdb : (nmC nms scope.names).lookup ("__debug__" : Str) = none) (y : At c z m l s) (step : ElemQ c d u nms elt x scope cl (CEr c b) ll ok n P) : CStepS w c.A c.g c.L (z.mf m) env elt x scope cl (CEL c b) s n P (JC c z ll ok) := by
 cases b with
 | true => exact cstepQ hC V hkind hdb y (fun h0 hn hf y1 hS x => herQ hC y h0 hn hf y1 hS x) step
 | false => exact cstepQ hC V hkind hdb y (fun h0 hn hf y1 hS x => hf.elim) step
theorem jc0 (y : At c z m l s) {x0 : X} (hl : l = ll x0) (h0 : ok 0 x0 []) : JC c z ll ok 0 [] (l ++ z.led) := by
 subst hl
 exact ⟨x0, h0, rfl, y.nd, y.kn⟩
theorem itcList_q {b : Bool} (hC : CfOk c d u) (V : EnvOk c z env nms) {ax : Addr} {vs : List Value} {nn : Nat} (ll : X -> Led) (ok : Nat -> X -> List Value -> Prop) (x0 : X) (hl : l = ll x0) (h0 : ok 0 x0 []) (hsrc : ∀ x, (ax, PySem.W.listOf vs.toArray nn) ∈ ll x) (hz : vs.length <= 1000000)
  (step : ElemQ c d u nms elt x scope cl (CEr c b) ll ok vs.length (fun i v => vs[i]? = some v)) (fin : ∀ x ys, ok vs.length x ys -> ys.length = vs.length -> ∀ D, Fre c D -> k (.ref D) m ((D, LCg.lst ys) :: ll x))
  (hkind : autoParam (scope.kind = .function) rA) (hdb : autoParam ((nmC nms scope.names).lookup ("__debug__" : Str) = none) rA) : ItC c z env elt x scope cl k (CEL c b) (.ref ax) m l := fun s y =>
 comp_seqS hC.hh (y.mem (hl ▸ hsrc x0)) (.inl rfl) rfl y.fr y.nw (JC c z ll ok) (fun i ys nw ⟨x, _, e, _⟩ => by rw [e]; exact List.mem_append_left _ (hsrc x)) (jc0 y hl h0) (by rw [sizeLine_eq]; exact Nat.le_trans hz (by decide)) (cstepB hC V hkind hdb y step) fun ys nw _ _ hj hl => cfinQ fin ys nw hj hl
theorem itcTup_q {b : Bool} (hC : CfOk c d u) (V : EnvOk c z env nms) {ax : Addr} {vs : List Value} {nn : Nat} (ll : X -> Led) (ok : Nat -> X -> List Value -> Prop) (x0 : X) (hl : l = ll x0) (h0 : ok 0 x0 []) (hsrc : ∀ x, (ax, tupQ vs nn) ∈ ll x) (hz : vs.length <= 1000000)
  (step : ElemQ c d u nms elt x scope cl (CEr c b) ll ok vs.length (fun i v => vs[i]? = some v)) (fin : ∀ x ys, ok vs.length x ys -> ys.length = vs.length -> ∀ D, Fre c D -> k (.ref D) m ((D, LCg.lst ys) :: ll x))
  (hkind : autoParam (scope.kind = .function) rA) (hdb : autoParam ((nmC nms scope.names).lookup ("__debug__" : Str) = none) rA) : ItC c z env elt x scope cl k (CEL c b) (.ref ax) m l := fun s y =>
 comp_seqS hC.hh (y.mem (hl ▸ hsrc x0)) (.inr rfl) rfl y.fr y.nw (JC c z ll ok) (fun i ys nw ⟨x, _, e, _⟩ => by rw [e]; exact List.mem_append_left _ (hsrc x)) (jc0 y hl h0) (by rw [sizeLine_eq]; exact Nat.le_trans hz (by decide)) (cstepB hC V hkind hdb y step) fun ys nw _ _ hj hl => cfinQ fin ys nw hj hl
theorem itcRange_q {b : Bool} (hC : CfOk c d u) (V : EnvOk c z env nms) {r : Addr} {hi : Int} {t1 u1 v1 : Tok} {n : Nat} (hr : (r, rgO 0 hi 1 t1 u1 v1) ∈ l) (hb : hi = n) (hz : n <= 1000000) (ll : X -> Led) (ok : Nat -> X -> List Value -> Prop) (x0 : X) (hl : l = ll x0) (h0 : ok 0 x0 [])
  (step : ElemQ c d u nms elt x scope cl (CEr c b) ll ok n (fun i v => ∃ t, v = .int (i : Nat) t)) (fin : ∀ x ys, ok n x ys -> ys.length = n -> ∀ D, Fre c D -> k (.ref D) m ((D, LCg.lst ys) :: ll x))
  (hkind : autoParam (scope.kind = .function) rA) (hdb : autoParam ((nmC nms scope.names).lookup ("__debug__" : Str) = none) rA) : ItC c z env elt x scope cl k (CEL c b) (.ref r) m l := fun s y => by
 subst hb
 refine comp_rangeS hC.hh (y.nw _ (y.mem hr)).1 (small_one (by omega) (by omega) (by omega) (by omega)) (by rw [rs_one]; omega) (by rw [sizeLine_eq]; exact Nat.le_trans hz (by decide)) y.fr y.nw (JC c z ll ok) (jc0 y hl h0) (cstepB (b := b) hC V hkind hdb y ?_) fun ys nw _ _ hj hl => cfinQ fin ys nw hj hl
 intro i v x0 ys c' z' env' hi ⟨t, e⟩
 subst e
 rw [show (0 : Int) + (i : Int) * 1 = i by omega]
 exact step i _ x0 ys c' z' env' hi ⟨t, rfl⟩
theorem assign_comp_q {iter : Expr} {px py pos spos : Pos} {yn : Str} {K : Flow -> Loc -> Led -> Prop} (hC : CfOk c d u) (V : EnvOk c z env nms) (hf : ForOk c z env nms) (hclos : closureFor scope env = pure cl) (hcell : ∀ y ∈ scope.names, y.2 ≠ .cell) (hkind : scope.kind = .function)
  (hnames : ∀ y ∈ scope.names, y.2 = .local -> scope.names.lookup y.1 = some .local) (hx : scope.names.lookup x = some .local) (hy : nms.lookup yn = some .local)
  (hsw : swapsWith (.ListComp elt [⟨.Name x px, iter, [], 0⟩] scope pos) (some (.Name yn py)) spos.line env = pure true)
  (h : (et c z env nms 20).1 iter (ItC c z env elt x scope cl (fun v m l => K .next (up m yn v) l) (CEL c true)) m l) (hst : autoParam (∀ x, foldedSetIterable iter env x = pure x) rA) :
  WQ c z (exec (.Assign [.Name yn py] (.ListComp elt [⟨.Name x px, iter, [], 0⟩] scope pos) spos) env) K m l := by
 refine ⟨fun s y => wpG_S hC.bt ?_⟩
 rw [exec_Assign_Name_used _ _ _ _ hsw]
 refine wpS_bindA (wpAny_standAt (wpS_bind ?_))
 show wpS _ c.A (do let _ <- comprehension (.ListComp elt [⟨.Name x px, iter, [], 0⟩] scope pos) scope env _ (newList []) false (eval iter env) (some (assign (.Name yn py) env))) _ _ s
 refine wpS_bind (wpS_mono (comprehensionU (u := assign (.Name yn py) env) (Q := fun _ s' => ∃ m' l', At c z m' l' s' /\ K .next m' l') rfl hst hclos hkind hnames (mark_none hC.hh) (wpS_mono (toS (((et_ok V hC 20).1 _ _ _ _ h).run s y)) (fun xv s₁ ⟨m1, l1, y1, q⟩ => ?_) fun _ _ e => e)) (fun _ s' hq => wpS_pure (wpS_pure hq)) fun _ _ e => e)
 refine wpAny_mono (q s₁ y1) (fun it s₂ h₂ => ?_) fun _ _ e => e
 refine hideG ?_; intro PG9 hG9
 obtain ⟨⟨hh2, rfl⟩, I, src, n, P, St, news, J, rfl, X⟩ := h₂
 refine hG9 ?_; clear hG9 PG9
 refine compJS_block X hcell hkind hx (fun D C h9 tk9 v s' _ hC0 hCL zz => ?_) ?_
 ·have hfr := hC.fr0
  have e0 := hf.ev
  subst e0
  refine compErr_out (s₂ := { s₁ with heap := h9, toks := tk9 }) hfr V.fr V.fr hC.hL (fun e atv h' tk p y2 => ?_) zz
  refine hideG ?_; intro PG9 hG9
  obtain ⟨f, t, rfl, hf9⟩ := p
  refine hG9 ?_; clear hG9 PG9
  exact hf.erX hf9 y2 ⟨h', tk, by show ({ s₁ with heap := h', toks := tk } : Shared) = _; rw [y1.st]⟩
 ·intro D C h tk m' ys news' F' N' o1 hn hC₀ hD₀ hCL hDL hCD offC hJ hl
  refine hideG ?_; intro PG9 hG9
  obtain ⟨l', el, yy, kk⟩ := finW_at (tk := tk) hC y1 (X.fin ys news' h tk hJ hl) F' N' o1
  refine hG9 ?_; clear hG9 PG9
  obtain ⟨oC, hgC, hnC⟩ := LCg.ns_obj hn
  have off : AllNe C (l' ++ z.led) := allNe_of fun p hp => by
   rw [el] at hp
   rcases List.mem_cons.mp hp with rfl | hp
   ·exact Ne.symm hCD
   ·exact offC p hp
  have yC : At c { z with led := (C, oC) :: z.led } m1 l' { s₁ with heap := h, toks := tk } :=
   At.hide rfl yy.ck yy.hd y1.st F' (fun p hp => by
    rcases List.mem_cons.mp hp with rfl | hp
    ·exact ⟨hgC, hCL, hC₀⟩
    ·exact yy.nw p hp) off yy.nd yy.kn
  refine wpAny_bind (wpAny_standAt (hf.st (z1 := (C, oC) :: z.led) yC hy fun s' y' => ?_))
  have pm : (l' ++ (C, oC) :: z.led).Perm ((C, oC) :: (l' ++ z.led)) := List.perm_middle
  have hkC : ∀ p ∈ c.kn, p.1 ≠ C := fun p hp => by
   rcases yy.kn p hp with q | ⟨_, o, q⟩
   ·exact allNe_mem off p q
   ·exact allNe_mem off (p.1, o) q
  have y2 := y'.unhide hkC yy.hd
  refine ⟨m', hnC.ns (y'.nw _ (pm.mem_iff.mpr (.head _))).1, fun h'' hs'' => ⟨_, l', ⟨y2.fr.change hs'' hCL hC₀, fun p hp => ⟨hs''.extBut _ _ (allNe_mem off p hp) (y2.nw p hp).1, (y2.nw p hp).2⟩, y2.nd, y2.kn, by have := y2.st; rw [this], y2.ck, y2.hd⟩, kk⟩⟩
theorem cell_q {nms : List (Str × NameKind)} {y : Str} {pos : Pos} {a : Addr} {o : Obj} {v : Value} (V : EnvOk c z env nms) (hn : nms.lookup y = some .cell) (hc : env.cells.lookup y = some a) (hm : (a, o) ∈ l) (ho : o.data = .cell (some v)) (h : k v m l) (hd : autoParam ((y == ("__debug__" : Str)) = false) rA) : WQ c z (eval (.Name y pos) env) k m l :=
 .any fun s y1 => V.ce (z1 := z.led) y1 hn hc hm ho hd ⟨m, l, y1, h⟩
theorem cset_q {nms : List (Str × NameKind)} {y : Str} {a : Addr} {o : Obj} {v : Value} {l1 : Obj -> Led} {k : Unit -> Loc -> Led -> Prop} (hC : CfOk c d u) (hf : ForOk c z env nms) (hn : nms.lookup y = some .cell) (hc : env.cells.lookup y = some a) (U : ∀ o', Rp a o o' l (l1 o')) (hd : ∃ v0, o.data = .cell v0) (hM : a ∈ c.S \/ Fre c a) (h : ∀ o', o'.data = .cell (some v) -> k () m (l1 o')) : WQ c z (bindName env y v) k m l :=
 .any fun s y1 => by
  obtain ⟨g, UF, hg⟩ := ((U o).zed (z := z)).updF y1.nd
  exact hf.sc (z1 := z.led) y1 hn hc UF hd fun h' o' F N e => ⟨m, _, y1.upd hC (tk := s.toks) (U o') hM F (N _ (hg _).1).1 fun p hp hn => (N p ((hg _).2 p hp hn)).1, h o' e⟩
end
end
section
set_option tactic.hygienic false
open PySem PySem.W PyProof.Rows PySem.Calls PySem.Spec
theorem cf_ok {B : Nat} : ∀ {names : List (Str × NameKind)} {n : Nat} {acc : List (Str × Addr)}, (acc.Pairwise fun p q => q.2 < p.2) -> (∀ p ∈ acc, p.2 < n /\ B <= p.2) -> B <= n -> ((cellsFrom n names acc).Pairwise fun p q => q.2 < p.2) /\ ∀ p ∈ cellsFrom n names acc, B <= p.2
 | [], _, _, h1, h2, _ => ⟨h1, fun p hp => (h2 p hp).2⟩
 | (name, kind) :: r, n, acc, h1, h2, h3 => by
  unfold cellsFrom
  split
  ·refine cf_ok (.cons (fun p hp => (h2 p hp).1) h1) (fun p hp => ?_) (Nat.le_succ_of_le h3)
   rcases List.mem_cons.mp hp with rfl | hp
   ·exact ⟨Nat.lt_succ_self _, h3⟩
   ·exact ⟨Nat.lt_succ_of_lt (h2 p hp).1, (h2 p hp).2⟩
  ·exact cf_ok h1 h2 h3
theorem cells_addr {cm : Str -> Option Value} {cs : List (Str × Addr)} {cells : Led} (x : CellsAre cm cs cells) : cells.map (·.1) = cs.map (·.2) := by
 induction x with
 | nil => rfl
 | cons _ _ ih => rw [List.map_cons, List.map_cons, ih]
theorem bindL_none {kd : Str -> Option NameKind} {y : Str} (hy : kd y ≠ some .local) : ∀ {binds : List (Str × Value)} {m : Str -> Option Value}, bindL kd binds m y = m y
 | [], _ => rfl
 | (n, v) :: r, m => by
  unfold bindL
  rw [bindL_none hy]
  split
  ·rename_i h
   dsimp only
   rw [if_neg fun (e : y = n) => hy (by rw [e]; exact h)]
  ·rfl
section
variable {w : World} {mean : ExcName -> Option Value} {mg mb : Str -> Option Value} {A : Around} {base : Heap} {outer : List Env} {s : Shared} {R : Result -> Shared -> Prop}
variable {kn : List (Addr × Obj)} {name qual : Str} {params : Arguments} {body : List Stmt} {scope : Scope} {dV kV doc pm cdv ct oc : Value} {an od : Option Addr} {osl : Array (Option Value)} {f : Addr} {args : Args} {binds : List (Str × Value)}
theorem enterQL (n : Nat) (S : List Addr) (Er : Int -> Prop) {dd uu : Nat} (B : Below A base outer s.heap) (G : Gd w mean mg mb base) (hh : A.handled = none) (hdp : A.depth < dd) (hu : A.units + uu < cLine) (hkn : Kn base outer s.heap kn)
  (ho : (hd.heap_1 w.params).lookup f = some ⟨oc, od, .func (fnOf name qual params body scope dV kV doc pm an cdv ct), osl⟩)
  (hcd : codeIn (hd.heap_1 w.params) cdv qual = true) (hdd : dd + 1 <= 880) (huu : 303 <= uu)
  (hbind : BindsTo s (fnOf name qual params body scope dV kV doc pm an cdv ct) args binds) (hkind : (binds.all fun y => scope.names.lookup y.1 == some .local || scope.names.lookup y.1 == some .cell) = true)
  (hnc : ((cellsFrom 0 scope.names []).map (·.1)).Nodup) (hnd : kn.Pairwise fun p q => p.1 ≠ q.1)
  (hEr : ∀ f, Er f -> ∀ h' tk' e t, FlyD base outer e (.int f t) (S ++ fr outer) s.heap h' -> R (.error (.ref e)) { s with heap := h', toks := tk' })
  (h : ∀ (c : Cf w) (z : Zs) (env : Env) (K : Flow -> Loc -> Led -> Prop) (L : Addr) (cells : Led), CellsAre (bindC (fun y => scope.names.lookup y) binds fun _ => none) (cellsFrom (L + 1) scope.names []) cells -> env.cells = cellsFrom (L + 1) scope.names [] -> (∀ p ∈ cells, Fre c p.1) ->
   CfOk c (dd + 1) (uu - 3) -> EnvOk c z env scope.names -> ForOk c z env scope.names -> c.outer = outer -> c.L = L -> env = envX qual scope L f cdv (cellsFrom (L + 1) scope.names []) -> c.S = S -> (∀ f, Er f -> c.Er f) -> (∀ a, Fre c a -> s.heap.get? a = none) -> (∀ p ∈ kn, ¬ Fre c p.1) ->
   (∀ f m l, (∀ h' tk', Ex S s.heap l h' -> R (.ok (.ret (rv f))) { s with heap := h', toks := tk' }) -> K f m l) -> run c z env scope.names n body K ((lnames scope).map fun x => (x, bindL (fun y => scope.names.lookup y) binds (fun _ => none) x)) (cells ++ kn))
  (hco : scope.isCoroutine = false) (hgen : scope.isGenerator = false) (hk : scope.kind = .function) (hdb : scope.names.lookup ("__debug__" : Str) = none) : codeS (model PW w) A (.call (.ref f) args) R s := by
 refine enterSC kn B G hkn ho hcd (Nat.lt_of_lt_of_le hdp (Nat.le_trans (Nat.le_of_succ_le hdd) (by decide))) hbind hkind hnc (fun g L' h₁ tk cells F N Y B' X T hg hL l1 => ?_) hco hgen hk
 have co := cf_ok (B := L' + 1) (names := scope.names) (n := L' + 1) (acc := []) .nil (fun _ h => absurd h List.not_mem_nil) (Nat.le_refl _)
 have ca := cells_addr Y
 have above : ∀ p ∈ cells, L' < p.1 := fun p hp => by
  have : p.1 ∈ (cellsFrom (L' + 1) scope.names []).map (·.2) := by rw [<- ca]; exact List.mem_map_of_mem hp
  obtain ⟨q, hq, e⟩ := List.mem_map.mp this
  rw [<- e]; exact co.2 q hq
 have nd0 : (cells ++ kn).Pairwise fun p q => p.1 ≠ q.1 := by
  refine List.pairwise_append.mpr ⟨?_, hnd, fun p hp q hq e => ?_⟩
  ·have : (cells.map (·.1)).Pairwise fun a b => a ≠ b := by
    rw [ca]
    exact List.pairwise_map.mpr (co.1.imp fun h => Nat.ne_of_gt h)
   exact List.pairwise_map.mp this
  ·exact Nat.lt_asymm (above p hp) (e ▸ l1 q hq)
 refine coreQ (cl := cellsFrom (L' + 1) scope.names []) (m0 := (lnames scope).map fun x => (x, bindL (fun y => scope.names.lookup y) binds (fun _ => none) x)) n G hh hdp hu hdd huu (fun p hp => (hkn p hp).1) (fm_map (g := bindL (fun y => scope.names.lookup y) binds fun _ => none) fun y hy => ?_) nd0 (fun _ hp => List.mem_append_right _ hp) hEr hk hdb F N B' X T hg hL fun c z env K hC V hcl hf hS hcL ho he h1 h2 h3 h4 => ?_
 ·exact bindL_none fun q => hy (mem_lnames q)
 ·refine h c z env K L' cells Y hcl (fun p hp => ?_) hC V hf ho hcL he hS h1 (fun a => (h2 a).mp) h3 h4
  refine (h2 p.1).mpr ?_
  cases q : s.heap.get? p.1 with
  | none => rfl
  | some o =>
   exfalso
   have n := (N p (List.mem_append_left _ hp)).2.2
   by_cases hk : p.1 ∈ kn.map (·.1)
   ·obtain ⟨r, hr, e⟩ := List.mem_map.mp hk
    have h5 := l1 r hr
    have h6 := above p hp
    rw [e] at h5
    exact Nat.lt_asymm h5 h6
   ·rw [hg _ _ q hk] at n; cases n
theorem enterQC (n : Nat) (S : List Addr) (Er : Int -> Prop) {dd uu : Nat} (B : Below A base outer s.heap) (G : Gd w mean mg mb base) (hh : A.handled = none) (hdp : A.depth < dd) (hu : A.units + uu < cLine) (hkn : Kn base outer s.heap kn)
  (ho : (hd.heap_1 w.params).lookup f = some ⟨oc, od, .func (fnOf name qual params body scope dV kV doc pm an cdv ct), osl⟩)
  (hcd : codeIn (hd.heap_1 w.params) cdv qual = true) (hdd : dd + 1 <= 880) (huu : 303 <= uu)
  (hbind : BindsTo s (fnOf name qual params body scope dV kV doc pm an cdv ct) args binds) (hkind : (binds.all fun y => scope.names.lookup y.1 == some .local || scope.names.lookup y.1 == some .cell) = true)
  (hnc : ((cellsFrom 0 scope.names []).map (·.1)).Nodup) (hnd : kn.Pairwise fun p q => p.1 ≠ q.1)
  (hEr : ∀ f, Er f -> ∀ h' tk' e t, FlyD base outer e (.int f t) (S ++ fr outer) s.heap h' -> R (.error (.ref e)) { s with heap := h', toks := tk' })
  (h : ∀ (c : Cf w) (z : Zs) (env : Env) (K : Flow -> Loc -> Led -> Prop) (L : Addr) (cells : Led), CellsAre (bindC (fun y => scope.names.lookup y) binds fun _ => none) (cellsFrom (L + 1) scope.names []) cells -> env.cells = cellsFrom (L + 1) scope.names [] -> (∀ p ∈ cells, Fre c p.1) ->
   CfOk c (dd + 1) (uu - 3) -> EnvOk c z env scope.names -> ForOk c z env scope.names -> c.S = S -> (∀ f, Er f -> c.Er f) -> (∀ a, Fre c a -> s.heap.get? a = none) -> (∀ p ∈ kn, ¬ Fre c p.1) ->
   (∀ f m l, (∀ h' tk', Ex S s.heap l h' -> R (.ok (.ret (rv f))) { s with heap := h', toks := tk' }) -> K f m l) -> run c z env scope.names n body K ((lnames scope).map fun x => (x, bindL (fun y => scope.names.lookup y) binds (fun _ => none) x)) (cells ++ kn))
  (hco : scope.isCoroutine = false) (hgen : scope.isGenerator = false) (hk : scope.kind = .function) (hdb : scope.names.lookup ("__debug__" : Str) = none) : codeS (model PW w) A (.call (.ref f) args) R s :=
 enterQL n S Er B G hh hdp hu hkn ho hcd hdd huu hbind hkind hnc hnd hEr (fun c z env K L cells a1 a2 a3 a4 a5 a6 _ _ _ a7 a8 a9 b1 b2 => h c z env K L cells a1 a2 a3 a4 a5 a6 a7 a8 a9 b1 b2) hco hgen hk hdb
end
theorem clos_q {env : Env} {scope : Scope} {cs cl : List (Str × Addr)} (h : env.cells = cs) (e : closureFor scope { env with cells := cs } = pure cl) : closureFor scope env = pure cl := by
 subst h; exact e
theorem swaps_yes {w : World} {c : Cf w} {z : Zs} {env : Env} {nms : List (Str × NameKind)} {elt : Expr} {gens : List Comprehension} {sc : Scope} {pos p : Pos} {t : Str} {n : Nat} (V : EnvOk c z env nms) (h1 : nms.lookup t = some .local) (h2 : (p.line == pos.line && !(sc.names.any fun (n, k) => n == t && (k == .local || k == .cell))) = true) : swapsWith (.ListComp elt gens sc pos) (some (.Name t p)) n env = pure true := by
 show pure (env.blockKind == .function && env.kindOf t == some .local && p.line == pos.line && !(sc.names.any fun (n, k) => n == t && (k == .local || k == .cell))) = pure true
 have e1 : env.blockKind = .function := by unfold Env.blockKind; rw [V.fn]; split <;> rfl
 have e2 : env.kindOf t = some .local := by unfold Env.kindOf; rw [V.nm]; exact h1
 rw [e1, e2, Bool.and_assoc, h2]
 rfl
end
section
set_option tactic.hygienic false
open PySem PySem.W PyProof.Rows PySem.Calls PySem.Spec
section
variable {w : World} {A : Around} {E : Value -> Shared -> Prop} {s : Shared} {h₀ : Heap} {L : Addr} {m : Str -> Option Value} {news : List (Addr × Obj)}
theorem cat_I {a b : Addr} {vs ws : List Value} {ns ms : List Int} {n1 n2 : Nat} {Q : Value -> Shared -> Prop} (F : Fr h₀ L s.heap m) (N : News h₀ L s.heap news) (ha : (a, PySem.W.listOf vs.toArray n1) ∈ news) (hb : (b, PySem.W.listOf ws.toArray n2) ∈ news) (hi : IntsAre vs ns) (hj : IntsAre ws ms)
  (hz : ns.length + ms.length <= 1000000)
  (h : ∀ D us h', Fr h₀ L h' m -> News h₀ L h' ((D, PySem.W.listOf us.toArray 0) :: news) -> (∀ p ∈ news, p.1 < D) -> IntsAre us (ns ++ ms) -> Q (.ref D) { s with heap := h' }) : wpAny (model PW w) A (binaryOp .Add (.ref a) (.ref b)) Q E s :=
 kmk_add_ints F N ⟨_, (N _ ha).1, rfl, _, rfl⟩ ⟨_, (N _ hb).1, rfl, _, rfl⟩ hi hj h (by rw [sizeLine_eq]; omega)
end
section
variable {w : World} {c : Cf w} {z : Zs} {m : Loc} {l l1 : Led} {dn un : Nat} {D : Addr}
theorem lset_q {its : Array Value} {n : Nat} {i : Int} {ti : Tok} {v : Value} {q : List Value} {k : Unit -> Loc -> Led -> Prop} (hC : CfOk c dn un) (h0 : 0 <= i) (h1 : i < 2 ^ 63) (hq : ki_setL its.toList i.toNat v = some q) (U : Rp D (PySem.W.listOf its n) (PySem.W.listOf q.toArray n) l l1) (hM : D ∈ c.S \/ Fre c D) (h : k () m l1) : WQ c z (setItem (.ref D) (.int i ti) v) k m l :=
 .any fun s y => ki_set y.fr y.nw h0 h1 hq ((U.zed (z := z)).upd y.nd) fun h' F N => ⟨m, _, y.updN hC (tk := s.toks) U hM F N, h⟩
theorem itemLI_q {vs : List Value} {ns : List Int} {n : Nat} {i : Int} {u : Tok} {ve sl : Expr} {k : Value -> Loc -> Led -> Prop} (hx : (D, PySem.W.listOf vs.toArray n) ∈ l) (hi : IntsAre vs ns) (h0 : 0 <= i) (h1 : i < ns.length) (h2 : i < 2 ^ 63) (h : ∀ t, k (.int (ns.getD i.toNat 0) t) m l)
  (hs : autoParam (∀ (o i : Value), subscripted sl false o i = operate [o, i] (getItem o i)) rA) (hv : autoParam (∀ (o r : Value), letTemporaryGo ve o r = pure ()) rA) : WQ c z (subscriptTail ve sl (.ref D) (.int i u)) k m l :=
 .same fun s _ y q => item_list_ints (News.isList y.nw (y.mem hx)) hi h0 h1 h2 (fun t => q _ _ (h t)) (hs _ _) (hv _)
theorem itemTI_q {vs : List Value} {ns : List Int} {n : Nat} {i : Int} {u : Tok} {ve sl : Expr} {k : Value -> Loc -> Led -> Prop} (hx : (D, tupQ vs n) ∈ l) (hi : IntsAre vs ns) (h0 : 0 <= i) (h1 : i < ns.length) (h2 : i < 2 ^ 63) (h : ∀ t, k (.int (ns.getD i.toNat 0) t) m l)
  (hs : autoParam (∀ (o i : Value), subscripted sl false o i = operate [o, i] (getItem o i)) rA) : WQ c z (subscriptTail ve sl (.ref D) (.int i u)) k m l :=
 .same fun s _ y q => item_anyT (News.isTup y.nw (y.mem hx)) hi h0 h1 h2 (fun t => q _ _ (h t)) (hs _ _)
theorem catI_q {a b : Addr} {vs ws : List Value} {ns ms : List Int} {n1 n2 : Nat} {k : Value -> Loc -> Led -> Prop} (hC : CfOk c dn un) (ha : (a, PySem.W.listOf vs.toArray n1) ∈ l) (hb : (b, PySem.W.listOf ws.toArray n2) ∈ l) (hi : IntsAre vs ns) (hj : IntsAre ws ms) (hz : ns.length + ms.length <= 1000000)
  (h : ∀ D us, IntsAre us (ns ++ ms) -> Fre c D -> k (.ref D) m ((D, PySem.W.listOf us.toArray 0) :: l)) : WQ c z (binaryOp .Add (.ref a) (.ref b)) k m l :=
 .any fun s y => cat_I y.fr y.nw (y.mem ha) (y.mem hb) hi hj hz fun D us h' F N lt e => ⟨m, _, y.new1 (tk := s.toks) F N lt, h D us e (hC.fre1 y N lt)⟩
theorem sliceI_q {a : Addr} {vs : List Value} {ns ms : List Int} {n : Nat} {p : Pos} {ve sl : Expr} {vl vu : Value} {lo hi : Option Int} {k : Value -> Loc -> Led -> Prop} (hC : CfOk c dn un) (ha : (a, PySem.W.listOf vs.toArray n) ∈ l) (hi1 : IsPart vl lo) (hi2 : IsPart vu hi) (hvs : IntsAre vs ns) (hm : IntsAre (slicePick vs.toArray lo hi none).toList ms) (hz : vs.length <= 1000000)
  (h : ∀ D ws, IntsAre ws ms -> Fre c D -> k (.ref D) m ((D, PySem.W.listOf ws.toArray 0) :: l))
  (hs : autoParam (∀ (o i : Value), subscripted sl false o i = operate [i, o] (getItem o i)) rA) (hv : autoParam (∀ (o r : Value), letTemporaryGo ve o r = pure ()) rA) : WQ c z (sliceT p ve sl (.ref a) vl vu) k m l :=
 .any fun s y => by
  unfold sliceT newFields
  refine wpAny_bind (wpAny_newObj_type (wpAny_bind (wpAny_standAt ?_)) ?_)
  ·have hl : s.heap.IsList a vs.toArray := News.isList y.nw (y.mem ha)
   exact kmk_slice_ints (c := ms.length) y.fr y.nw hl hi1 hi2 hvs hm rfl (fun D ws h' F N lt e _ _ => ⟨m, _, y.new1 (tk := s.toks) F N lt, h D ws e (hC.fre1 y N lt)⟩) (hs _ _) (hv _) (by rw [List.size_toArray, sizeLine_eq]; exact Nat.le_trans hz (by decide))
  ·first | decide | trivial | (unfold sizeOk; trivial) | (unfold sizeOk; dsimp only; rw [sizeLine_eq]; exact Nat.le_of_ble_eq_true rfl)
end
section
variable {w : World} {c : Cf w} {z : Zs} {m : Loc} {l : Led} {k : Value -> Loc -> Led -> Prop}
theorem draw_q {S C : Addr} {n1 n2 : Nat} {cs : List Value} {xs : List Int} {p lim : Int} {tp tl : Tok} {l1 : Int -> Tok -> Led} (hC : CfOk c 870 320) (hx : IntsAre cs xs) (hne : xs ≠ []) (hlen : xs.length <= 60) (hl : 0 < lim) (hCm : (C, PySem.W.listOf cs.toArray n2) ∈ l)
  (U : ∀ q t, Rp S (PySem.W.listOf #[.ref C, .int p tp] n1) (PySem.W.listOf #[.ref C, .int q t] n1) l (l1 q t)) (hM : S ∈ c.S \/ Fre c S)
  (h : ∀ v t t', 0 <= v -> v < lim -> k (.int v t) m (l1 (p + 1) t')) : WQ c z (call (.ref 444) [.ref S, .int lim tl] []) k m l := by
 have hx1 := hx.length
 have hx2 : 0 < xs.length := List.length_pos_iff.mpr hne
 have hcs : cs.length <= 1000000 := by omega
 refine enter1 (d := S) (o := PySem.W.listOf #[.ref C, .int p tp] n1) 20 [(S, PySem.W.listOf #[.ref C, .int p tp] n1), (C, PySem.W.listOf cs.toArray n2)] hC (by decide) (by decide) (nn4 (U 0 0).old hCm) hM (U 0 0).old (binds := [("source", .ref S), ("limit", .int lim tl)]) (by k_is) (by k_is) (fun s _ => BindsTo.of_eq rfl) (locs rfl) (fun nd => ?_) ?_ rfl rfl rfl (by decide) (by decide)
 ·have := nd_ne nd (U 0 0).old hCm fun e => by
   have e1 : #[Value.ref C, Value.int p tp] = cs.toArray := by injection e with _ _ e1; injection e1
   have e2 : cs = [.ref C, .int p tp] := by have := congrArg Array.toList e1; simpa using this.symm
   subst e2
   cases hx
  exact .cons (nn3 this) (.cons nn1 .nil)
 intro c' z' env K hC' V hf hS h1 h2 hK
 intro t1
 refine itemL_q (vs := [.ref C, .int p tp]) (.head _) (by decide) (by decide) rfl ?_
 intro t2
 refine itemL_q (vs := [.ref C, .int p tp]) (.head _) (by decide) (by decide) rfl ?_
 intro t3 t4 t5
 refine lset_q hC' (by decide) (by decide) rfl .head (.inl hS) ?_
 refine lenL_q (.tail _ (.head _)) hcs fun t6 => ?_
 refine And.intro (by omega) fun t7 => ?_
 refine itemLI_q (.tail _ (.head _)) hx (fmod_lo _ (by omega)) (by rw [<- hx1]; exact Int.fmod_lt_of_pos _ (by omega)) (by have := Int.fmod_lt_of_pos p (show (0 : Int) < cs.length by omega); omega) fun t8 => ?_
 intro t9
 refine lenL_q (.tail _ (.head _)) hcs fun t10 => ?_
 refine And.intro ⟨by omega, by omega⟩ fun t11 => ?_
 refine And.intro (.of_left (by decide)) fun t12 => ?_
 intro t13
 refine And.intro (by omega) fun t14 => ?_
 exact hK _ _ _ [] _ (l1 (p + 1) t4) nn1 nn2 (.head _) (U _ _) (h _ _ _ (Int.fmod_nonneg_of_pos _ hl) (Int.fmod_lt_of_pos _ hl))
end
end
section
set_option tactic.hygienic false
open PySem PySem.W PyProof.Rows PySem.Calls PySem.Spec
theorem ints_next {ys : List Value} {f : Nat -> Int} {j : Nat} {v : Int} {t : Tok} (h : IntsAre ys ((List.range j).map f)) (e : v = f j) : IntsAre (ys ++ [.int v t]) ((List.range (j + 1)).map f) := by
 rw [List.range_succ, List.map_append, e]
 exact h.append (.cons _ _ .nil)
noncomputable def u16v (l : List UInt8) (a : Int) : Int := 256 * (l.getD a.toNat 0).toNat + (l.getD (a.toNat + 1) 0).toNat
theorem u16v_bnd (l : List UInt8) (a : Int) : 0 <= u16v l a /\ u16v l a < 65536 := by
 have h1 := (l.getD a.toNat 0).toNat_lt
 have h2 := (l.getD (a.toNat + 1) 0).toNat_lt
 unfold u16v
 omega
noncomputable def i16v (v : Int) : Int := if v < 32768 then v else v - 65536
theorem bInts_eq {b : Array UInt8} {l : List UInt8} (h : KBw.bInts b = l.map fun c => (c.toNat : Int)) : b = l.toArray := by
 refine Array.ext' ?_
 unfold KBw.bInts at h
 exact List.map_inj_right (f := fun c : UInt8 => (c.toNat : Int)) (fun x y e => UInt8.toNat_inj.mp (Int.ofNat.inj e)) |>.mp h
theorem cut2 {l : List UInt8} {a : Nat} (h1 : a + 2 <= l.length) : ((l.map fun c => (c.toNat : Int)).drop a).take 2 = [l.getD a 0, l.getD (a + 1) 0].map fun c => (c.toNat : Int) := by
 have e : ∀ i (h : i < l.length), l.getD i 0 = l[i] := fun i h => by rw [List.getD_eq_getElem?_getD, List.getElem?_eq_getElem h]; rfl
 rw [<- List.map_drop, <- List.map_take, List.drop_eq_getElem_cons (Nat.lt_of_succ_lt h1), List.drop_eq_getElem_cons h1, e _ (Nat.lt_of_succ_lt h1), e _ h1]
 rfl
section
variable {w : World} {c : Cf w} {z : Zs} {m : Loc} {l l1 : Led} {dn un : Nat} {k : Value -> Loc -> Led -> Prop}
theorem slice2_q {bs : List UInt8} {a : Int} {t t1 t2 : Tok} {p : Pos} {ve sl : Expr} (h0 : 0 <= a) (h1 : a + 2 <= bs.length) (hz : bs.length <= 1000000) (h : ∀ t', k (.bytes [bs.getD a.toNat 0, bs.getD (a.toNat + 1) 0].toArray t') m l)
  (hs : autoParam (∀ (o i : Value), subscripted sl false o i = operate [i, o] (getItem o i)) rA) (hv : autoParam (∀ (o r : Value), letTemporaryGo ve o r = pure ()) rA) : WQ c z (sliceT p ve sl (.bytes bs.toArray t) (.int a t1) (.int (a + 2) t2)) k m l :=
 .any fun s y => by
  unfold sliceT newFields
  refine wpAny_bind (wpAny_newObj_type (wpAny_bind (wpAny_standAt ?_)) ?_)
  ·refine KBc.slice_K (ks := bs.map fun c => (c.toNat : Int)) (lo := some a) (hi := some (a + 2)) y.fr y.nw rfl (by constructor) (by constructor) (by simpa using Nat.le_trans hz (by decide)) (fun h' t' k F' N' e => ?_) (hs _ _) (hv _)
   obtain ⟨n, rfl⟩ := Int.eq_ofNat_of_zero_le h0
   have h2 : n + 2 <= bs.length := by omega
   rw [List.length_map] at e
   change _ = List.take (clipAt bs.length ((n : Nat) + 2 : Int) - clipAt bs.length ((n : Nat) : Int)) (List.drop (clipAt bs.length ((n : Nat) : Int)) _) at e
   have e1 : clipAt bs.length ((n : Nat) : Int) = n := by rw [clipAt_nat]; omega
   have e2 : clipAt bs.length ((n : Nat) + 2 : Int) = n + 2 := by
    have := clipAt_nat bs.length (n + 2)
    rw [show ((n + 2 : Nat) : Int) = (n : Int) + 2 from by omega] at this
    rw [this]; omega
   rw [e1, e2, Nat.add_sub_cancel_left] at e
   rw [bInts_eq (e.trans (cut2 h2))]
   exact ⟨m, l, ⟨F', N', y.nd, y.kn, by have := y.st; rw [this], y.ck, y.hd⟩, h _⟩
  ·first | decide | trivial | (unfold sizeOk; trivial) | (unfold sizeOk; dsimp only; rw [sizeLine_eq]; exact Nat.le_of_ble_eq_true rfl)
theorem nat_or8 (a c : Nat) (hc : c < 256) : (256 * a) &&& c = 0 := by
 refine Nat.eq_of_testBit_eq fun i => ?_
 rw [Nat.testBit_and, Nat.zero_testBit, show 256 * a = 2 ^ 8 * a from rfl, Nat.testBit_two_pow_mul]
 by_cases hi : 8 <= i
 ·rw [Nat.testBit_lt_two_pow (Nat.lt_of_lt_of_le hc (Nat.pow_le_pow_right (show 2 > 0 by decide) hi)), Bool.and_false]
 ·rw [decide_eq_false hi, Bool.false_and, Bool.false_and]
theorem shl8_q {a : Int} {t u : Tok} (h0 : 0 <= a) (h1 : a < 256) (h : ∀ t, k (.int (a * 256) t) m l) : WQ c z (binaryOp .LShift (.int a t) (.int 8 u)) k m l :=
 .same fun s _ y q => lshift_int_small (by decide) (by omega) (by omega) (q _ _ (h _))
theorem shl1_q {n p : Int} {t u : Tok} (hn : 0 <= n) (hn2 : n <= 1000) (hp : (2 : Int) ^ n.toNat = p) (h : ∀ t, k (.int p t) m l) : WQ c z (binaryOp .LShift (.int 1 t) (.int n u)) k m l :=
 .same fun s _ y q => lshift_int_small hn (by omega) (by decide) (q _ _ (by rw [hp, Int.one_mul]; exact h _))
theorem or8_q {a b : Nat} {t u : Tok} (hb : b < 256) (h : ∀ t, k (.int (256 * a + b) t) m l) : WQ c z (binaryOp .BitOr (.int ((a : Int) * 256) t) (.int (b : Int) u)) k m l :=
 .same fun s _ y q => or_int (q _ _ (by
  have e : Builtin.bitOr ((a : Int) * 256) b = 256 * a + b := by
   rw [show (a : Int) * 256 = ((256 * a : Nat) : Int) by omega, bitOr_and, bitAnd_pp (Int.natCast_nonneg _) (Int.natCast_nonneg _), Int.toNat_natCast, Int.toNat_natCast, nat_or8 a b hb]
   omega
  rw [e]; exact h _))
theorem shrp_q {a n p : Int} {t u : Tok} (hn : 0 <= n) (hp : (2 : Int) ^ n.toNat = p) (h0 : 0 <= p) (h : ∀ t, k (.int (a / p) t) m l) : WQ c z (binaryOp .RShift (.int a t) (.int n u)) k m l :=
 .same fun s _ y q => rshift_int hn (q _ _ (by rw [hp, Int.fdiv_eq_ediv_of_nonneg _ h0]; exact h _))
end
section
variable {w : World} {A : Around} {E : Value -> Shared -> Prop} {s : Shared} {env : Env} {h₀ : Heap} {x : Str} {body : List Stmt} {Q : Flow -> Shared -> Prop} {m : Str -> Option Value} {news : List (Addr × Obj)}
theorem loop_bytesS {b : Array UInt8} {t : Tok} (hh : A.handled = none)
  (F : Fr h₀ env.locals s.heap m) (N : News h₀ env.locals s.heap news) (J : Nat -> (Str -> Option Value) -> List (Addr × Obj) -> Prop) (h0 : J 0 m news)
  (step : LStep w A h₀ env x body Q E s b.size (fun i v => ∃ c u, b[i]? = some c /\ v = .int (c.toNat : Int) u) J)
  (done : ∀ h' tk m' nw, J b.size m' nw -> Fr h₀ env.locals h' m' -> News h₀ env.locals h' nw -> Q .next { s with heap := h', toks := tk }) :
  wpAny (model PW w) A (pyIter (.bytes b t)) (fun it s₂ => LoopS w A h₀ env x body Q E it s₂) E s := by
 refine KBw.pyIter_bytes ?_
 refine ⟨_, [], b.size, _, _, m, news, J, rfl, KBw.walks hh s.heap.objs.size b t, fun i h ⟨o, e, _⟩ => ⟨o, e⟩, ?_, ⟨_, Heap.get?_push_size _ rfl, rfl, rfl⟩,
  F.keeps fun _ _ e => Heap.get?_push_of_some _ e, N.grown fun _ _ e => Heap.get?_push_of_some _ e, fun p hp => Nat.ne_of_lt (Heap.lt_size (N p hp).1), Nat.ne_of_lt F.ns.lt, next_is_new F, (fun i ys nw hj p hp => absurd hp List.not_mem_nil), h0, ?_, done⟩
 ·intro i h h' o nw st e e' N' hs
  obtain ⟨o2, e2, r⟩ := st
  rw [e] at e2; cases e2
  exact ⟨o, e', r⟩
 ·intro i v m₁ nw h tk oI a1 a2 a3 a4 a5 a6
  exact step i v m₁ nw _ h tk oI a1 a2 a3 a4 a5 a6
end
section
variable {w : World} {c : Cf w} {z : Zs} {env : Env} {nms : List (Str × NameKind)} {xn : Str} {body : List Stmt} {K : Flow -> Loc -> Led -> Prop} {m : Loc} {l : Led} {d u : Nat} {X : Type}
theorem itBytes_q (hC : CfOk c d u) (hf : ForOk c z env nms) {b : List UInt8} {t : Tok} (mm : X -> Loc) (ll : X -> Led) (ok : Nat -> X -> Prop) (x0 : X) (hm : m = mm x0) (hl : l = ll x0) (h0 : ok 0 x0)
  (step : ∀ i e t x z1, b[i]? = some e -> (∀ p ∈ z.led, p ∈ z1) -> ok i x -> WQ c { z with led := z1 } (execs body env) (TurnQ K mm ll (ok (i + 1))) (up (mm x) xn (.int (e.toNat : Nat) t)) (ll x)) (done : ∀ x, ok b.length x -> K .next (mm x) (ll x)) : ItQ c z env xn body K (.bytes b.toArray t) m l := fun s y => by
 have F := y.fr
 have N := y.nw
 rw [<- hf.lo] at F N
 exact loop_bytesS hC.hh F N (JQ c z mm ll ok) (j0Q hf y hm hl h0) (stepQ hC hf y fun i v x z1 _ ⟨e, t, he, hv⟩ hz hok => by subst hv; exact step i e t x z1 (by rw [<- he, List.getElem?_toArray]) hz hok) (doneQ hf y fun x h => done x (by rw [List.size_toArray] at h; exact h))
end
section
variable {w : World} {c : Cf w} {z : Zs} {m : Loc} {l l1 : Led} {dn un : Nat} {k : Value -> Loc -> Led -> Prop} {bs : List UInt8} {i : Int} {tb ti : Tok}
theorem check_q {n : Int} {tn : Tok} (hC : CfOk c 870 400) (hb : bs.length <= 1000000) (h : 0 <= i /\ i + n <= bs.length -> k .none m l) (hE : ¬ (0 <= i /\ i + n <= bs.length) -> c.Er i) : WQ c z (call (.ref 70) [.bytes bs.toArray tb, .int i ti, .int n tn] []) k m l := by
 refine enter0 20 [] hC (by decide) (by decide) nn1 (binds := [("data", .bytes bs.toArray tb), ("at", .int i ti), ("count", .int n tn)]) (by k_is) (by k_is) (fun s _ => BindsTo.of_eq rfl) (locs rfl) (fun _ => .nil) ?_ rfl rfl rfl (by decide) (by decide)
 intro c' z' env K hC' V hf hS h1 h2 hK
 intro t0
 refine Two.mk (fun q => ?_) fun q => ?_
 ·intro t1
  exact h1 _ (hE fun g => by omega)
 intro t1
 refine lenB_q hb fun t2 => ?_
 refine Two.mk (fun q2 => ?_) fun q2 => ?_
 ·intro t3
  exact h1 _ (hE fun g => by omega)
 exact hK _ _ _ [] nn1 nn2 (h (by omega))
theorem numat_q {tn : Tok} (hC : CfOk c 860 460) (hb : bs.length <= 1000000) (h : 0 <= i /\ i + 2 <= bs.length -> ∀ t, k (.int (u16v bs i) t) m l) (hE : ¬ (0 <= i /\ i + 2 <= bs.length) -> c.Er i) : WQ c z (call (.ref 77) [.bytes bs.toArray tb, .int i ti, .int 2 tn] []) k m l := by
 refine enter0 20 [] hC (by decide) (by decide) nn1 (binds := [("data", .bytes bs.toArray tb), ("at", .int i ti), ("count", .int 2 tn)]) (by k_is) (by k_is) (fun s _ => BindsTo.of_eq rfl) (locs rfl) (fun _ => .nil) ?_ rfl rfl rfl (by decide) (by decide)
 intro c' z' env K hC' V hf hS h1 h2 hK
 refine check_q (hC'.mo rfl) hb (fun g => ?_) fun g => h1 _ (hE g)
 intro t0
 refine for_e hC' V hf rfl ?_
 intro t1
 refine slice2_q g.1 g.2 hb fun t2 => ?_
 have h9 := fun t => h g t
 unfold u16v at h9
 generalize bs.getD i.toNat 0 = b0 at h9 ⊢
 generalize bs.getD (i.toNat + 1) 0 = b1 at h9 ⊢
 have l0 := b0.toNat_lt
 have l1 := b1.toNat_lt
 refine itBytes_q (X := Nat × Tok × Option Value) hC' hf (fun x => [("data", some (.bytes bs.toArray tb)), ("at", some (.int i ti)), ("count", some (.int 2 tn)), ("total", some (.int x.1 x.2.1)), ("code", x.2.2)]) (fun _ => [])
  (fun j x => x.1 = [0, b0.toNat, 256 * b0.toNat + b1.toNat].getD j 0) (0, t0, none) rfl rfl rfl ?_ ?_
 ·intro j e t hx3 z1 he hz hok
  refine body_e 20 hC' (by decide) (by decide) V hf hz fun T0 hT0 => ?_
  obtain ⟨n, tn, ov⟩ := hx3
  have hok : n = [0, b0.toNat, 256 * b0.toNat + b1.toNat].getD j 0 := hok
  intro t3
  have key : n < 256 /\ e.toNat < 256 /\ 256 * n + e.toNat = [0, b0.toNat, 256 * b0.toNat + b1.toNat].getD (j + 1) 0 := by
   subst hok
   match j, he with
   | 0, he => cases he; exact ⟨by show 0 < 256; decide, l0, Nat.zero_add _⟩
   | 1, he => cases he; exact ⟨l0, l1, rfl⟩
  refine shl8_q (by omega) (by omega) fun t4 => ?_
  refine or8_q key.2.1 fun t5 => ?_
  exact hT0 (256 * n + e.toNat, t5, some _) key.2.2
 ·rintro ⟨n, tn2, ov⟩ hok
  have hok : n = 256 * b0.toNat + b1.toNat := hok
  subst hok
  exact hK _ _ _ [] nn1 nn2 (h9 _)
theorem signed_q {v : Int} {tv tn : Tok} (hC : CfOk c 860 460) (h0 : 0 <= v) (h1 : v < 65536) (h : ∀ t, k (.int (i16v v) t) m l) : WQ c z (call (.ref 84) [.int v tv, .int 16 tn] []) k m l := by
 refine enter0 20 [] hC (by decide) (by decide) nn1 (binds := [("number", .int v tv), ("bits", .int 16 tn)]) (by k_is) (by k_is) (fun s _ => BindsTo.of_eq rfl) (locs rfl) (fun _ => .nil) ?_ rfl rfl rfl (by decide) (by decide)
 intro c' z' env K hC' V hf hS _ h2 hK
 intro t0 t1
 refine shrp_q (p := 32768) (by decide) (by decide +kernel) (by decide) fun t2 => ?_
 intro t3
 unfold i16v at h
 refine Two.mk (fun q => ?_) fun q => ?_
 ·intro t4
  refine shl1_q (n := 16) (p := 65536) (by decide) (by decide) (by decide +kernel) fun t5 => ?_
  intro t6
  rw [if_neg (by omega)] at h
  exact hK _ _ _ [] nn1 nn2 (h _)
 ·rw [if_pos (by omega)] at h
  exact hK _ _ _ [] nn1 nn2 (h _)
variable {x d : Addr} {t1 t2 : Tok} {l2 : Tok -> Led}
theorem number_q {tn : Tok} (hC : CfOk c 855 480) (hb : bs.length <= 1000000) (hdx : @LT.lt Nat _ d x) (hx : (x, instObj 170 d) ∈ l) (U : ∀ t, Rp d (srcD w bs i t1 tb t2 ti) (srcD w bs (i + 2) t1 tb t2 t) l (l2 t)) (hM : d ∈ c.S \/ Fre c d)
  (hQ : 0 <= i /\ i + 2 <= bs.length -> ∀ t u, k (.int (u16v bs i) t) m (l2 u)) (hE : ¬ (0 <= i /\ i + 2 <= bs.length) -> c.Er i) : WQ c z (call (.ref 113) [.ref x, .int 2 tn] []) k m l := by
 refine enter1 (d := d) 20 [(x, instObj 170 d), (d, srcD w bs i t1 tb t2 ti)] hC (by decide) (by decide) (nn4 hx (U 0).old) hM (U 0).old (binds := [("self", .ref x), ("count", .int 2 tn)]) (by k_is) (by k_is) (fun s _ => BindsTo.of_eq rfl) (locs rfl) (fun _ => .cons (nn3 (Nat.ne_of_gt hdx)) (.cons nn1 .nil)) ?_ rfl rfl rfl (by decide) (by decide)
 intro c' z' env K hC' V hf hS h1 h2 hK
 refine attr_q hC' (.head _) (.tail _ (.head _)) (by decide) rfl rfl ?_
 refine attr_q hC' (.head _) (.tail _ (.head _)) (by decide) rfl rfl ?_
 refine numat_q (hC'.mo rfl) hb (fun g t3 => ?_) fun g => h1 _ (hE g)
 refine attr_q hC' (.head _) (.tail _ (.head _)) (by decide) rfl rfl ?_
 intro t4
 refine setA_q hC' (.head _) (by decide) rfl (fun t => ⟨_, rfl, Nat.le_of_ble_eq_true rfl, .tail .head⟩) (.inl hS) fun t5 => ?_
 exact hK _ _ _ [] _ (l2 t4) nn1 nn2 (.tail _ (.head _)) (U _) (hQ g _ _)
theorem u16_q (hC : CfOk c 850 540) (hb : bs.length <= 1000000) (hdx : @LT.lt Nat _ d x) (hx : (x, instObj 170 d) ∈ l) (U : ∀ t, Rp d (srcD w bs i t1 tb t2 ti) (srcD w bs (i + 2) t1 tb t2 t) l (l2 t)) (hM : d ∈ c.S \/ Fre c d)
  (hQ : 0 <= i /\ i + 2 <= bs.length -> ∀ t u v, v = u16v bs i -> 0 <= v -> v < 65536 -> k (.int v t) m (l2 u)) (hE : ¬ (0 <= i /\ i + 2 <= bs.length) -> c.Er i) : WQ c z (call (.ref 127) [.ref x] []) k m l := by
 refine enter1 (d := d) 20 [(x, instObj 170 d), (d, srcD w bs i t1 tb t2 ti)] hC (by decide) (by decide) (nn4 hx (U 0).old) hM (U 0).old (binds := [("self", .ref x)]) (by k_is) (by k_is) (fun s _ => BindsTo.of_eq rfl) (locs rfl) (fun _ => .cons (nn3 (Nat.ne_of_gt hdx)) (.cons nn1 .nil)) ?_ rfl rfl rfl (by decide) (by decide)
 intro c' z' env K hC' V hf hS h1 h2 hK
 refine meth_q hC' (.head _) (.tail _ (.head _)) rfl rfl ?_
 intro t3
 refine number_q (hC'.mo rfl) hb hdx (.head _) (fun _ => .tail .head) (.inl hS) (fun g t u => ?_) fun g => h1 _ (hE g)
 exact hK _ _ _ [] _ (l2 u) nn1 nn2 (.tail _ (.head _)) (U _) (hQ g _ _ _ rfl (u16v_bnd bs i).1 (u16v_bnd bs i).2)
theorem i16_q (hC : CfOk c 850 540) (hb : bs.length <= 1000000) (hdx : @LT.lt Nat _ d x) (hx : (x, instObj 170 d) ∈ l) (U : ∀ t, Rp d (srcD w bs i t1 tb t2 ti) (srcD w bs (i + 2) t1 tb t2 t) l (l2 t)) (hM : d ∈ c.S \/ Fre c d)
  (hQ : 0 <= i /\ i + 2 <= bs.length -> ∀ t u v, v = i16v (u16v bs i) -> k (.int v t) m (l2 u)) (hE : ¬ (0 <= i /\ i + 2 <= bs.length) -> c.Er i) : WQ c z (call (.ref 134) [.ref x] []) k m l := by
 refine enter1 (d := d) 20 [(x, instObj 170 d), (d, srcD w bs i t1 tb t2 ti)] hC (by decide) (by decide) (nn4 hx (U 0).old) hM (U 0).old (binds := [("self", .ref x)]) (by k_is) (by k_is) (fun s _ => BindsTo.of_eq rfl) (locs rfl) (fun _ => .cons (nn3 (Nat.ne_of_gt hdx)) (.cons nn1 .nil)) ?_ rfl rfl rfl (by decide) (by decide)
 intro c' z' env K hC' V hf hS h1 h2 hK
 refine meth_q hC' (.head _) (.tail _ (.head _)) rfl rfl ?_
 intro t3
 refine number_q (hC'.mo rfl) hb hdx (.head _) (fun _ => .tail .head) (.inl hS) (fun g t u => ?_) fun g => h1 _ (hE g)
 intro t4
 refine signed_q (hC'.mo rfl) (u16v_bnd bs i).1 (u16v_bnd bs i).2 fun t5 => ?_
 exact hK _ _ _ [] _ (l2 u) nn1 nn2 (.tail _ (.head _)) (U _) (hQ g _ _ _ rfl)
theorem need_q {n : Int} {tn : Tok} (hC : CfOk c 850 540) (hb : bs.length <= 1000000) (hdx : @LT.lt Nat _ d x) (hx : (x, instObj 170 d) ∈ l) (hd : (d, srcD w bs i t1 tb t2 ti) ∈ l)
  (hQ : 0 <= i /\ i + n <= bs.length -> k .none m l) (hE : ¬ (0 <= i /\ i + n <= bs.length) -> c.Er i) : WQ c z (call (.ref 106) [.ref x, .int n tn] []) k m l := by
 refine enter0 20 [(x, instObj 170 d), (d, srcD w bs i t1 tb t2 ti)] hC (by decide) (by decide) (nn4 hx hd) (binds := [("self", .ref x), ("count", .int n tn)]) (by k_is) (by k_is) (fun s _ => BindsTo.of_eq rfl) (locs rfl) (fun _ => .cons (nn3 (Nat.ne_of_gt hdx)) (.cons nn1 .nil)) ?_ rfl rfl rfl (by decide) (by decide)
 intro c' z' env K hC' V hf hS h1 h2 hK
 refine attr_q hC' (.head _) (.tail _ (.head _)) (by decide) rfl rfl ?_
 refine attr_q hC' (.head _) (.tail _ (.head _)) (by decide) rfl rfl ?_
 refine check_q (hC'.mo rfl) hb (fun g => ?_) fun g => h1 _ (hE g)
 exact hK _ _ _ [] nn1 nn2 (hQ g)
end
section
variable {w : World} {mean : ExcName -> Option Value} {mg mb : Str -> Option Value} {A : Around} {base : Heap} {outer : List Env} {s : Shared} {R : Result -> Shared -> Prop}
theorem rows_spec {l : List UInt8} {at_ : Int} {n : Nat} {x d : Addr} {t1 tb t2 ta tc : Tok} (hc2 : n <= 1000) (hb : l.length <= 1000000) (B : Below A base outer s.heap) (G : Gd w mean mg mb base) (hh : A.handled = none) (hdp : A.depth < 840) (hu : A.units + 600 < cLine)
  (hdx : @LT.lt Nat _ d x) (hkn : Kn base outer s.heap [(x, instObj 170 d), (d, srcD w l at_ t1 tb t2 ta)])
  (hR : 0 <= at_ /\ at_ + 2 * (n : Int) <= l.length -> ∀ h' tk' D ys ta', IntsAre ys ((List.range n).map fun (j : Nat) => u16v l (at_ + 2 * (j : Int))) -> Kp [d] s.heap h' -> h'.get? d = some (srcD w l (at_ + 2 * (n : Int)) t1 tb t2 ta') -> h'.get? D = some (LCg.lst ys) -> s.heap.get? D = none -> R (.ok (.ret (.ref D))) { s with heap := h', toks := tk' })
  (hE : ∀ f, (f = at_ /\ ¬ (0 <= at_ /\ at_ + 2 * (n : Int) <= l.length)) -> ∀ h' tk' e t, FlyD base outer e (.int f t) ([d] ++ fr outer) s.heap h' -> R (.error (.ref e)) { s with heap := h', toks := tk' })
  : codeS (model PW w) A (.call (.ref 160) ⟨[.ref x, .int n tc], []⟩) R s := by
 refine enterQC 20 [d] (fun f => f = at_ /\ ¬ (0 <= at_ /\ at_ + 2 * (n : Int) <= l.length)) B G hh hdp hu hkn (binds := [("self", .ref x), ("count", .int n tc)]) (by k_is) (by k_is) (by decide) (by decide) (BindsTo.of_eq rfl) rfl (by decide +kernel) (.cons (nn3 (Nat.ne_of_gt hdx)) (.cons nn1 .nil)) hE ?_ rfl rfl rfl (by decide)
 intro c z env K L cells Y hcl hfc hC V hf hS h1 h2 h3 hK
 obtain ⟨oc, rfl, dc⟩ := CellsAre.one Y
 clear Y
 have hcl2 : env.cells = [(("self" : Str), L + 1)] := hcl
 refine cell_q V rfl (lkc hcl2 rfl) (.head _) dc ?_
 refine meth_q hC (.tail _ (.head _)) (.tail _ (.tail _ (.head _))) rfl rfl ?_
 intro t3
 refine And.intro (.of_left (by decide)) fun t4 => ?_
 refine need_q (hC.mo rfl) hb hdx (.tail _ (.head _)) (.tail _ (.tail _ (.head _))) (fun g => ?_) fun g => h1 _ ⟨rfl, g⟩
 refine comp_q hC V hf (clos_q hcl2 rfl) (by decide) rfl (by decide) rfl ?_
 refine range1_q hC fun Rg t5 t6 t7 fRg => ?_
 refine itcRange_q (X := Int × Tok) (b := true) hC V (.head _) rfl (by omega) (fun y => (Rg, rgO 0 n 1 t5 t6 t7) :: [(L + 1, oc), (x, instObj 170 d), (d, srcD w l y.1 t1 tb t2 y.2)]) (fun j y ys => y.1 = at_ + 2 * (j : Int) /\ IntsAre ys ((List.range j).map fun (q : Nat) => u16v l (at_ + 2 * (q : Int)))) (at_, ta) rfl ⟨(Int.add_zero _).symm, .nil⟩ ?_ ?_
 ·intro j v hx2 ys c' z' env' hj hx8 hx9 hyl hC' V' hcl' hEr hS' hF hF'
  refine el_e V' hC' fun T0 hT0 => ?_
  obtain ⟨p, tp⟩ := hx2
  obtain ⟨tj, rfl⟩ := hx8
  obtain ⟨hp, hys⟩ := hx9
  have hp : p = at_ + 2 * (j : Int) := hp
  refine cell_q V' rfl (lkc hcl' rfl) (.tail _ (.head _)) dc ?_
  refine meth_q hC' (.tail _ (.tail _ (.head _))) (.tail _ (.tail _ (.tail _ (.head _)))) rfl rfl ?_
  refine u16_q (hC'.mo rfl) hb hdx (.tail _ (.tail _ (.head _))) (fun _ => .tail (.tail (.tail .head))) (.inl (by rw [hS', hS]; exact .head _)) (fun _ t u v e _ _ => ?_) fun gg => absurd (show 0 <= p /\ p + 2 <= l.length by omega) gg
  exact hT0 (p + 2, u) _ _ ⟨by show p + 2 = _; omega, ints_next hys (by rw [e, hp])⟩
 ·rintro ⟨p, tp⟩ ys ⟨hp, hys⟩ hyl D fD
  have hp : p = at_ + 2 * (n : Int) := hp
  subst hp
  refine hK _ _ _ fun h' tk y => ?_
  exact hR g _ _ _ _ _ hys y.kp (y.at_ _ (.tail _ (.tail _ (.tail _ (.tail _ (.head _)))))) (y.at_ _ (.head _)) (h2 _ fD)
end
section
variable {w : World} {c : Cf w} {z : Zs} {m : Loc} {l : Led} {dn un : Nat} {k : Value -> Loc -> Led -> Prop} {bs : List UInt8} {i : Int} {x d : Addr} {t1 tb t2 ti : Tok} {l1 : Tok -> Led}
theorem kn_two {s : Shared} {a b : Addr} {oa ob : Obj} (hC : CfOk c dn un) (y : At c z m l s) (ha : (a, oa) ∈ l) (hb : (b, ob) ∈ l) : Kn c.base c.out s.heap [(a, oa), (b, ob)] := nn4 (hC.knn y.fr y.nw _ (y.mem ha)) (hC.knn y.fr y.nw _ (y.mem hb))
theorem rows_q {n : Int} {tn : Tok} (hC : CfOk c 840 600) (h0 : 0 <= n) (h1 : n <= 1000) (hb : bs.length <= 1000000) (hdx : @LT.lt Nat _ d x) (hx : (x, instObj 170 d) ∈ l) (U : ∀ t, Rp d (srcD w bs i t1 tb t2 ti) (srcD w bs (i + 2 * n) t1 tb t2 t) l (l1 t)) (hM : d ∈ c.S \/ Fre c d)
  (hQ : 0 <= i /\ i + 2 * n <= bs.length -> ∀ D u ys, IntsAre ys ((List.range n.toNat).map fun (j : Nat) => u16v bs (i + 2 * (j : Int))) -> Fre c D -> k (.ref D) m ((D, LCg.lst ys) :: l1 u)) (hE : ¬ (0 <= i /\ i + 2 * n <= bs.length) -> c.Er i) : WQ c z (call (.ref 160) [.ref x, .int n tn] []) k m l := by
 obtain ⟨n, rfl⟩ := Int.eq_ofNat_of_zero_le h0
 exact codeS_q hC.bt fun s y => rows_spec (by omega) hb (hC.bel y.fr) hC.G hC.hh hC.dp hC.un hdx (kn_two hC y hx (U 0).old)
  (fun h h' tk D ys u e kp hd hD hf => ⟨m, _, y.put (new := [(D, LCg.lst ys)]) (U u) hM hC.nof kp hd (nn3 ⟨hD, hf⟩) (.cons nn1 .nil), hQ h D u ys e (hC.fre y hf)⟩)
  fun f ⟨e, h⟩ h' tk ex t x => hC.er (e ▸ hE h) y (fun a ha => by rw [List.mem_singleton.mp ha]; exact ⟨hM, _, (U 0).old⟩) x
end
end
section
set_option tactic.hygienic false
open PySem PySem.W PyProof.Rows PySem.Calls PySem.Spec
noncomputable abbrev ancD (w : World) (x y : Int) (t1 t2 t3 t4 : Tok) : Obj := dictOf [⟨PyData.keyHash w.params "x", .str "x" t1, .int x t2⟩, ⟨PyData.keyHash w.params "y", .str "y" t3, .int y t4⟩] 2
section
variable {w : World} {mean : ExcName -> Option Value} {mg mb : Str -> Option Value} {A : Around} {base : Heap} {outer : List Env} {s : Shared} {R : Result -> Shared -> Prop}
theorem oin_init {bs : List UInt8} {i : Int} {x d : Addr} {tb ti : Tok} (hdx : @LT.lt Nat _ d x) (B : Below A base outer s.heap) (G : Gd w mean mg mb base) (hh : A.handled = none) (hdp : A.depth < 860) (hu : A.units + 320 < cLine) (hkn : Kn base outer s.heap [(x, instObj 170 d), (d, emptyDict)])
  (hR : ∀ h' tk' t1 t2, Kp [d] s.heap h' -> h'.get? d = some (srcD w bs i t1 tb t2 ti) -> R (.ok (.ret .none)) { s with heap := h', toks := tk' }) :
  codeS (model PW w) A (.call (.ref 99) ⟨[.ref x, .bytes bs.toArray tb, .int i ti], []⟩) R s := by
 refine enterQ 20 [d] (fun _ => False) B G hh hdp hu hkn (binds := [("self", .ref x), ("data", .bytes bs.toArray tb), ("at", .int i ti)]) (by k_is) (by k_is) (by decide) (by decide) (by first | exact BindsTo.of_eq rfl | exact binds_K (G.kin.keeps B.stays) rfl (by k_is) rfl rfl rfl) (locs rfl) (.cons (fun p hp => by rw [List.mem_singleton.mp hp]; exact (Nat.ne_of_lt hdx).symm) (.cons (fun _ h => absurd h List.not_mem_nil) .nil)) (fun _ h => h.elim) ?_ rfl rfl rfl (by decide) (by decide)
 intro c z env K hC V hf hS h1 h2 h3 hK
 have hM : d ∈ c.S \/ Fre c d := .inl (by rw [hS]; exact .head _)
 refine setA_q hC (.head _) (by decide) rfl (fun t => ⟨_, rfl, Nat.le_of_ble_eq_true rfl, .tail .head⟩) hM fun t1 => ?_
 refine setA_q hC (.head _) (by decide) rfl (fun t => ⟨_, rfl, Nat.le_of_ble_eq_true rfl, .tail .head⟩) hM fun t2 => ?_
 refine hK _ _ _ fun h' tk x => ?_
 exact hR _ _ _ _ x.kp (x.at_ _ (.tail _ (.head _)))
end
section
variable {w : World} {c : Cf w} {z : Zs} {m : Loc} {l : Led} {dn un : Nat} {k : Value -> Loc -> Led -> Prop}
theorem new_q {C fI : Addr} {vs : List Value} {P : Obj -> Prop} (hC : CfOk c dn un) (hu0 : 1 <= un) (hm : makesIn (hd.heap_1 w.params) C = true) (hi : findIn (hd.heap_1 w.params) (.ref C) "__init__" = some (some (.ref fI))) (hf : typeIn (hd.heap_1 w.params) (.ref fI) = some (.type "function"))
  (hinit : ∀ {A' : Around} {s' : Shared} {R' : Result -> Shared -> Prop} {x d : Addr}, @LT.lt Nat _ d x -> Below A' c.base c.out s'.heap -> Gd w c.mean c.mg c.mb c.base -> A'.handled = none -> A'.depth < dn + 1 -> A'.units + (un - 1) < cLine -> Kn c.base c.out s'.heap [(x, instObj C d), (d, emptyDict)] ->
   (∀ h' tk' o, P o -> Kp [d] s'.heap h' -> h'.get? d = some o -> R' (.ok (.ret .none)) { s' with heap := h', toks := tk' }) -> codeS (model PW w) A' (.call (.ref fI) ⟨.ref x :: vs, []⟩) R' s')
  (h : ∀ x d o, P o -> @LT.lt Nat _ d x -> Fre c x -> Fre c d -> k (.ref x) m ((x, instObj C d) :: (d, o) :: l)) : WQ c z (call (.ref C) vs []) k m l := by
 refine codeS_q hC.bt fun s y => ?_
 have B := hC.bel y.fr
 refine hideG ?_; intro PG9 hG9
 obtain ⟨hp, gs, dr, tk, os⟩ := s
 refine hG9 ?_; clear hG9 PG9
 have X := hC.G.kin.keeps B.stays
 refine makeS_core (makes_of X hm) (looks_findIn X hi) (fun self => bind_fn X self hf) (.inl rfl) ?_
 have k0 : Kp [] hp ((hp.push emptyDict).push (instObj C hp.objs.size)) := kp_push.trans kp_push
 have n0 : hp.get? hp.objs.size = none := none_ge (Nat.le_refl _)
 have n1 : hp.get? (hp.objs.size + 1) = none := none_ge (Nat.le_succ _)
 have g0 : ((hp.push emptyDict).push (instObj C hp.objs.size)).get? hp.objs.size = some emptyDict := Heap.get?_push_of_some _ (Heap.get?_push_size _ rfl)
 have g1 : ((hp.push emptyDict).push (instObj C hp.objs.size)).get? (hp.objs.size + 1) = some (instObj C hp.objs.size) := by heap_get
 have B2 := below_kp B k0 (fun _ h => nomatch h) (fun _ h => nomatch h)
 have B1 : Below (c.A.under (.builtin "type.__call__" ⟨.ref C :: vs, []⟩)) c.base c.out ((hp.push emptyDict).push (instObj C hp.objs.size)) := ⟨B.stack, B2.stays, B2.frames⟩
 refine hinit (d := hp.objs.size) (Nat.lt_succ_self _) B1 hC.G hC.hh (Nat.succ_lt_succ hC.dp) ?_ ?_ ?_
 ·have := hC.un
  show c.A.units + 1 + (un - 1) < cLine
  omega
 ·intro p hp'
  simp only [List.mem_cons, List.not_mem_nil, or_false] at hp'
  rcases hp' with rfl | rfl
  ·exact ⟨g1, below_none B (Nat.le_succ _)⟩
  ·exact ⟨g0, below_none B (Nat.le_refl _)⟩
 ·intro h' tk' o hP kk e1
  have kp0 : Kp [] hp h' := ⟨fun a o e _ => kk.kp a o (k0.all a o e) fun q => (by rw [List.mem_singleton.mp q, n0] at e; cases e), fun a o e => kk.ex a o (k0.all a o e)⟩
  refine ⟨rfl, m, _, y.more (new := [(hp.objs.size + 1, instObj C hp.objs.size), (hp.objs.size, o)]) kp0 (fun p hp' => ?_) (.cons (fun p hp' => by rw [List.mem_singleton.mp hp']; exact Nat.succ_ne_self _) (.cons (fun _ h => absurd h List.not_mem_nil) .nil)), h _ _ _ hP (Nat.lt_succ_self _) (hC.fre y n1) (hC.fre y n0)⟩
  rcases List.mem_cons.mp hp' with rfl | hp'
  ·exact ⟨kk.kp _ _ g1 fun q => Nat.succ_ne_self _ (List.mem_singleton.mp q), n1⟩
  ·rw [List.mem_singleton.mp hp']; exact ⟨e1, n0⟩
theorem oin_q {bs : List UInt8} {i : Int} {tb ti : Tok} (hC : CfOk c 850 330) (h : ∀ x d t1 t2, @LT.lt Nat _ d x -> Fre c x -> Fre c d -> k (.ref x) m ((x, instObj 170 d) :: (d, srcD w bs i t1 tb t2 ti) :: l)) :
  WQ c z (call (.ref 170) [.bytes bs.toArray tb, .int i ti] []) k m l :=
 new_q (P := fun o => ∃ t1 t2, o = srcD w bs i t1 tb t2 ti) hC (by decide) (by k_is) (by k_is) (by k_is) (fun hdx B G hh hdp hu hkn hR => oin_init hdx B G hh (Nat.lt_of_lt_of_le hdp (by decide)) (Nat.lt_of_le_of_lt (Nat.add_le_add_left (by decide) _) hu) hkn fun h' tk t1 t2 kk e => hR h' tk _ ⟨t1, t2, rfl⟩ kk e)
  fun x d o ⟨t1, t2, e⟩ hlt f1 f2 => e ▸ h x d t1 t2 hlt f1 f2
end
section
variable {w : World} {mean : ExcName -> Option Value} {mg mb : Str -> Option Value} {A : Around} {base : Heap} {outer : List Env} {s : Shared} {R : Result -> Shared -> Prop}
theorem anc_init {px py : Int} {x d : Addr} {t2 t4 : Tok} (hdx : @LT.lt Nat _ d x) (B : Below A base outer s.heap) (G : Gd w mean mg mb base) (hh : A.handled = none) (hdp : A.depth < 860) (hu : A.units + 320 < cLine) (hkn : Kn base outer s.heap [(x, instObj 302 d), (d, emptyDict)])
  (hR : ∀ h' tk' t1 t3, Kp [d] s.heap h' -> h'.get? d = some (ancD w px py t1 t2 t3 t4) -> R (.ok (.ret .none)) { s with heap := h', toks := tk' }) :
  codeS (model PW w) A (.call (.ref 292) ⟨[.ref x, .int px t2, .int py t4], []⟩) R s := by
 refine enterQ 20 [d] (fun _ => False) B G hh hdp hu hkn (binds := [("self", .ref x), ("x", .int px t2), ("y", .int py t4)]) (by k_is) (by k_is) (by decide) (by decide) (BindsTo.of_eq rfl) (locs rfl) (.cons (fun p hp => by rw [List.mem_singleton.mp hp]; exact (Nat.ne_of_lt hdx).symm) (.cons (fun _ h => absurd h List.not_mem_nil) .nil)) (fun _ h => h.elim) ?_ rfl rfl rfl (by decide) (by decide)
 intro c z env K hC V hf hS h1 h2 h3 hK
 have hM : d ∈ c.S \/ Fre c d := .inl (by rw [hS]; exact .head _)
 refine setA_q hC (.head _) (by decide) rfl (fun t => ⟨_, rfl, Nat.le_of_ble_eq_true rfl, .tail .head⟩) hM fun t1 => ?_
 refine setA_q hC (.head _) (by decide) rfl (fun t => ⟨_, rfl, Nat.le_of_ble_eq_true rfl, .tail .head⟩) hM fun t2 => ?_
 refine hK _ _ _ fun h' tk x => ?_
 exact hR _ _ _ _ x.kp (x.at_ _ (.tail _ (.head _)))
end
section
variable {w : World} {c : Cf w} {z : Zs} {m : Loc} {l : Led} {dn un : Nat} {k : Value -> Loc -> Led -> Prop}
theorem anc_q {px py : Int} {t2 t4 : Tok} (hC : CfOk c 850 330) (h : ∀ x d t1 t3, @LT.lt Nat _ d x -> Fre c x -> Fre c d -> k (.ref x) m ((x, instObj 302 d) :: (d, ancD w px py t1 t2 t3 t4) :: l)) :
  WQ c z (call (.ref 302) [.int px t2, .int py t4] []) k m l :=
 new_q (P := fun o => ∃ t1 t3, o = ancD w px py t1 t2 t3 t4) hC (by decide) (by k_is) (by k_is) (by k_is) (fun hdx B G hh hdp hu hkn hR => anc_init hdx B G hh (Nat.lt_of_lt_of_le hdp (by decide)) (Nat.lt_of_le_of_lt (Nat.add_le_add_left (by decide) _) hu) hkn fun h' tk t1 t3 kk e => hR h' tk _ ⟨t1, t3, rfl⟩ kk e)
  fun x d o ⟨t1, t3, e⟩ hlt f1 f2 => e ▸ h x d t1 t3 hlt f1 f2
end
end
section
set_option tactic.hygienic false
open PySem PySem.W PyProof.Rows PySem.Calls PySem.Spec
noncomputable def rdA (l : List UInt8) (a : Int) : Except Int (Int × Int) :=
 if ¬ (0 <= a /\ a + 2 <= l.length) then .error a else
 if u16v l a < 1 \/ 3 < u16v l a then .error a else
 if l.length < a + 4 then .error (a + 2) else
 if l.length < a + 6 then .error (a + 4) else
 if l.length < a + 6 + 2 * (u16v l a - 1) then .error (a + 6) else .ok (i16v (u16v l (a + 2)), i16v (u16v l (a + 4)))
section
variable {l : List UInt8} {a b v x y : Int}
theorem rdA_e1 (h : ¬ (0 <= a /\ a + 2 <= l.length)) : rdA l a = .error a := by unfold rdA; rw [if_pos h]
theorem rdA_e2 (h : 0 <= a /\ a + 2 <= l.length) (e : v = u16v l a) (hv : v < 1 \/ 3 < v) : rdA l a = .error a := by subst e; unfold rdA; rw [if_neg (fun k => k h), if_pos hv]
theorem rdA_e3 (h : 0 <= a /\ a + 2 <= l.length) (e : v = u16v l a) (h1 : ¬ v < 1) (h2 : ¬ 3 < v) (h3 : ¬ (0 <= a + 2 /\ a + 2 + 2 <= l.length)) : rdA l a = .error (a + 2) := by
 subst e; unfold rdA; rw [if_neg (fun k => k h), if_neg (by omega), if_pos (by omega)]
theorem rdA_e4 (h : 0 <= a /\ a + 2 <= l.length) (e : v = u16v l a) (h1 : ¬ v < 1) (h2 : ¬ 3 < v) (h3 : 0 <= a + 2 /\ a + 2 + 2 <= l.length) (h4 : ¬ (0 <= a + 2 + 2 /\ a + 2 + 2 + 2 <= l.length)) : rdA l a = .error (a + 2 + 2) := by
 subst e; unfold rdA; rw [if_neg (fun k => k h), if_neg (by omega), if_neg (by omega), if_pos (by omega)]; exact congrArg _ (by omega)
theorem rdA_e5 (h : 0 <= a /\ a + 2 <= l.length) (e : v = u16v l a) (h1 : ¬ v < 1) (h2 : ¬ 3 < v) (h4 : 0 <= a + 2 + 2 /\ a + 2 + 2 + 2 <= l.length) (h5 : ¬ (0 <= a + 2 + 2 + 2 /\ a + 2 + 2 + 2 + 2 * (v - 1) <= l.length)) : rdA l a = .error (a + 2 + 2 + 2) := by
 subst e; unfold rdA; rw [if_neg (fun k => k h), if_neg (by omega), if_neg (by omega), if_neg (by omega), if_pos (by omega)]; exact congrArg _ (by omega)
theorem rdA_ok (h : 0 <= a /\ a + 2 <= l.length) (e : v = u16v l a) (h1 : ¬ v < 1) (h2 : ¬ 3 < v) (ex : x = i16v (u16v l (a + 2))) (ey : y = i16v (u16v l (a + 2 + 2))) (h5 : 0 <= a + 2 + 2 + 2 /\ a + 2 + 2 + 2 + 2 * (v - 1) <= l.length) : rdA l a = .ok (x, y) := by
 have e4 : a + 2 + 2 = a + 4 := Int.add_assoc a 2 2
 rw [e4] at ey
 rw [ex, ey]
 subst e
 unfold rdA; rw [if_neg (fun k => k h), if_neg (by omega), if_neg (by omega), if_neg (by omega), if_neg (by omega)]
end
section
variable {w : World} {mean : ExcName -> Option Value} {mg mb : Str -> Option Value} {A : Around} {base : Heap} {outer : List Env} {s : Shared} {R : Result -> Shared -> Prop}
theorem read_anchor_spec {l : List UInt8} {at_ : Int} {tb ta : Tok} (hb : l.length <= 1000000) (B : Below A base outer s.heap) (G : Gd w mean mg mb base) (hh : A.handled = none) (hdp : A.depth < 830) (hu : A.units + 700 < cLine)
  (hR : ∀ px py, rdA l at_ = .ok (px, py) -> ∀ h' tk' a da t1 t2 t3 t4, @LT.lt Nat _ da a -> Kp [] s.heap h' -> h'.get? a = some (instObj 302 da) -> h'.get? da = some (ancD w px py t1 t2 t3 t4) -> s.heap.get? a = none -> s.heap.get? da = none -> R (.ok (.ret (.ref a))) { s with heap := h', toks := tk' })
  (hE : ∀ f, rdA l at_ = .error f -> ∀ h' tk' e t, FlyD base outer e (.int f t) ([] ++ fr outer) s.heap h' -> R (.error (.ref e)) { s with heap := h', toks := tk' })
  : codeS (model PW w) A (.call (.ref 327) ⟨[.bytes l.toArray tb, .int at_ ta], []⟩) R s := by
 refine enterQ 30 [] (fun f => rdA l at_ = .error f) B G hh hdp hu Kn.nil (binds := [("data", .bytes l.toArray tb), ("at", .int at_ ta)]) (by k_is) (by k_is) (by decide) (by decide) (BindsTo.of_eq rfl) (locs rfl) .nil hE ?_ rfl rfl rfl (by decide) (by decide)
 intro c z env K hC V hf hS h1 h2 h3 hK
 refine oin_q (hC.mo rfl) fun x d t1 t2 lt fx fd => ?_
 refine meth_q hC (.head _) (.tail _ (.head _)) rfl rfl ?_
 refine u16_q (hC.mo rfl) hb lt (.head _) (fun _ => .tail .head) (.inr fd) (fun g1 t u v e v0 v1 => ?_) fun g => h1 _ (rdA_e1 g)
 intro t3
 refine Two.mk (fun q => ?_) fun q => ?_
 ·intro t4
  exact h1 _ (rdA_e2 g1 e (.inl q))
 intro t4
 refine Two.mk (fun q2 => ?_) fun q2 => ?_
 ·intro t5
  exact h1 _ (rdA_e2 g1 e (.inr q2))
 refine meth_q hC (.head _) (.tail _ (.head _)) rfl rfl ?_
 refine i16_q (hC.mo rfl) hb lt (.head _) (fun _ => .tail .head) (.inr fd) (fun g2 t u vx ex => ?_) fun g => h1 _ (rdA_e3 g1 e q q2 g)
 refine meth_q hC (.head _) (.tail _ (.head _)) rfl rfl ?_
 refine i16_q (hC.mo rfl) hb lt (.head _) (fun _ => .tail .head) (.inr fd) (fun g3 t u vy ey => ?_) fun g => h1 _ (rdA_e4 g1 e q q2 g2 g)
 refine meth_q hC (.head _) (.tail _ (.head _)) rfl rfl ?_
 intro t6 t7
 refine rows_q (hC.mo rfl) (by omega) (by omega) hb lt (.head _) (fun _ => .tail .head) (.inr fd) (fun g4 D u ys _ _ => ?_) fun g => h1 _ (rdA_e5 g1 e q q2 g3 g)
 refine anc_q (hC.mo rfl) fun a da t8 t9 lt2 fa fda => ?_
 refine hK _ _ _ fun h' tk x => ?_
 exact hR vx vy (rdA_ok g1 e q q2 ex ey g4) _ _ _ _ _ _ _ _ lt2 x.kp (x.at_ _ (.head _)) (x.at_ _ (.tail _ (.head _))) (h2 _ fa) (h2 _ fda)
end
end
section
set_option tactic.hygienic false
open PySem PySem.W PyProof.Rows PySem.Calls PySem.Spec
section
variable {w : World} {c : Cf w} {z : Zs} {m : Loc} {l : Led} {k : Value -> Loc -> Led -> Prop} {bs : List UInt8}
theorem read_anchor_q {i : Int} {tb ti : Tok} (hC : CfOk c 830 700) (hb : bs.length <= 1000000)
  (hR : ∀ px py, rdA bs i = .ok (px, py) -> ∀ a da t1 t2 t3 t4, @LT.lt Nat _ da a -> Fre c a -> Fre c da -> k (.ref a) m ((a, instObj 302 da) :: (da, ancD w px py t1 t2 t3 t4) :: l)) (hE : ∀ f, rdA bs i = .error f -> c.Er f) : WQ c z (call (.ref 327) [.bytes bs.toArray tb, .int i ti] []) k m l :=
 codeS_q hC.bt fun s y => read_anchor_spec hb (hC.bel y.fr) hC.G hC.hh hC.dp hC.un
  (fun px py e h' tk a da t1 t2 t3 t4 lt kp h1 h2 f1 f2 => ⟨m, _, y.more (new := [(a, instObj 302 da), (da, ancD w px py t1 t2 t3 t4)]) kp (nn4 ⟨h1, f1⟩ ⟨h2, f2⟩) (.cons (nn3 (Nat.ne_of_lt lt).symm) (.cons nn1 .nil)), hR px py e a da t1 t2 t3 t4 lt (hC.fre y f1) (hC.fre y f2)⟩)
  fun f e h' tk ex t x => hC.er (hE f e) y nn0 x
theorem behind_q {beg off : Int} {tb t1 t2 : Tok} (hC : CfOk c 825 720) (hb : bs.length <= 1000000) (hN : off = 0 -> k .none m l)
  (hR : off ≠ 0 -> ∀ px py, rdA bs (beg + off) = .ok (px, py) -> ∀ a da t1 t2 t3 t4, @LT.lt Nat _ da a -> Fre c a -> Fre c da -> k (.ref a) m ((a, instObj 302 da) :: (da, ancD w px py t1 t2 t3 t4) :: l)) (hE : off ≠ 0 -> ∀ f, rdA bs (beg + off) = .error f -> c.Er f) :
  WQ c z (call (.ref 348) [.bytes bs.toArray tb, .int beg t1, .int off t2] []) k m l := by
 refine enter0 20 [] hC (by decide) (by decide) nn1 (binds := [("data", .bytes bs.toArray tb), ("begin", .int beg t1), ("offset", .int off t2)]) (by k_is) (by k_is) (fun s _ => BindsTo.of_eq rfl) (locs rfl) (fun _ => .nil) ?_ rfl rfl rfl (by decide) (by decide)
 intro c' z' env K hC' V hf hS h1 h2 hK
 intro t3
 refine Two.mk (fun q => ?_) fun q => ?_
 ·exact hK _ _ _ [] nn1 nn2 (hN q)
 intro t4
 refine read_anchor_q (hC'.mo rfl) hb (fun px py e a da t1 t2 t3 t4 lt f1 f2 => ?_) fun f e => h1 _ (hE q f e)
 exact hK _ _ _ [_, _] (nn4 ⟨.head _, f1⟩ ⟨.tail _ (.head _), f2⟩) (fun h => nd_pre h) (hR q px py e _ _ _ _ _ _ lt (h2 _ f1) (h2 _ f2))
theorem lu16_q {i : Int} {tb ti : Tok} (hC : CfOk c 860 500) (h0 : 0 <= i) (hb : bs.length <= 1000000) (hR : i + 2 <= bs.length -> ∀ t v, v = u16v bs i -> 0 <= v -> v < 65536 -> k (.int v t) m l) (hE : ¬ (i + 2 <= bs.length) -> c.Er i) :
  WQ c z (call (.ref 463) [.bytes bs.toArray tb, .int i ti] []) k m l := by
 refine enter0 20 [] hC (by decide) (by decide) nn1 (binds := [("data", .bytes bs.toArray tb), ("at", .int i ti)]) (by k_is) (by k_is) (fun s _ => BindsTo.of_eq rfl) (locs rfl) (fun _ => .nil) ?_ rfl rfl rfl (by decide) (by decide)
 intro c' z' env K hC' V hf hS h1 h2 hK
 intro t1 t2
 refine lenB_q hb fun t3 => ?_
 refine Two.mk (fun q => ?_) fun q => ?_
 ·intro t4
  exact h1 _ (hE (by omega))
 intro t4
 refine itemB_q hb h0 (by omega) fun t5 => ?_
 refine And.intro (.of_left (by decide)) ?_
 intro t6 t7 t8
 refine itemB_q hb (by omega) (by omega) fun t9 => ?_
 intro t10
 have b1 := (bs.getD i.toNat 0).toNat_lt
 have b2 := (bs.getD (i + 1).toNat 0).toNat_lt
 refine hK _ _ _ [] nn1 nn2 (hR (by omega) _ _ ?_ (by omega) (by omega))
 unfold u16v
 rw [show i.toNat + 1 = (i + 1).toNat by omega]
end
end
section
set_option tactic.hygienic false
open PySem PySem.W PyProof.Rows PySem.Calls PySem.Spec
noncomputable abbrev tupO (vs : List Value) : Obj := { cls := .type "tuple", data := .seq vs.toArray }
theorem ints_two {ys : List Value} {f : Nat -> Int} (h : IntsAre ys ((List.range 2).map f)) : ∃ ta tb, ys = [.int (f 0) ta, .int (f 1) tb] := by
 have h' : IntsAre ys [f 0, f 1] := h
 cases h' with
 | cons _ ta r => cases r with
  | cons _ tb r => cases r; exact ⟨ta, tb, rfl⟩
section
variable {w : World} {c : Cf w} {z : Zs} {m : Loc} {l : Led} {k : Value -> Loc -> Led -> Prop} {bs : List UInt8}
theorem lanchor_q {i : Int} {tb ti : Tok} (hC : CfOk c 850 600) (h0 : 0 <= i) (hb : bs.length <= 1000000)
  (hR : ∀ px py, rdA bs i = .ok (px, py) -> ∀ T tx ty, Fre c T -> k (.ref T) m ((T, tupO [.int px tx, .int py ty]) :: l)) (hE : ∀ f, rdA bs i = .error f -> c.Er f) : WQ c z (call (.ref 470) [.bytes bs.toArray tb, .int i ti] []) k m l := by
 refine enter0 40 [] hC (by decide) (by decide) nn1 (binds := [("data", .bytes bs.toArray tb), ("at", .int i ti)]) (by k_is) (by k_is) (fun s _ => BindsTo.of_eq rfl) (locs rfl) (fun _ => .nil) ?_ rfl rfl rfl (by decide) (by decide)
 intro c' z' env K hC' V hf hS h1 h2 hK
 refine lu16_q (hC'.mo rfl) h0 hb (fun g1 t v e v0 v1 => ?_) fun g => h1 _ (hE _ (rdA_e1 (by omega)))
 intro t1 t2 t3
 refine newTup_q hC' (szl rfl) fun T fT => ?_
 refine notin3_q (.head _) (fun q1 q2 q3 => ?_) fun q => ?_
 ·intro t4
  exact h1 _ (hE _ (rdA_e2 (by omega) e (by omega)))
 refine newList_q hC' (szl rfl) fun N fN => ?_
 refine for_e hC' V hf rfl ?_
 intro t4 t5 t6 t7
 refine newTup_q hC' (szl rfl) fun S fS => ?_
 refine itTup_q (X := Led × List Value × Nat × Option Value × Option Value) hC' hf
  (fun x => [("data", some (.bytes bs.toArray tb)), ("at", some (.int i ti)), ("form", some (.int v t)), ("numbers", some (.ref N)), ("place", x.2.2.2.1), ("number", x.2.2.2.2)])
  (fun x => x.1 ++ [(S, tupQ [.int (i + 2) t5, .int (i + 4) t7] 0), (N, PySem.W.listOf x.2.1.toArray x.2.2.1), (T, tupQ [.int 1 t1, .int 2 t2, .int 3 t3] 0)])
  (fun j x => i + 2 + 2 * j <= bs.length /\ IntsAre x.2.1 ((List.range j).map fun (q : Nat) => i16v (u16v bs (i + 2 + 2 * q)))) ([], [], 0, none, none) rfl rfl ⟨by omega, .nil⟩ (fun x => List.mem_append_right _ (.head _)) ?_ ?_
 ·intro j v0 x z1 hv hz hok
  obtain ⟨hl, hys⟩ := hok
  have key : ∃ tj, v0 = .int (i + 2 + 2 * j) tj /\ j < 2 := by
   match j, hv with
   | 0, hv => exact ⟨t5, by cases hv; rw [show i + 2 + 2 * ((0 : Nat) : Int) = i + 2 by omega], by decide⟩
   | 1, hv => exact ⟨t7, by cases hv; rw [show i + 2 + 2 * ((1 : Nat) : Int) = i + 4 by omega], by decide⟩
  obtain ⟨tj, rfl, hj⟩ := key
  refine body_e 20 hC' (by decide) (by decide) V hf hz fun T0 hT0 => ?_
  refine lu16_q (hC'.mo rfl) (by omega) hb (fun g2 t8 v2 e2 w0 w1 => ?_) fun g => h1 _ (hE _ ?_)
  ·have hys2 : ∀ {n : Int} (tn : Tok), n = i16v v2 -> IntsAre (x.2.1 ++ [.int n tn]) ((List.range (j + 1)).map fun (q : Nat) => i16v (u16v bs (i + 2 + 2 * q))) := fun tn en => by
    rw [List.range_succ, List.map_append, en, e2]
    exact hys.append (.cons _ _ .nil)
   refine lmApp_q (mR (.tail _ (.head _))) ?_
   intro t9
   refine Two.mk (fun q9 => ?_) fun q9 => ?_
   ·intro t10 t11
    refine app_q hC' (.app (.tail .head)) (.inr fN) (by have := hys.length; rw [List.length_map, List.length_range] at this; omega) ?_
    exact hT0 (x.1, _, _, some _, some _) ⟨by omega, hys2 _ (by unfold i16v; first | rw [if_pos (by omega)] | rw [if_neg (by omega)])⟩
   ·refine app_q hC' (.app (.tail .head)) (.inr fN) (by have := hys.length; rw [List.length_map, List.length_range] at this; omega) ?_
    exact hT0 (x.1, _, _, some _, some _) ⟨by omega, hys2 _ (by unfold i16v; first | rw [if_pos (by omega)] | rw [if_neg (by omega)])⟩
  ·have : j = 0 \/ j = 1 := by omega
   rcases this with rfl | rfl
   ·rw [show i + 2 + 2 * ((0 : Nat) : Int) = i + 2 by omega]
    exact rdA_e3 (by omega) e (by omega) (by omega) (by omega)
   ·rw [show i + 2 + 2 * ((1 : Nat) : Int) = i + 2 + 2 by omega]
    exact rdA_e4 (by omega) e (by omega) (by omega) (by omega) (by omega)
 ·intro x hok
  obtain ⟨hl, hys⟩ := hok
  refine hideG ?_; intro PG9 hG9
  obtain ⟨own, ys, n9, p9, q9⟩ := x
  refine hG9 ?_; clear hG9 PG9
  have hl : i + 2 + 2 * ((2 : Nat) : Int) <= bs.length := hl
  have hys : IntsAre ys ((List.range 2).map fun (q : Nat) => i16v (u16v bs (i + 2 + 2 * q))) := hys
  obtain ⟨ta, tb2, rfl⟩ := ints_two hys
  intro t8 t9 t10
  intro t11 t12
  refine And.intro (.of_left (by decide)) ?_
  intro t13 t14
  refine lenB_q hb fun t15 => ?_
  refine Two.mk (fun q => ?_) fun q => ?_
  ·intro t16 t17 t18
   exact h1 _ (hE _ (by rw [show i + 6 = i + 2 + 2 + 2 by omega]; exact rdA_e5 (by omega) e (by omega) (by omega) (by omega) (by omega)))
  intro t16
  refine itemL_q (mR (.tail _ (.head _))) (by decide) (by decide) rfl ?_
  intro t17
  refine itemL_q (mR (.tail _ (.head _))) (by decide) (by decide) rfl ?_
  refine newTup_q hC' (szl rfl) fun R9 fR => ?_
  exact hK _ _ _ [_] (nn3 ⟨.head _, fR⟩) (fun h => nd_pre h) (hR _ _ (rdA_ok (by omega) e (by omega) (by omega) (congrArg (fun q => i16v (u16v bs q)) (by omega)) (congrArg (fun q => i16v (u16v bs q)) (by omega)) (by omega)) _ _ _ (h2 _ fR))
end
end
section
open PySem PySem.W PyProof.Rows PySem.Calls PySem.Spec
noncomputable def hi8 (n : Int) : UInt8 := (n / 256 % 256).toNat.toUInt8
noncomputable def lo8 (n : Int) : UInt8 := (n % 256).toNat.toUInt8
noncomputable abbrev outD (w : World) (b : Addr) (t1 : Tok) : Obj := dictOf [⟨PyData.keyHash w.params "made", .str "made" t1, .ref b⟩] 1
noncomputable def w16 (v : Int) : List UInt8 := [hi8 (v % 65536), lo8 (v % 65536)]
noncomputable def ok16 (n : Int) : Prop := -32768 <= n /\ n <= 32767
noncomputable def ancB (x y : Int) : List UInt8 := [] ++ [hi8 1, lo8 1] ++ w16 x ++ w16 y
noncomputable def wrB : Option (Int × Int) -> Dat
 | none => .none
 | some p => .bytes (ancB p.1 p.2).toArray
noncomputable def rowsB (ns : List Int) : List UInt8 := ns.flatMap fun n => [hi8 n, lo8 n]
theorem rowsB_len (ns : List Int) : (rowsB ns).length = 2 * ns.length := by
 induction ns with
 | nil => rfl
 | cons n ns ih => unfold rowsB at ih ⊢; rw [List.flatMap_cons, List.length_append, ih]; simp only [List.length_cons, List.length_nil]; omega
theorem rowsB_take {ns : List Int} {i : Nat} (h : i < ns.length) : rowsB (ns.take (i + 1)) = rowsB (ns.take i) ++ [hi8 (ns.getD i 0), lo8 (ns.getD i 0)] := by
 unfold rowsB
 rw [List.take_succ, List.flatMap_append, List.getElem?_eq_getElem h]
 simp [List.getD, List.getElem?_eq_getElem h]
noncomputable abbrev Pls := List (List UInt8 × Int)
noncomputable def plAt (ps : Pls) (b : List UInt8) : Option Int := (ps.find? fun x => x.1 = b).map (·.2)
structure LaidSt where
 offs : List Int
 ps : Pls
 out : List UInt8
noncomputable def laidStep (beg : Int) (st : LaidSt) : Option (List UInt8) -> LaidSt
 | none => { st with offs := st.offs ++ [0] }
 | some b => match plAt st.ps b with
  | some q => { st with offs := st.offs ++ [q] }
  | none => ⟨st.offs ++ [beg + st.out.length], st.ps ++ [(b, beg + (st.out.length : Int))], st.out ++ b⟩
noncomputable def laidS (beg : Int) (ds : List (Option (List UInt8))) : LaidSt := ds.foldl (laidStep beg) ⟨[], [], []⟩
theorem laidS_succ {beg : Int} {ds : List (Option (List UInt8))} {i : Nat} {d : Option (List UInt8)} (h : ds[i]? = some d) : laidS beg (ds.take (i + 1)) = laidStep beg (laidS beg (ds.take i)) d := by
 unfold laidS
 rw [List.take_succ, h]
 simp
theorem laidF_len {beg : Int} {n : Nat} : ∀ {ds : List (Option (List UInt8))} (st : LaidSt), (∀ b, some b ∈ ds -> b.length <= n) -> (ds.foldl (laidStep beg) st).out.length <= st.out.length + n * ds.length /\ (ds.foldl (laidStep beg) st).ps.length <= st.ps.length + ds.length /\ (ds.foldl (laidStep beg) st).offs.length = st.offs.length + ds.length
 | [], st, _ => ⟨Nat.le_add_right _ _, Nat.le_refl _, rfl⟩
 | d :: ds, st, h => by
  have ih := laidF_len (beg := beg) (n := n) (ds := ds) (laidStep beg st d) fun b hb => h b (.tail _ hb)
  rw [List.foldl_cons, List.length_cons]
  have h3 : n * (ds.length + 1) = n * ds.length + n := Nat.mul_succ _ _
  have key : (laidStep beg st d).out.length <= st.out.length + n /\ (laidStep beg st d).ps.length <= st.ps.length + 1 /\ (laidStep beg st d).offs.length = st.offs.length + 1 := by
   cases d with
   | none => exact ⟨Nat.le_add_right _ _, Nat.le_succ _, List.length_append⟩
   | some b =>
    have hb := h b (.head _)
    unfold laidStep
    dsimp only
    split
    ·exact ⟨Nat.le_add_right _ _, Nat.le_succ _, List.length_append⟩
    ·exact ⟨by rw [List.length_append]; omega, by rw [List.length_append]; exact Nat.le_refl _, List.length_append⟩
  exact ⟨Nat.le_trans ih.1 (Nat.le_trans (Nat.add_le_add_right key.1 _) (Nat.le_of_eq (by rw [h3, Nat.add_assoc, Nat.add_comm n]))), Nat.le_trans ih.2.1 (Nat.le_trans (Nat.add_le_add_right key.2.1 _) (Nat.le_of_eq (by rw [Nat.add_assoc, Nat.add_comm 1]))), ih.2.2.trans (by rw [key.2.2, Nat.add_assoc, Nat.add_comm 1])⟩
theorem laidS_len {beg : Int} {n : Nat} {ds : List (Option (List UInt8))} (h : ∀ b, some b ∈ ds -> b.length <= n) : (laidS beg ds).out.length <= n * ds.length /\ (laidS beg ds).ps.length <= ds.length /\ (laidS beg ds).offs.length = ds.length := by
 have := laidF_len (beg := beg) (n := n) (ds := ds) ⟨[], [], []⟩ h
 simpa [laidS] using this
theorem plAt_mem {ps : Pls} {b : List UInt8} {q : Int} (h : plAt ps b = some q) : ∃ p ∈ ps, p.2 = q := by
 unfold plAt at h
 obtain ⟨p, hp, e⟩ := Option.map_eq_some_iff.mp h
 exact ⟨p, List.mem_of_find?_eq_some hp, e⟩
theorem laidF_bnd {beg : Int} {n N : Nat} (h0 : 0 <= beg) : ∀ {ds : List (Option (List UInt8))} (st : LaidSt), (∀ b, some b ∈ ds -> b.length <= n) -> (∀ o ∈ st.offs, 0 <= o /\ o <= beg + N) -> (∀ p ∈ st.ps, 0 <= p.2 /\ p.2 <= beg + N) -> st.out.length + n * ds.length <= N ->
  ∀ o ∈ (ds.foldl (laidStep beg) st).offs, 0 <= o /\ o <= beg + N
 | [], st, _, ho, _, _ => ho
 | d :: ds, st, h, ho, hp, hN => by
  rw [List.foldl_cons]
  rw [List.length_cons, Nat.mul_succ] at hN
  have hds : ∀ b, some b ∈ ds -> b.length <= n := fun b hb => h b (.tail _ hb)
  have snoc : ∀ v : Int, 0 <= v -> v <= beg + N -> ∀ o ∈ st.offs ++ [v], 0 <= o /\ o <= beg + N := fun v h1 h2 o hm => by
   rcases List.mem_append.mp hm with hm | hm
   ·exact ho o hm
   ·rw [List.mem_singleton.mp hm]; exact ⟨h1, h2⟩
  cases d with
  | none => exact laidF_bnd h0 (laidStep beg st none) hds (snoc 0 (Int.le_refl _) (by omega)) hp (by show st.out.length + _ <= N; omega)
  | some b =>
   have hb := h b (.head _)
   cases q : plAt st.ps b with
   | some v =>
    have e : laidStep beg st (some b) = { st with offs := st.offs ++ [v] } := by unfold laidStep; dsimp only; rw [q]
    obtain ⟨p, hpm, rfl⟩ := plAt_mem q
    rw [e]
    exact laidF_bnd h0 _ hds (snoc _ (hp p hpm).1 (hp p hpm).2) hp (by show st.out.length + _ <= N; omega)
   | none =>
    have e : laidStep beg st (some b) = ⟨st.offs ++ [beg + st.out.length], st.ps ++ [(b, beg + (st.out.length : Int))], st.out ++ b⟩ := by unfold laidStep; dsimp only; rw [q]
    rw [e]
    refine laidF_bnd h0 _ hds (snoc _ (by omega) (by omega)) (fun p hm => ?_) (by show (st.out ++ b).length + _ <= N; rw [List.length_append]; omega)
    rcases List.mem_append.mp hm with hm | hm
    ·exact hp p hm
    ·rw [List.mem_singleton.mp hm]; exact ⟨by show (0 : Int) <= beg + st.out.length; omega, by show beg + (st.out.length : Int) <= _; omega⟩
theorem laidS_bnd {beg : Int} {n : Nat} {ds : List (Option (List UInt8))} (h0 : 0 <= beg) (h : ∀ b, some b ∈ ds -> b.length <= n) : ∀ o ∈ (laidS beg ds).offs, 0 <= o /\ o <= beg + ((n * ds.length : Nat) : Int) :=
 laidF_bnd (N := n * ds.length) h0 ⟨[], [], []⟩ h (fun _ h => nomatch h) (fun _ h => nomatch h) (by simp)
noncomputable def PartV (d : Option (List UInt8)) (v : Value) : Prop := match d with
 | none => v = .none
 | some b => ∃ t, v = .bytes b.toArray t
structure PartsAre (vs : List Value) (ds : List (Option (List UInt8))) : Prop where
 len : vs.length = ds.length
 at_ : ∀ (i : Nat) v, vs[i]? = some v -> ∃ d, ds[i]? = some d /\ PartV d v
theorem PartsAre.snoc {vs : List Value} {ds : List (Option (List UInt8))} {d : Option (List UInt8)} {v : Value} (h : PartsAre vs ds) (hv : PartV d v) : PartsAre (vs ++ [v]) (ds ++ [d]) := ⟨by simp [h.len], fun i v' e => by
 by_cases q : i < vs.length
 ·rw [List.getElem?_append_left q] at e
  rw [List.getElem?_append_left (by rw [<- h.len]; exact q)]
  exact h.at_ i v' e
 ·have q2 : i = vs.length := by
   have := (List.getElem?_eq_some_iff.mp e).1
   rw [List.length_append, List.length_singleton] at this
   omega
  subst q2
  rw [List.getElem?_append_right (Nat.le_refl _), Nat.sub_self] at e
  cases e
  rw [h.len, List.getElem?_append_right (Nat.le_refl _), Nat.sub_self]
  exact ⟨_, rfl, hv⟩⟩
noncomputable def plOf (vals : List (List UInt8 × Int × Tok)) : Pls := vals.map fun x => (x.1, x.2.1)
theorem plAt_of (vals : List (List UInt8 × Int × Tok)) (b : List UInt8) : plAt (plOf vals) b = PySem.intAt vals b := by
 unfold plAt plOf PySem.intAt
 rw [List.find?_map, Option.map_map]
 rfl
structure Mk where
 g : Int
 c : Int
 x : Int
 y : Int
noncomputable def AncIn (w : World) (own : List (Addr × Obj)) (v : Value) (p : Int × Int) : Prop := ∃ a da t1 t2 t3 t4, v = .ref a /\ (a, instObj 302 da) ∈ own /\ (da, ancD w p.1 p.2 t1 t2 t3 t4) ∈ own /\ @LT.lt Nat _ da a
structure MarksAre (w : World) (own : List (Addr × Obj)) (kvs : List (Int × Value)) (ms : List Mk) : Prop where
 perm : (ms.map (·.g)).Perm (kvs.map (·.1))
 ord : (ms.map (·.g)).Pairwise (· <= ·)
 at_ : ∀ m ∈ ms, ∃ T tc v, valueAt kvs m.g = some (.ref T) /\ (T, tupO [.int m.c tc, v]) ∈ own /\ AncIn w own v (m.x, m.y)
theorem MarksAre.len {w : World} {own : List (Addr × Obj)} {kvs : List (Int × Value)} {ms : List Mk} (h : MarksAre w own kvs ms) : kvs.length = ms.length := by
 have := h.perm.length_eq
 simpa using this.symm
noncomputable def wmS (ms : List Mk) : LaidSt := laidS (2 + 4 * (ms.length : Int)) (ms.map fun m => some (ancB m.x m.y))
noncomputable def wmRow (ms : List Mk) (i : Nat) : List UInt8 := [hi8 (ms.getD i ⟨0, 0, 0, 0⟩).c, lo8 (ms.getD i ⟨0, 0, 0, 0⟩).c] ++ [hi8 ((wmS ms).offs.getD i 0), lo8 ((wmS ms).offs.getD i 0)]
noncomputable def wmB (ms : List Mk) : List UInt8 := [] ++ [hi8 ms.length, lo8 ms.length] ++ (List.range ms.length).flatMap (wmRow ms) ++ (wmS ms).out
theorem wm_pre_len (ms : List Mk) (i : Nat) : ((List.range i).flatMap (wmRow ms)).length = 4 * i := by
 induction i with
 | zero => rfl
 | succ i ih =>
  rw [List.range_succ, List.flatMap_append, List.length_append]
  have : (List.flatMap (wmRow ms) [i]).length = 4 := by simp [wmRow]
  omega
noncomputable abbrev AnR := List (Option (Int × Int))
noncomputable def RowEl (w : World) (own : List (Addr × Obj)) (v : Value) : Option (Int × Int) -> Prop
 | none => v = .none
 | some p => AncIn w own v p
structure RowAre (w : World) (own : List (Addr × Obj)) (us : List Value) (r : AnR) : Prop where
 len : us.length = r.length
 at_ : ∀ (i : Nat) v, us[i]? = some v -> ∃ d, r[i]? = some d /\ RowEl w own v d
structure RowsAre (w : World) (own : List (Addr × Obj)) (vs : List Value) (rs : List AnR) : Prop where
 len : vs.length = rs.length
 at_ : ∀ (i : Nat) v, vs[i]? = some v -> ∃ T us r, v = .ref T /\ rs[i]? = some r /\ (T, tupO us) ∈ own /\ RowAre w own us r
noncomputable def prtE (d : Option (Int × Int)) : Option (List UInt8) := d.map fun p => ancB p.1 p.2
noncomputable def prtR (r : AnR) : List (Option (List UInt8)) := r.map prtE
noncomputable def prtS (rs : List AnR) : List (Option (List UInt8)) := rs.flatMap prtR
noncomputable def warS (rs : List AnR) : LaidSt := laidS (2 + 2 * ((prtS rs).length : Int)) (prtS rs)
noncomputable def warB (rs : List AnR) : List UInt8 := [] ++ [hi8 rs.length, lo8 rs.length] ++ rowsB (warS rs).offs ++ (warS rs).out
noncomputable def SameLen (rs : List AnR) : Prop := ∀ r ∈ rs, r.length = (rs.headD []).length
theorem prt6 {rs : List AnR} : ∀ b, some b ∈ prtS rs -> b.length <= 6 := fun b hb => by
 obtain ⟨r, _, h⟩ := List.mem_flatMap.mp hb
 obtain ⟨d, _, e⟩ := List.mem_map.mp h
 cases d with
 | none => cases e
 | some p => cases e; exact Nat.le_refl _
theorem prt_len {rs : List AnR} (h : ∀ r ∈ rs, r.length <= 8) : (prtS rs).length <= 8 * rs.length := by
 unfold prtS
 induction rs with
 | nil => exact Nat.zero_le _
 | cons r rs ih =>
  rw [List.flatMap_cons, List.length_append, List.length_cons]
  have := ih fun r hr => h r (.tail _ hr)
  have h1 := h r (.head _)
  have h2 : (prtR r).length = r.length := List.length_map ..
  omega
theorem PartsAre.append {vs us : List Value} {ds es : List (Option (List UInt8))} (h : PartsAre vs ds) (k : PartsAre us es) : PartsAre (vs ++ us) (ds ++ es) := ⟨by simp [h.len, k.len], fun i v e => by
 by_cases q : i < vs.length
 ·rw [List.getElem?_append_left q] at e
  rw [List.getElem?_append_left (by rw [<- h.len]; exact q)]
  exact h.at_ i v e
 ·rw [List.getElem?_append_right (by omega)] at e
  rw [List.getElem?_append_right (by rw [<- h.len]; omega), <- h.len]
  exact k.at_ _ v e⟩
theorem prtR_snoc {r : AnR} {j : Nat} {d : Option (Int × Int)} (h : r[j]? = some d) : prtR (r.take (j + 1)) = prtR (r.take j) ++ [prtE d] := by
 unfold prtR
 rw [List.take_succ, h, Option.toList_some, List.map_append]; rfl
theorem prtS_snoc {rs : List AnR} {j : Nat} {r : AnR} (h : rs[j]? = some r) : prtS (rs.take (j + 1)) = prtS (rs.take j) ++ prtR r := by
 unfold prtS
 rw [List.take_succ, h, Option.toList_some, List.flatMap_append, List.flatMap_cons, List.flatMap_nil, List.append_nil]
noncomputable def foldE {α : Type} (f : Nat -> Except Int α) : Nat -> Except Int (List α)
 | 0 => .ok []
 | n + 1 => match foldE f n with
  | .error e => .error e
  | .ok xs => match f n with
   | .error e => .error e
   | .ok x => .ok (xs ++ [x])
theorem foldE_ok {α : Type} {f : Nat -> Except Int α} {n : Nat} {xs : List α} {x : α} (h : foldE f n = .ok xs) (hx : f n = .ok x) : foldE f (n + 1) = .ok (xs ++ [x]) := by
 simp only [foldE, h, hx]
theorem foldE_er {α : Type} {f : Nat -> Except Int α} {i n : Nat} {xs : List α} {e : Int} (h : foldE f i = .ok xs) (hx : f i = .error e) (hi : i < n) : foldE f n = .error e := by
 obtain ⟨k, rfl⟩ : ∃ k, n = i + 1 + k := ⟨n - (i + 1), (Nat.add_sub_of_le hi).symm⟩
 induction k with
 | zero => simp only [Nat.add_zero, foldE, h, hx]
 | succ k ih => rw [<- Nat.add_assoc]; simp only [foldE, ih (by omega)]
theorem foldE_len {α : Type} {f : Nat -> Except Int α} : ∀ {n : Nat} {xs : List α}, foldE f n = .ok xs -> xs.length = n
 | 0, xs, h => by cases h; rfl
 | n + 1, xs, h => by
  unfold foldE at h
  split at h
  ·cases h
  ·rename_i ys hy
   split at h
   ·cases h
   ·cases h; rw [List.length_append, foldE_len hy]; rfl
noncomputable def rdM1 (l : List UInt8) (at_ cl g p : Int) : Except Int Mk :=
 if l.length < p + 2 then .error p else
 if cl <= u16v l p then .error p else
 if l.length < p + 2 + 2 then .error (p + 2) else
 if u16v l (p + 2) = 0 then .error (p + 2) else
 match rdA l (at_ + u16v l (p + 2)) with
 | .error f => .error f
 | .ok q => .ok ⟨g, u16v l p, q.1, q.2⟩
noncomputable def rdMi (l : List UInt8) (at_ cl : Int) (gs : List Int) (i : Nat) : Except Int Mk := rdM1 l at_ cl (gs.getD i 0) (at_ + 2 + 4 * (i : Int))
noncomputable def rdM (l : List UInt8) (at_ cl : Int) (gs : List Int) : Except Int (List Mk) :=
 if l.length < at_ + 2 then .error at_ else
 if u16v l at_ ≠ gs.length then .error at_ else foldE (rdMi l at_ cl gs) gs.length
theorem valueAt_app {kvs r : List (Int × Value)} {k : Int} {v : Value} (h : valueAt kvs k = some v) : valueAt (kvs ++ r) k = some v := by
 unfold valueAt at h ⊢
 rw [List.find?_append]
 obtain ⟨p, hp, e⟩ := Option.map_eq_some_iff.mp h
 rw [hp]; exact congrArg some e
theorem valueAt_new {kvs : List (Int × Value)} {k : Int} {v : Value} (h : k ∉ kvs.map (·.1)) : valueAt (kvs ++ [(k, v)]) k = some v := by
 unfold valueAt
 rw [List.find?_append, List.find?_eq_none.mpr]
 ·simp
 ·intro p hp q
  exact h (List.mem_map.mpr ⟨p, hp, by simpa using q⟩)
theorem stored_new {kvs : List (Int × Value)} {k : Int} {v : Value} (h : k ∉ kvs.map (·.1)) : stored kvs k v = kvs ++ [(k, v)] := by
 unfold stored
 rw [if_neg]
 intro q
 obtain ⟨p, hp, e⟩ := List.any_eq_true.mp q
 exact h (List.mem_map.mpr ⟨p, hp, by simpa using e⟩)
theorem AncIn.mono {w : World} {own own' : List (Addr × Obj)} {v : Value} {p : Int × Int} (h : AncIn w own v p) (hs : ∀ q ∈ own, q ∈ own') : AncIn w own' v p := by
 refine hideG ?_; intro PG9 hG9
 obtain ⟨a, da, t1, t2, t3, t4, e, h1, h2, h3⟩ := h
 refine hG9 ?_; clear hG9 PG9
 exact ⟨a, da, t1, t2, t3, t4, e, hs _ h1, hs _ h2, h3⟩
theorem MarksAre.nil {w : World} {own : List (Addr × Obj)} : MarksAre w own [] [] := ⟨.refl _, .nil, fun _ h => nomatch h⟩
theorem MarksAre.snoc {w : World} {own own' : List (Addr × Obj)} {kvs : List (Int × Value)} {ms : List Mk} {m : Mk} {T : Addr} {tc : Tok} {v : Value} (h : MarksAre w own kvs ms) (hs : ∀ q ∈ own, q ∈ own') (hle : ∀ g ∈ ms.map (·.g), g <= m.g) (hne : m.g ∉ ms.map (·.g))
  (hT : (T, tupO [.int m.c tc, v]) ∈ own') (hv : AncIn w own' v (m.x, m.y)) : MarksAre w own' (stored kvs m.g (.ref T)) (ms ++ [m]) := by
 have hn : m.g ∉ kvs.map (·.1) := fun q => hne (h.perm.mem_iff.mpr q)
 rw [stored_new hn]
 refine ⟨?_, ?_, fun m' hm => ?_⟩
 ·rw [List.map_append, List.map_append]; exact h.perm.append (.refl _)
 ·rw [List.map_append]
  refine List.pairwise_append.mpr ⟨h.ord, by simp, fun a ha b hb => ?_⟩
  simp only [List.map_cons, List.map_nil, List.mem_singleton] at hb
  rw [hb]; exact hle a ha
 ·rcases List.mem_append.mp hm with hm | hm
  ·refine hideG ?_; intro PG9 hG9
   obtain ⟨T', tc', v', h1, h2, h3⟩ := h.at_ m' hm
   refine hG9 ?_; clear hG9 PG9
   exact ⟨T', tc', v', valueAt_app h1, hs _ h2, h3.mono hs⟩
  ·rw [List.mem_singleton.mp hm]
   exact ⟨T, tc, v, valueAt_new hn, hT, hv⟩
noncomputable abbrev covD (w : World) (G : Addr) (t1 : Tok) : Obj := dictOf [⟨PyData.keyHash w.params "glyphs", .str "glyphs" t1, .ref G⟩] 1
noncomputable def ptD (x y : Int) : Dat := .tuple [.int x, .int y]
noncomputable def mkD (m : Mk) : Dat := .tuple [.int m.g, .int m.c, ptD m.x m.y]
noncomputable def mksD (ms : List Mk) : Dat := .tuple (ms.map mkD)
theorem tupO_inj {vs us : List Value} (h : tupO vs = tupO us) : vs = us := by
 have := congrArg (fun o : Obj => match o.data with | .seq a _ => a.toList | _ => []) h
 simpa using this
noncomputable def rdEl (l : List UInt8) (at_ off : Int) : Except Int (Option (Int × Int)) := if off = 0 then .ok none else match rdA l (at_ + off) with
 | .error f => .error f
 | .ok q => .ok (some q)
noncomputable def rdRow (l : List UInt8) (at_ cl p : Int) : Except Int AnR := if l.length < p + 2 * cl then .error p else foldE (fun j => rdEl l at_ (u16v l (p + 2 * (j : Int)))) cl.toNat
noncomputable def rdRows (l : List UInt8) (at_ cnt cl : Int) : Except Int (List AnR) := if l.length < at_ + 2 then .error at_ else if 0 <= cnt /\ u16v l at_ ≠ cnt then .error at_ else
 foldE (fun i => rdRow l at_ cl (at_ + 2 + 2 * cl * (i : Int))) (u16v l at_).toNat
theorem RowEl.mono {w : World} {own own' : List (Addr × Obj)} (hs : ∀ q ∈ own, q ∈ own') {v : Value} {d : Option (Int × Int)} (h : RowEl w own v d) : RowEl w own' v d := by
 cases d with
 | none => exact h
 | some p => exact AncIn.mono h hs
theorem RowAre.mono {w : World} {own own' : List (Addr × Obj)} (hs : ∀ q ∈ own, q ∈ own') {us : List Value} {r : AnR} (h : RowAre w own us r) : RowAre w own' us r := ⟨h.len, fun i v e => let ⟨d, a, b⟩ := h.at_ i v e; ⟨d, a, b.mono hs⟩⟩
theorem RowsAre.mono {w : World} {own own' : List (Addr × Obj)} (hs : ∀ q ∈ own, q ∈ own') {vs : List Value} {rs : List AnR} (h : RowsAre w own vs rs) : RowsAre w own' vs rs := ⟨h.len, fun i v e => let ⟨T, us, r, a, b, c, d⟩ := h.at_ i v e; ⟨T, us, r, a, b, hs _ c, d.mono hs⟩⟩
theorem get_snoc {α : Type} {xs : List α} {x y : α} {i : Nat} (e : (xs ++ [x])[i]? = some y) : xs[i]? = some y \/ (i = xs.length /\ y = x) := by
 by_cases q : i < xs.length
 ·rw [List.getElem?_append_left q] at e; exact .inl e
 ·have h2 := (List.getElem?_eq_some_iff.mp e).1
  rw [List.length_append, List.length_singleton] at h2
  have q2 : i = xs.length := by omega
  subst q2
  rw [List.getElem?_append_right (Nat.le_refl _), Nat.sub_self] at e
  exact .inr ⟨rfl, (Option.some.inj e).symm⟩
theorem get_snoc_old {α : Type} {xs : List α} {x y : α} {i : Nat} (e : xs[i]? = some y) : (xs ++ [x])[i]? = some y := by
 rw [List.getElem?_append_left (List.getElem?_eq_some_iff.mp e).1]; exact e
theorem get_snoc_new {α : Type} {xs : List α} {x : α} : (xs ++ [x])[xs.length]? = some x := by
 rw [List.getElem?_append_right (Nat.le_refl _), Nat.sub_self]; rfl
theorem RowAre.nil {w : World} {own : List (Addr × Obj)} : RowAre w own [] [] := ⟨rfl, fun i v h => by cases h⟩
theorem RowAre.snoc {w : World} {own : List (Addr × Obj)} {us : List Value} {r : AnR} {v : Value} {d : Option (Int × Int)} (h : RowAre w own us r) (hv : RowEl w own v d) : RowAre w own (us ++ [v]) (r ++ [d]) := ⟨by simp [h.len], fun i x e => by
 rcases get_snoc e with e | ⟨e2, rfl⟩
 ·obtain ⟨d', a, b⟩ := h.at_ i x e
  exact ⟨d', get_snoc_old a, b⟩
 ·exact ⟨d, (by rw [e2, h.len]; exact get_snoc_new), hv⟩⟩
theorem RowsAre.nil {w : World} {own : List (Addr × Obj)} : RowsAre w own [] [] := ⟨rfl, fun i v h => by cases h⟩
theorem RowsAre.snoc {w : World} {own : List (Addr × Obj)} {vs us : List Value} {rs : List AnR} {r : AnR} {T : Addr} (h : RowsAre w own vs rs) (hT : (T, tupO us) ∈ own) (hv : RowAre w own us r) : RowsAre w own (vs ++ [.ref T]) (rs ++ [r]) := ⟨by simp [h.len], fun i x e => by
 rcases get_snoc e with e | ⟨e2, rfl⟩
 ·refine hideG ?_; intro PG9 hG9
  obtain ⟨T', us', r', a, b, c, d⟩ := h.at_ i x e
  refine hG9 ?_; clear hG9 PG9
  exact ⟨T', us', r', a, get_snoc_old b, c, d⟩
 ·exact ⟨T, us, r, rfl, (by rw [e2, h.len]; exact get_snoc_new), hT, hv⟩⟩
noncomputable def ptO : Option (Int × Int) -> Dat
 | none => .none
 | some p => ptD p.1 p.2
noncomputable def rowD (r : AnR) : Dat := .tuple (r.map ptO)
noncomputable def rowsD (rs : List AnR) : Dat := .tuple (rs.map rowD)
theorem menu_of {l : List Int} {P : Int -> Prop} {i : Nat} (h : i < l.length) (hl : ∀ x ∈ l, P x) : P (l.getD i 0) := by
 rw [List.getD_eq_getElem?_getD, List.getElem?_eq_getElem h]
 exact hl _ (List.getElem_mem h)
theorem way_ok {a v : Int} (h0 : 0 < a) (h1 : a < 5) (h2 : 0 <= v) (h3 : v < [4, 2000, 65536, 40].getD (a - 1).toNat 0) : ok16 (v - [0, 1000, 32768, 20].getD (a - 1).toNat 0) := by
 unfold ok16
 obtain e | e | e | e : a = 1 \/ a = 2 \/ a = 3 \/ a = 4 := by omega
 all_goals (subst e; simp at h3 ⊢; omega)
theorem u16v_nn (l : List UInt8) (p : Int) : 0 <= u16v l p := by unfold u16v; omega
noncomputable def Oct (ns : List Int) : Prop := ∀ n ∈ ns, 0 <= n /\ n < 256
theorem Oct.nil : Oct [] := fun _ h => absurd h List.not_mem_nil
theorem Oct.app {a b : List Int} (h : Oct a) (k : Oct b) : Oct (a ++ b) := fun n hn => (List.mem_append.mp hn).elim (h n) (k n)
theorem Oct.cons {n : Int} {b : List Int} (h : 0 <= n /\ n < 256) (k : Oct b) : Oct (n :: b) := fun m hm => (List.mem_cons.mp hm).elim (fun e => e ▸ h) (k m)
noncomputable def OctRow (own : List (Addr × Obj)) (v : Value) : Prop := ∃ Q us ns n, v = .ref Q /\ (Q, PySem.W.listOf us.toArray n) ∈ own /\ IntsAre us ns /\ ns.length = 10 /\ Oct ns
theorem OctRow.mono {own own' : List (Addr × Obj)} {v : Value} (h : OctRow own v) (hs : ∀ q ∈ own, q ∈ own') : OctRow own' v := by
 refine hideG ?_; intro PG9 hG9
 obtain ⟨Q, us, ns, n, a, b, c⟩ := h
 refine hG9 ?_; clear hG9 PG9
 exact ⟨Q, us, ns, n, a, hs _ b, c⟩
end
section
set_option tactic.hygienic false
open PySem PySem.W PyProof.Rows PySem.Calls PySem.Spec
noncomputable def Seg (l : List UInt8) (p : Nat) (b : List UInt8) : Prop := ∃ r, l.drop p = b ++ r /\ p <= l.length
theorem Seg.len {l : List UInt8} {p : Nat} {b : List UInt8} (h : Seg l p b) : p + b.length <= l.length := by
 obtain ⟨r, e, hp⟩ := h
 have := congrArg List.length e
 rw [List.length_drop, List.length_append] at this
 omega
theorem Seg.left {l : List UInt8} {p : Nat} {a b : List UInt8} (h : Seg l p (a ++ b)) : Seg l p a := by
 obtain ⟨r, e, hp⟩ := h
 exact ⟨b ++ r, by rw [e, List.append_assoc], hp⟩
theorem Seg.right {l : List UInt8} {p : Nat} {a b : List UInt8} (h : Seg l p (a ++ b)) : Seg l (p + a.length) b := by
 have hl := h.len
 obtain ⟨r, e, hp⟩ := h
 refine ⟨r, ?_, by rw [List.length_append] at hl; omega⟩
 rw [<- List.drop_drop, e, List.append_assoc, List.drop_left]
theorem Seg.all (l : List UInt8) : Seg l 0 l := ⟨[], by simp, Nat.zero_le _⟩
theorem Seg.pre {l b : List UInt8} {p : Nat} (a : List UInt8) (h : Seg l p b) : Seg (a ++ l) (a.length + p) b := by
 obtain ⟨r, e, hp⟩ := h
 exact ⟨r, by rw [<- List.drop_drop, List.drop_left, e], by rw [List.length_append]; omega⟩
theorem Seg.post {l b : List UInt8} {p : Nat} (a : List UInt8) (h : Seg l p b) : Seg (l ++ a) p b := by
 obtain ⟨r, e, hp⟩ := h
 exact ⟨r ++ a, by rw [List.drop_append_of_le_length hp, e, List.append_assoc], by rw [List.length_append]; omega⟩
theorem Seg.two {l : List UInt8} {p : Nat} {x y : UInt8} (h : Seg l p [x, y]) : l.getD p 0 = x /\ l.getD (p + 1) 0 = y := by
 obtain ⟨r, e, hp⟩ := h
 have h0 : (l.drop p)[0]? = some x := by rw [e]; rfl
 have h1 : (l.drop p)[1]? = some y := by rw [e]; rfl
 rw [List.getElem?_drop] at h0 h1
 rw [List.getD_eq_getElem?_getD, List.getD_eq_getElem?_getD]
 rw [Nat.add_zero] at h0
 rw [h0, h1]
 exact ⟨rfl, rfl⟩
theorem hi_lo {n : Int} (h0 : 0 <= n) (h1 : n < 65536) : 256 * ((hi8 n).toNat : Int) + (lo8 n).toNat = n := by
 have e1 : (hi8 n).toNat = (n / 256).toNat := by
  unfold hi8
  have : n / 256 % 256 = n / 256 := Int.emod_eq_of_lt (by omega) (by omega)
  rw [this]
  show ((n / 256).toNat.toUInt8).toNat = _
  rw [Nat.toUInt8, UInt8.toNat_ofNat']
  exact Nat.mod_eq_of_lt (by omega)
 have e2 : (lo8 n).toNat = (n % 256).toNat := by
  unfold lo8
  rw [Nat.toUInt8, UInt8.toNat_ofNat']
  exact Nat.mod_eq_of_lt (by omega)
 rw [e1, e2, Int.toNat_of_nonneg (Int.ediv_nonneg h0 (by decide)), Int.toNat_of_nonneg (Int.emod_nonneg n (by decide))]
 exact Int.mul_ediv_add_emod n 256
theorem Seg.u16 {l : List UInt8} {p : Nat} {n : Int} {a : Int} (h : Seg l p [hi8 n, lo8 n]) (h0 : 0 <= n) (h1 : n < 65536) (ha : a = p) : u16v l a = n := by
 subst ha
 obtain ⟨e1, e2⟩ := h.two
 unfold u16v
 rw [Int.toNat_natCast, e1, e2]
 exact hi_lo h0 h1
theorem i16_w {x : Int} (h : ok16 x) : i16v (x % 65536) = x := by
 unfold ok16 at h
 unfold i16v
 split <;> omega
theorem Seg.rdA {l : List UInt8} {p : Nat} {x y : Int} {a : Int} (h : Seg l p (ancB x y)) (hx : ok16 x) (hy : ok16 y) (ha : a = p) : rdA l a = .ok (x, y) := by
 have hl := h.len
 have h1 : Seg l p [hi8 1, lo8 1] := h.left.left
 have h2 : Seg l (p + 2) (w16 x) := (Seg.right (a := [] ++ [hi8 1, lo8 1]) h.left)
 have h3 : Seg l (p + 4) (w16 y) := (Seg.right (a := [] ++ [hi8 1, lo8 1] ++ w16 x) h)
 have hl : p + 6 <= l.length := hl
 have e1 := h1.u16 (a := a) (by decide) (by decide) ha
 have e2 := h2.u16 (a := a + 2) (by omega) (by omega) (by omega)
 have e3 := h3.u16 (a := a + 4) (by omega) (by omega) (by omega)
 unfold Mine.rdA
 rw [e1, e2, e3, i16_w hx, i16_w hy, if_neg (by omega), if_neg (by omega), if_neg (by omega), if_neg (by omega), if_neg (by omega)]
theorem Seg.get {b : Nat -> List UInt8} {k : Nat} (hb : ∀ i, (b i).length = k) : ∀ {n i : Nat} {l : List UInt8} {p : Nat}, Seg l p ((List.range n).flatMap b) -> i < n -> Seg l (p + k * i) (b i)
 | 0, i, l, p, _, hi => absurd hi (Nat.not_lt_zero _)
 | n + 1, i, l, p, h, hi => by
  rw [List.range_succ, List.flatMap_append] at h
  by_cases q : i < n
  ·exact Seg.get hb h.left q
  ·have e : i = n := by omega
   subst e
   have := h.right
   have hl : ((List.range i).flatMap b).length = k * i := by
    clear this h hi q
    induction i with
    | zero => rfl
    | succ i ih =>
     rw [List.range_succ, List.flatMap_append, List.length_append, ih]
     have : (List.flatMap b [i]).length = k := by simp [hb]
     rw [this, Nat.mul_succ]
   rw [hl] at this
   have e : List.flatMap b [i] = b i := by simp
   rw [e] at this
   exact this
theorem foldE_all {α : Type} {f : Nat -> Except Int α} {xs : List α} : ∀ {n : Nat}, n <= xs.length -> (∀ i x, i < n -> xs[i]? = some x -> f i = .ok x) -> foldE f n = .ok (xs.take n)
 | 0, _, _ => by simp [foldE]
 | n + 1, hn, h => by
  have hg : xs[n]? = some (xs[n]'(by omega)) := List.getElem?_eq_getElem (by omega)
  rw [foldE_ok (foldE_all (n := n) (by omega) fun i x hi => h i x (by omega)) (h n _ (by omega) hg), List.take_succ, hg]
  rfl
structure LaidOk (beg : Int) (ds : List (Option (List UInt8))) (st : LaidSt) : Prop where
 at_ : ∀ (i : Nat) d, ds[i]? = some d -> ∃ o, st.offs[i]? = some o /\ match d with
  | none => o = 0
  | some b => ∃ k : Nat, o = beg + k /\ Seg st.out k b
 pl : ∀ b q, plAt st.ps b = some q -> ∃ k : Nat, q = beg + k /\ Seg st.out k b
 len : st.offs.length = ds.length
 nd : (st.ps.map (·.1)).Nodup
 mem : ∀ b, b ∈ st.ps.map (·.1) ↔ some b ∈ ds
theorem plAt_app {ps r : Pls} {b : List UInt8} : plAt (ps ++ r) b = (plAt ps b).or (plAt r b) := by
 unfold plAt
 rw [List.find?_append]
 cases ps.find? fun x => x.1 = b <;> rfl
theorem plAt_none {ps : Pls} {b : List UInt8} : plAt ps b = none ↔ b ∉ ps.map (·.1) := by
 unfold plAt
 rw [Option.map_eq_none_iff, List.find?_eq_none]
 simp only [List.mem_map, decide_eq_true_eq, not_exists, not_and]
theorem LaidOk.snoc {beg : Int} {ds : List (Option (List UInt8))} {st : LaidSt} (h : LaidOk beg ds st) (d : Option (List UInt8)) : LaidOk beg (ds ++ [d]) (laidStep beg st d) := by
 have key : ∀ (st' : LaidSt) (o : Int), st'.offs = st.offs ++ [o] -> (∀ k b, Seg st.out k b -> Seg st'.out k b) -> (match d with
  | none => o = 0
  | some b => ∃ k : Nat, o = beg + k /\ Seg st'.out k b) -> ∀ (i : Nat) d', (ds ++ [d])[i]? = some d' -> ∃ o, st'.offs[i]? = some o /\ match d' with
  | none => o = 0
  | some b => ∃ k : Nat, o = beg + k /\ Seg st'.out k b := by
  intro st' o he hk ho i d' hi
  by_cases q : i < ds.length
  ·rw [List.getElem?_append_left q] at hi
   obtain ⟨o', h1, h2⟩ := h.at_ i d' hi
   refine ⟨o', by rw [he, List.getElem?_append_left (by rw [h.len]; exact q), h1], ?_⟩
   cases d' with
   | none => exact h2
   | some b => obtain ⟨k, e, z⟩ := h2; exact ⟨k, e, hk _ _ z⟩
  ·have hl : i = ds.length := by
    have := (List.getElem?_eq_some_iff.mp hi).1
    rw [List.length_append] at this
    simp at this
    omega
   subst hl
   rw [List.getElem?_append_right (Nat.le_refl _), Nat.sub_self] at hi
   cases hi
   exact ⟨o, by rw [he, <- h.len, List.getElem?_append_right (Nat.le_refl _), Nat.sub_self]; rfl, ho⟩
 cases d with
 | none =>
  refine ⟨key _ 0 rfl (fun _ _ z => z) rfl, h.pl, by show (st.offs ++ [0]).length = _; rw [List.length_append, List.length_append, h.len]; rfl, h.nd, fun b => ?_⟩
  rw [show (laidStep beg st none).ps = st.ps from rfl, h.mem, List.mem_append]
  constructor
  ·exact .inl
  ·rintro (z | z)
   ·exact z
   ·exact absurd (List.mem_singleton.mp z) (by simp)
 | some b =>
  cases q : plAt st.ps b with
  | some v =>
   have e : laidStep beg st (some b) = { st with offs := st.offs ++ [v] } := by unfold laidStep; dsimp only; rw [q]
   rw [e]
   refine ⟨key _ v rfl (fun _ _ z => z) (h.pl b v q), h.pl, by show (st.offs ++ [v]).length = _; rw [List.length_append, List.length_append, h.len]; rfl, h.nd, fun b' => ?_⟩
   rw [show ({ st with offs := st.offs ++ [v] } : LaidSt).ps = st.ps from rfl, h.mem, List.mem_append]
   constructor
   ·exact .inl
   ·rintro (z | z)
    ·exact z
    ·have e3 := Option.some.inj (List.mem_singleton.mp z)
     rw [e3]
     exact (h.mem b).mp (Classical.byContradiction fun n => by rw [plAt_none.mpr n] at q; cases q)
  | none =>
   have e : laidStep beg st (some b) = ⟨st.offs ++ [beg + st.out.length], st.ps ++ [(b, beg + (st.out.length : Int))], st.out ++ b⟩ := by unfold laidStep; dsimp only; rw [q]
   rw [e]
   have hs : Seg (st.out ++ b) st.out.length b := ⟨[], by rw [List.drop_left, List.append_nil], by rw [List.length_append]; omega⟩
   refine ⟨key _ _ rfl (fun _ _ z => z.post _) ⟨st.out.length, rfl, hs⟩, fun b' q' hq => ?_, by show (st.offs ++ _).length = _; rw [List.length_append, List.length_append, h.len]; rfl, ?_, fun b' => ?_⟩
   ·rw [plAt_app] at hq
    cases z : plAt st.ps b' with
    | some v =>
     rw [z] at hq
     cases hq
     obtain ⟨k, e1, e2⟩ := h.pl b' _ z
     exact ⟨k, e1, e2.post _⟩
    | none =>
     rw [z] at hq
     unfold plAt at hq
     by_cases y : b = b'
     ·subst y
      simp at hq
      exact ⟨st.out.length, hq.symm, hs⟩
     ·simp [y] at hq
   ·rw [List.map_append]
    refine List.nodup_append.mpr ⟨h.nd, by simp, ?_⟩
    intro a ha c hc he
    rw [show c = b from by simpa using hc] at he
    subst he
    exact plAt_none.mp q ha
   ·rw [List.map_append, List.mem_append, List.mem_append, h.mem]
    simp
theorem laid_ok (beg : Int) (ds : List (Option (List UInt8))) : LaidOk beg ds (laidS beg ds) := by
 unfold laidS
 have : ∀ (r done : List (Option (List UInt8))) (st : LaidSt), LaidOk beg done st -> LaidOk beg (done ++ r) (r.foldl (laidStep beg) st) := by
  intro r
  induction r with
  | nil => intro done st h; rw [List.append_nil]; exact h
  | cons d r ih =>
   intro done st h
   rw [List.foldl_cons]
   have := ih (done ++ [d]) _ (h.snoc d)
   rw [List.append_assoc] at this
   exact this
 have := this ds [] ⟨[], [], []⟩ ⟨fun i d e => by simp at e, fun b q e => by simp [plAt] at e, rfl, by simp, fun b => by simp⟩
 exact this
theorem laid_out {beg : Int} {n : Nat} {ds : List (Option (List UInt8))} (h : ∀ b, some b ∈ ds -> b.length = n) : (laidS beg ds).out.length = n * (laidS beg ds).ps.length := by
 unfold laidS
 have : ∀ (r : List (Option (List UInt8))) (st : LaidSt), (∀ b, some b ∈ r -> b.length = n) -> st.out.length = n * st.ps.length -> (r.foldl (laidStep beg) st).out.length = n * (r.foldl (laidStep beg) st).ps.length := by
  intro r
  induction r with
  | nil => intro st _ e; exact e
  | cons d r ih =>
   intro st hr e
   rw [List.foldl_cons]
   refine ih _ (fun b hb => hr b (.tail _ hb)) ?_
   cases d with
   | none => exact e
   | some b =>
    have hb := hr b (.head _)
    unfold laidStep
    dsimp only
    split
    ·exact e
    ·show (st.out ++ b).length = n * (st.ps ++ _).length
     rw [List.length_append, List.length_append, e, hb, Nat.mul_add]
     simp
 exact this ds _ h rfl
theorem Seg.sub {l o b : List UInt8} {p k : Nat} (h : Seg l p o) (h2 : Seg o k b) : Seg l (p + k) b := by
 have hl := h.len
 have hk := h2.len
 obtain ⟨r, e, hp⟩ := h2
 obtain ⟨r2, e2, hp2⟩ := h
 refine ⟨r ++ r2, ?_, by omega⟩
 rw [<- List.drop_drop, e2, List.drop_append_of_le_length (by omega), e, List.append_assoc]
theorem anc_inj {x y x' y' : Int} (hx : ok16 x) (hy : ok16 y) (hx' : ok16 x') (hy' : ok16 y') (h : ancB x y = ancB x' y') : x = x' /\ y = y' := by
 have e1 := (Seg.all (ancB x y)).rdA (a := 0) hx hy rfl
 have e2 := (Seg.all (ancB x' y')).rdA (a := 0) hx' hy' rfl
 rw [h, e2] at e1
 cases e1
 exact ⟨rfl, rfl⟩
theorem anc_len (x y : Int) : (ancB x y).length = 6 := rfl
theorem rdA_anc {x y : Int} (hx : ok16 x) (hy : ok16 y) : rdA (ancB x y) 0 = .ok (x, y) := (Seg.all _).rdA hx hy rfl
theorem nodup_same {α : Type} [DecidableEq α] : ∀ {l r : List α}, l.Nodup -> (∀ x ∈ l, x ∈ r) -> l.length <= r.length
 | [], _, _, _ => Nat.zero_le _
 | a :: l, r, hn, hs => by
  obtain ⟨h1, h2⟩ := List.nodup_cons.mp hn
  have := nodup_same (l := l) (r := r.erase a) h2 fun x hx => (List.mem_erase_of_ne (fun q : x = a => h1 (by rw [<- q]; exact hx))).mpr (hs x (.tail _ hx))
  have ha := hs a (.head _)
  rw [List.length_erase_of_mem ha] at this
  have := List.length_pos_of_mem ha
  rw [List.length_cons]
  omega
theorem nodup_count {α β : Type} [DecidableEq α] [DecidableEq β] {f : α -> β} {l : List α} {r : List β} (hl : l.Nodup) (hr : r.Nodup) (hinj : ∀ a ∈ l, ∀ b ∈ l, f a = f b -> a = b) (hm : ∀ b, b ∈ r ↔ ∃ a ∈ l, f a = b) : l.length = r.length := by
 have h1 : (l.map f).Nodup := by
  clear hm hr
  induction l with
  | nil => simp
  | cons a l ih =>
   obtain ⟨n1, n2⟩ := List.nodup_cons.mp hl
   rw [List.map_cons]
   refine List.nodup_cons.mpr ⟨fun q => ?_, ih n2 fun a ha b hb => hinj a (.tail _ ha) b (.tail _ hb)⟩
   obtain ⟨b, hb, e⟩ := List.mem_map.mp q
   have := hinj b (.tail _ hb) a (.head _) e
   subst this
   exact n1 hb
 have a := nodup_same h1 fun x hx => (hm x).mpr (by simpa using hx)
 have b := nodup_same (r := l.map f) hr fun x hx => by simpa using (hm x).mp hx
 rw [List.length_map] at a b
 omega
theorem laid_count {beg : Int} {ds : List (Option (List UInt8))} {KS : List (List Int)} (hk : KS.Nodup) (h6 : ∀ b, some b ∈ ds -> ∃ x y, ok16 x /\ ok16 y /\ b = ancB x y) (hm : ∀ q, q ∈ KS ↔ ∃ x y, ok16 x /\ ok16 y /\ q = [x, y] /\ some (ancB x y) ∈ ds) : (laidS beg ds).out.length = 6 * KS.length := by
 rw [laid_out (n := 6) fun b hb => by obtain ⟨x, y, _, _, rfl⟩ := h6 b hb; rfl]
 have L := laid_ok beg ds
 have : KS.length = ((laidS beg ds).ps.map (·.1)).length := by
  refine nodup_count (f := fun q => ancB (q.getD 0 0) (q.getD 1 0)) hk L.nd ?_ ?_
  ·intro a ha b hb e
   refine hideG ?_; intro PG9 hG9
   obtain ⟨x, y, hx, hy, rfl, _⟩ := (hm a).mp ha
   refine hG9 ?_; clear hG9 PG9
   refine hideG ?_; intro PG9 hG9
   obtain ⟨x', y', hx', hy', rfl, _⟩ := (hm b).mp hb
   refine hG9 ?_; clear hG9 PG9
   obtain ⟨rfl, rfl⟩ := anc_inj hx hy hx' hy' e
   rfl
  ·intro b
   rw [L.mem]
   constructor
   ·intro hb
    refine hideG ?_; intro PG9 hG9
    obtain ⟨x, y, hx, hy, rfl⟩ := h6 b hb
    refine hG9 ?_; clear hG9 PG9
    exact ⟨[x, y], (hm _).mpr ⟨x, y, hx, hy, rfl, hb⟩, rfl⟩
   ·rintro ⟨a, ha, rfl⟩
    refine hideG ?_; intro PG9 hG9
    obtain ⟨x, y, hx, hy, rfl, h⟩ := (hm a).mp ha
    refine hG9 ?_; clear hG9 PG9
    exact h
 rw [this, List.length_map]
theorem off_bnd {beg : Int} {n : Nat} {ds : List (Option (List UInt8))} {i : Nat} {b : List UInt8} (h : ds[i]? = some (some b)) (h6 : ∀ b, some b ∈ ds -> b.length <= n) : ∃ k : Nat, (laidS beg ds).offs[i]? = some (beg + k) /\ Seg (laidS beg ds).out k b := by
 refine hideG ?_; intro PG9 hG9
 obtain ⟨o, h1, k, rfl, h2⟩ := (laid_ok beg ds).at_ i _ h
 refine hG9 ?_; clear hG9 PG9
 exact ⟨k, h1, h2⟩
theorem fm_len {α : Type} {b : α -> List UInt8} {k : Nat} (hb : ∀ i, (b i).length = k) : ∀ (l : List α), (l.flatMap b).length = k * l.length
 | [] => rfl
 | a :: l => by rw [List.flatMap_cons, List.length_append, hb, fm_len hb l, List.length_cons, Nat.mul_succ, Nat.add_comm]
theorem wmB_len (ms : List Mk) : (wmB ms).length = 2 + 4 * ms.length + (wmS ms).out.length := by
 unfold wmB
 rw [List.length_append, List.length_append, fm_len (k := 4) (fun i => rfl), List.length_range]
 simp
theorem wm_parts (ms : List Mk) : ∀ b, some b ∈ (ms.map fun m => some (ancB m.x m.y)) -> b.length = 6 := fun b hb => by
 obtain ⟨m, _, e⟩ := List.mem_map.mp hb
 cases e
 rfl
theorem laid_out_le {beg : Int} {n : Nat} {ds : List (Option (List UInt8))} (h : ∀ b, some b ∈ ds -> b.length = n) : (laidS beg ds).out.length <= n * ds.length := by
 rw [laid_out h]
 refine Nat.mul_le_mul_left _ ?_
 have L := laid_ok beg ds
 have := nodup_same (l := ((laidS beg ds).ps.map (·.1)).map some) (r := ds) (by
  have hn := L.nd
  generalize (laidS beg ds).ps.map (·.1) = l at hn
  induction l with
  | nil => simp
  | cons a l ih =>
   obtain ⟨n1, n2⟩ := List.nodup_cons.mp hn
   rw [List.map_cons]
   exact List.nodup_cons.mpr ⟨fun q => by simp at q; exact n1 q, ih n2⟩) fun x hx => by
  obtain ⟨b, hb, rfl⟩ := List.mem_map.mp hx
  exact (L.mem b).mp hb
 rw [List.length_map, List.length_map] at this
 exact this
theorem wmB_le {ms : List Mk} : (wmB ms).length <= 2 + 10 * ms.length := by
 rw [wmB_len]
 have := laid_out_le (beg := 2 + 4 * (ms.length : Int)) (wm_parts ms)
 rw [List.length_map] at this
 have : (wmS ms).out.length <= 6 * ms.length := this
 omega
set_option maxHeartbeats 4000000 in
theorem rdM_wmB {ms : List Mk} {ah : List UInt8} {at_ cl : Int} {gs : List Int} (hn : ms.length <= 100) (hat : at_ = ah.length) (hgs : gs = ms.map (·.g)) (hcl : cl <= 65536) (hok : ∀ m ∈ ms, ok16 m.x /\ ok16 m.y /\ 0 <= m.c /\ m.c < cl) : rdM (ah ++ wmB ms) at_ cl gs = .ok ms := by
 subst hat hgs
 have hA : Seg (ah ++ wmB ms) ah.length (wmB ms) := Seg.pre ah (Seg.all (wmB ms))
 have hO : Seg (ah ++ wmB ms) (ah.length + (2 + 4 * ms.length)) (wmS ms).out := by
  have := hA.right (a := [] ++ [hi8 ms.length, lo8 ms.length] ++ (List.range ms.length).flatMap (wmRow ms))
  rw [List.length_append, fm_len (k := 4) (fun i => rfl), List.length_range] at this
  exact this
 have h0 : Seg (ah ++ wmB ms) ah.length [hi8 ms.length, lo8 ms.length] := hA.left.left
 have hR : Seg (ah ++ wmB ms) (ah.length + 2) ((List.range ms.length).flatMap (wmRow ms)) := (Seg.right (a := [] ++ [hi8 ms.length, lo8 ms.length]) hA.left)
 have hl0 := h0.len
 have e0 := h0.u16 (a := (ah.length : Int)) (by omega) (by omega) rfl
 have hlen := hO.len
 unfold rdM
 rw [List.length_map, e0, if_neg (by simp only [List.length_cons, List.length_nil] at hl0; omega), if_neg (by simp)]
 have := foldE_all (f := rdMi (ah ++ wmB ms) ah.length cl (ms.map (·.g))) (xs := ms) (n := ms.length) (Nat.le_refl _) ?_
 ·rw [List.take_length] at this
  exact this
 intro i m hi hm
 have hmem := List.mem_of_getElem? hm
 refine hideG ?_; intro PG9 hG9
 obtain ⟨hx, hy, hc0, hc1⟩ := hok m hmem
 refine hG9 ?_; clear hG9 PG9
 have h66 : ∀ b, some b ∈ (ms.map fun m => some (ancB m.x m.y)) -> b.length <= 6 := fun b hb => Nat.le_of_eq (wm_parts ms b hb)
 have hds : (ms.map fun m => some (ancB m.x m.y))[i]? = some (some (ancB m.x m.y)) := by rw [List.getElem?_map, hm, Option.map_some]
 have z := off_bnd (beg := 2 + 4 * (ms.length : Int)) hds h66
 obtain ⟨k, hk⟩ := z
 have hk1 := hk.1
 have hk2 := hk.2
 have hb : (laidS (2 + 4 * (ms.length : Int)) (ms.map fun m => some (ancB m.x m.y))) = wmS ms := rfl
 rw [hb] at hk1 hk2
 have hkl := hk2.len
 rw [anc_len] at hkl
 have hle := wmB_le (ms := ms)
 rw [wmB_len] at hle
 have hRi := hR.get (k := 4) (fun i => rfl) hi
 have eg : ms.getD i ⟨0, 0, 0, 0⟩ = m := by rw [List.getD_eq_getElem?_getD, hm]; rfl
 have eo : (wmS ms).offs.getD i 0 = 2 + 4 * (ms.length : Int) + k := by rw [List.getD_eq_getElem?_getD, hk1]; rfl
 unfold wmRow at hRi
 rw [eg, eo] at hRi
 have hRl := hRi.len
 simp only [List.length_append, List.length_cons, List.length_nil] at hRl
 have e1 := hRi.left.u16 (a := (ah.length : Int) + 2 + 4 * (i : Int)) hc0 (by omega) (by omega)
 have e2 := (Seg.right (a := [hi8 m.c, lo8 m.c]) hRi).u16 (a := (ah.length : Int) + 2 + 4 * (i : Int) + 2) (by omega) (by omega) (by simp only [List.length_cons, List.length_nil]; omega)
 have hAn : Seg (ah ++ wmB ms) (ah.length + (2 + 4 * ms.length) + k) (ancB m.x m.y) := hO.sub hk2
 have e3 := hAn.rdA (a := (ah.length : Int) + (2 + 4 * (ms.length : Int) + k)) hx hy (by omega)
 unfold rdMi rdM1
 have egs : (ms.map (·.g)).getD i 0 = m.g := by rw [List.getD_eq_getElem?_getD, List.getElem?_map, hm]; rfl
 rw [e1, e2, egs, e3, if_neg (by omega), if_neg (by omega), if_neg (by omega), if_neg (by omega)]
noncomputable def Wd (n : Nat) (rs : List AnR) : Prop := ∀ r ∈ rs, r.length = n
theorem prt_get {n : Nat} : ∀ {rs : List AnR}, Wd n rs -> ∀ {i j : Nat} {r : AnR} {d : Option (Int × Int)}, rs[i]? = some r -> r[j]? = some d -> (prtS rs)[n * i + j]? = some (prtE d)
 | [], _, i, j, r, d, hi, _ => by simp at hi
 | q :: rs, h, i, j, r, d, hi, hj => by
  have hq := h q (.head _)
  have hl : (prtR q).length = n := by unfold prtR; rw [List.length_map, hq]
  have hjr := (List.getElem?_eq_some_iff.mp hj).1
  show (prtR q ++ prtS rs)[n * i + j]? = _
  cases i with
  | zero =>
   rw [List.getElem?_cons_zero] at hi
   cases hi
   rw [Nat.mul_zero, Nat.zero_add, List.getElem?_append_left (by rw [hl]; omega)]
   unfold prtR
   rw [List.getElem?_map, hj, Option.map_some]
  | succ i =>
   rw [List.getElem?_cons_succ] at hi
   rw [Nat.mul_succ, List.getElem?_append_right (by rw [hl]; omega), hl, show n * i + n + j - n = n * i + j by rw [Nat.add_right_comm, Nat.add_sub_cancel]]
   exact prt_get (fun r hr => h r (.tail _ hr)) hi hj
theorem prt_lenW {n : Nat} : ∀ {rs : List AnR}, Wd n rs -> (prtS rs).length = n * rs.length
 | [], _ => rfl
 | q :: rs, h => by
  have hq := h q (.head _)
  have hl : (prtR q).length = n := by unfold prtR; rw [List.length_map, hq]
  show (prtR q ++ prtS rs).length = _
  rw [List.length_append, hl, prt_lenW fun r hr => h r (.tail _ hr), List.length_cons, Nat.mul_succ, Nat.add_comm]
theorem prt_mem {rs : List AnR} {b : List UInt8} : some b ∈ prtS rs ↔ ∃ r ∈ rs, ∃ x y, some (x, y) ∈ r /\ b = ancB x y := by
 unfold prtS prtR prtE
 rw [List.mem_flatMap]
 constructor
 ·rintro ⟨r, hr, hb⟩
  obtain ⟨d, hd, e⟩ := List.mem_map.mp hb
  cases d with
  | none => cases e
  | some p => cases e; exact ⟨r, hr, p.1, p.2, hd, rfl⟩
 ·intro hz09
  refine hideG ?_; intro PG9 hG9
  obtain ⟨r, hr, x, y, hd, rfl⟩ := hz09
  refine hG9 ?_; clear hG9 PG9
  exact ⟨r, hr, List.mem_map.mpr ⟨some (x, y), hd, rfl⟩⟩
theorem warB_len (rs : List AnR) : (warB rs).length = 2 + 2 * (prtS rs).length + (warS rs).out.length := by
 have hb : ∀ n : Int, ([hi8 n, lo8 n] : List UInt8).length = 2 := fun _ => rfl
 unfold warB rowsB
 rw [List.length_append, List.length_append, fm_len hb]
 have : (warS rs).offs.length = (prtS rs).length := (laid_ok _ (prtS rs)).len
 rw [this]
 rfl
theorem prt_six {rs : List AnR} : ∀ b, some b ∈ prtS rs -> b.length = 6 := fun b hb => by
 refine hideG ?_; intro PG9 hG9
 obtain ⟨r, _, x, y, _, rfl⟩ := prt_mem.mp hb
 refine hG9 ?_; clear hG9 PG9
 rfl
theorem warB_le {rs : List AnR} {n : Nat} (h : Wd n rs) : (warB rs).length <= 2 + 8 * (n * rs.length) := by
 rw [warB_len, prt_lenW h]
 have := laid_out_le (beg := 2 + 2 * ((prtS rs).length : Int)) (prt_six (rs := rs))
 rw [prt_lenW h] at this
 have : (warS rs).out.length <= 6 * (n * rs.length) := by unfold warS; rw [prt_lenW h]; exact this
 omega
theorem rows_seg {l : List UInt8} : ∀ {ns : List Int} {p i : Nat} {o : Int}, Seg l p (rowsB ns) -> ns[i]? = some o -> Seg l (p + 2 * i) [hi8 o, lo8 o]
 | [], p, i, o, _, hi => by simp at hi
 | n :: ns, p, i, o, h, hi => by
  have h' : Seg l p ([hi8 n, lo8 n] ++ rowsB ns) := h
  cases i with
  | zero => rw [List.getElem?_cons_zero] at hi; cases hi; exact h'.left
  | succ i =>
   rw [List.getElem?_cons_succ] at hi
   have := rows_seg h'.right hi
   have e : p + [hi8 n, lo8 n].length + 2 * i = p + 2 * (i + 1) := by simp only [List.length_cons, List.length_nil]; omega
   rw [e] at this
   exact this
theorem mulI {n a i : Nat} (h : i < a) : n * i + n <= n * a := by
 have := Nat.mul_le_mul_left n (Nat.succ_le_of_lt h)
 rw [Nat.mul_succ] at this
 exact this
theorem rdRow_war {rs : List AnR} {n : Nat} {ah : List UInt8} (hn : rs.length <= 20) (hw : n <= 20) (hW : Wd n rs) (hok : ∀ r ∈ rs, ∀ x y, some (x, y) ∈ r -> ok16 x /\ ok16 y) {i : Nat} {r : AnR} (hr : rs[i]? = some r) (hi : i < rs.length) :
  rdRow (ah ++ warB rs) ah.length n (ah.length + 2 + 2 * (n : Int) * (i : Int)) = .ok r := by
 have hA : Seg (ah ++ warB rs) ah.length (warB rs) := Seg.pre ah (Seg.all (warB rs))
 have hpl := prt_lenW hW
 have hol : (warS rs).offs.length = n * rs.length := by rw [<- hpl]; exact (laid_ok _ (prtS rs)).len
 have hb : ∀ n : Int, ([hi8 n, lo8 n] : List UInt8).length = 2 := fun _ => rfl
 have hrl : (rowsB (warS rs).offs).length = 2 * (n * rs.length) := by unfold rowsB; rw [fm_len hb, hol]
 have hO : Seg (ah ++ warB rs) (ah.length + (2 + 2 * (n * rs.length))) (warS rs).out := by
  have := hA.right (a := [] ++ [hi8 rs.length, lo8 rs.length] ++ rowsB (warS rs).offs)
  rw [List.length_append, hrl] at this
  exact this
 have hR : Seg (ah ++ warB rs) (ah.length + 2) (rowsB (warS rs).offs) := (Seg.right (a := [] ++ [hi8 rs.length, lo8 rs.length]) hA.left)
 have hmem := List.mem_of_getElem? hr
 have hrn := hW r hmem
 have hRl := hR.len
 rw [hrl] at hRl
 have hk := mulI (n := n) hi
 have e2 : (2 * (n : Int) * (i : Int)) = 2 * ((n * i : Nat) : Int) := by rw [Int.mul_assoc, Int.natCast_mul]
 have hcap : n * rs.length <= 400 := Nat.mul_le_mul hw hn
 unfold rdRow
 rw [e2, if_neg (by omega)]
 have := foldE_all (f := fun j => rdEl (ah ++ warB rs) ah.length (u16v (ah ++ warB rs) (ah.length + 2 + 2 * ((n * i : Nat) : Int) + 2 * (j : Int)))) (xs := r) (n := (n : Int).toNat) (by rw [Int.toNat_natCast, hrn]; exact Nat.le_refl _) ?_
 ·rw [Int.toNat_natCast, <- hrn, List.take_length] at this
  rw [Int.toNat_natCast, <- hrn]
  exact this
 intro j d hj hd
 rw [Int.toNat_natCast] at hj
 have hp := prt_get hW hr hd
 have z := (laid_ok (2 + 2 * ((prtS rs).length : Int)) (prtS rs)).at_ _ _ hp
 obtain ⟨o, ho, hz⟩ := z
 have ho' : (warS rs).offs[n * i + j]? = some o := ho
 have hs := rows_seg hR ho'
 cases d with
 | none =>
  have hz' : o = 0 := hz
  subst hz'
  have e := hs.u16 (a := ah.length + 2 + 2 * ((n * i : Nat) : Int) + 2 * (j : Int)) (by omega) (by omega) (by omega)
  unfold rdEl
  rw [e, if_pos rfl]
 | some p =>
  have hz' : ∃ k : Nat, o = (2 + 2 * ((prtS rs).length : Int)) + k /\ Seg (warS rs).out k (ancB p.1 p.2) := hz
  obtain ⟨k, hk1, hk2⟩ := hz'
  have hkl := hk2.len
  rw [anc_len] at hkl
  have hol2 := hO.len
  have hle := warB_le hW
  rw [warB_len, hpl] at hle
  rw [hpl] at hk1
  obtain ⟨hx, hy⟩ := hok r hmem p.1 p.2 (List.mem_of_getElem? hd)
  have e := hs.u16 (a := ah.length + 2 + 2 * ((n * i : Nat) : Int) + 2 * (j : Int)) (by omega) (by omega) (by omega)
  have e3 := (hO.sub hk2).rdA (a := (ah.length : Int) + o) hx hy (by omega)
  unfold rdEl
  rw [e, e3, if_neg (by omega)]
theorem rdRows_war {rs : List AnR} {n : Nat} {ah : List UInt8} {at_ cnt cl : Int} (hn : rs.length <= 20) (hw : n <= 20) (hat : at_ = ah.length) (hcl : cl = n) (hW : Wd n rs) (hok : ∀ r ∈ rs, ∀ x y, some (x, y) ∈ r -> ok16 x /\ ok16 y) (hc : cnt = -1 \/ cnt = rs.length) : rdRows (ah ++ warB rs) at_ cnt cl = .ok rs := by
 subst hat hcl
 have hA : Seg (ah ++ warB rs) ah.length (warB rs) := Seg.pre ah (Seg.all (warB rs))
 have h0 : Seg (ah ++ warB rs) ah.length [hi8 rs.length, lo8 rs.length] := hA.left.left
 have hl0 := h0.len
 have e0 := h0.u16 (a := (ah.length : Int)) (by omega) (by omega) rfl
 unfold rdRows
 rw [e0, if_neg (by simp only [List.length_cons, List.length_nil] at hl0; omega), if_neg (by omega)]
 have := foldE_all (f := fun i => rdRow (ah ++ warB rs) ah.length n (ah.length + 2 + 2 * (n : Int) * (i : Int))) (xs := rs) (n := (rs.length : Int).toNat) (by rw [Int.toNat_natCast]; exact Nat.le_refl _) (fun i r hi hr => rdRow_war hn hw hW hok hr (by rw [Int.toNat_natCast] at hi; exact hi))
 rw [this, Int.toNat_natCast, List.take_length]
theorem rdRows_more {rs : List AnR} {n : Nat} {cl : Int} (hn : rs.length <= 20) : rdRows (warB rs) 0 ((rs.length : Int) + 1) cl = .error 0 := by
 have hA : Seg (warB rs) 0 (warB rs) := Seg.all _
 have h0 : Seg (warB rs) 0 [hi8 rs.length, lo8 rs.length] := hA.left.left
 have hl0 := h0.len
 have e0 := h0.u16 (a := 0) (by omega) (by omega) rfl
 unfold rdRows
 rw [e0, if_neg (by simp only [List.length_cons, List.length_nil] at hl0; omega), if_pos (by omega)]
theorem unlike {rs : List AnR} {r : AnR} (h : rs[0]? = some r) : ¬ SameLen (rs ++ [r ++ [none]]) := fun q => by
 cases rs with
 | nil => simp at h
 | cons a rs =>
  rw [List.getElem?_cons_zero] at h
  cases h
  have := q (r ++ [none]) (by simp)
  simp at this
theorem same_of {rs : List AnR} {n : Nat} (h : Wd n rs) : SameLen rs := fun r hr => by
 cases rs with
 | nil => simp at hr
 | cons a rs => rw [h r hr, List.headD_cons, h a (.head _)]
end
section
set_option tactic.hygienic false
open PySem PySem.W PyProof.Rows PySem.Calls PySem.Spec
section
variable {l : List UInt8} {at_ cl v : Int} {gs : List Int}
theorem rdM_e1 (h : ¬ (at_ + 2 <= l.length)) : rdM l at_ cl gs = .error at_ := by unfold rdM; rw [if_pos (by omega)]
theorem rdM_e2 (h : at_ + 2 <= l.length) (e : v = u16v l at_) (hv : ¬ v = gs.length) : rdM l at_ cl gs = .error at_ := by subst e; unfold rdM; rw [if_neg (by omega), if_pos hv]
theorem rdM_er {i : Nat} {ms : List Mk} {g0 p f : Int} (h : at_ + 2 <= l.length) (e : v = u16v l at_) (hv : v = gs.length) (hms : foldE (rdMi l at_ cl gs) i = .ok ms) (hg : gs[i]? = some g0) (hp : p = at_ + 2 + 4 * (i : Int)) (hf : rdM1 l at_ cl g0 p = .error f) : rdM l at_ cl gs = .error f := by
 subst e
 unfold rdM
 rw [if_neg (by omega), if_neg (by omega)]
 refine foldE_er hms ?_ (List.getElem?_eq_some_iff.mp hg).1
 unfold rdMi
 rw [List.getD_eq_getElem?_getD, hg, <- hp]
 exact hf
theorem rdM_ok {ms : List Mk} (h : at_ + 2 <= l.length) (e : v = u16v l at_) (hv : v = gs.length) (hms : foldE (rdMi l at_ cl gs) gs.length = .ok ms) : rdM l at_ cl gs = .ok ms := by
 subst e
 unfold rdM
 rw [if_neg (by omega), if_neg (by omega)]
 exact hms
theorem rdM_next {i : Nat} {ms : List Mk} {k : Mk} {g0 p : Int} (hms : foldE (rdMi l at_ cl gs) i = .ok ms) (hg : gs[i]? = some g0) (hp : p = at_ + 2 + 4 * (i : Int)) (hf : rdM1 l at_ cl g0 p = .ok k) : foldE (rdMi l at_ cl gs) (i + 1) = .ok (ms ++ [k]) := by
 refine foldE_ok hms ?_
 unfold rdMi
 rw [List.getD_eq_getElem?_getD, hg, <- hp]
 exact hf
variable {p g0 n o f px py : Int}
theorem rdM1_e1 (h : ¬ (0 <= p /\ p + 2 <= l.length)) (h0 : 0 <= p) : rdM1 l at_ cl g0 p = .error p := by unfold rdM1; rw [if_pos (by omega)]
theorem rdM1_e2 (h : 0 <= p /\ p + 2 <= l.length) (e : n = u16v l p) (hn : cl <= n) : rdM1 l at_ cl g0 p = .error p := by subst e; unfold rdM1; rw [if_neg (by omega), if_pos hn]
theorem rdM1_e3 (h : 0 <= p /\ p + 2 <= l.length) (e : n = u16v l p) (hn : ¬ cl <= n) (h2 : ¬ (0 <= p + 2 /\ p + 2 + 2 <= l.length)) : rdM1 l at_ cl g0 p = .error (p + 2) := by subst e; unfold rdM1; rw [if_neg (by omega), if_neg hn, if_pos (by omega)]
theorem rdM1_e4 (h : 0 <= p /\ p + 2 <= l.length) (e : n = u16v l p) (hn : ¬ cl <= n) (h2 : 0 <= p + 2 /\ p + 2 + 2 <= l.length) (e2 : o = u16v l (p + 2)) (ho : o = 0) : rdM1 l at_ cl g0 p = .error (p + 2) := by subst e e2; unfold rdM1; rw [if_neg (by omega), if_neg hn, if_neg (by omega), if_pos ho]
theorem rdM1_e5 (h : 0 <= p /\ p + 2 <= l.length) (e : n = u16v l p) (hn : ¬ cl <= n) (h2 : 0 <= p + 2 /\ p + 2 + 2 <= l.length) (e2 : o = u16v l (p + 2)) (ho : ¬ o = 0) (hf : rdA l (at_ + o) = .error f) : rdM1 l at_ cl g0 p = .error f := by subst e e2; unfold rdM1; rw [if_neg (by omega), if_neg hn, if_neg (by omega), if_neg ho, hf]
theorem rdM1_ok (h : 0 <= p /\ p + 2 <= l.length) (e : n = u16v l p) (hn : ¬ cl <= n) (h2 : 0 <= p + 2 /\ p + 2 + 2 <= l.length) (e2 : o = u16v l (p + 2)) (ho : ¬ o = 0) (hf : rdA l (at_ + o) = .ok (px, py)) : rdM1 l at_ cl g0 p = .ok ⟨g0, n, px, py⟩ := by subst e e2; unfold rdM1; rw [if_neg (by omega), if_neg hn, if_neg (by omega), if_neg ho, hf]
end
structure RmX where
 own : Led
 ms : List Mk
 p : Int
 ta : Tok
 o : Obj
 kvs : List (Int × Value)
 v1 : Option Value
 v2 : Option Value
 v3 : Option Value
 v4 : Option Value
structure RmOk {w : World} (c : Cf w) (l : List UInt8) (at_ cl : Int) (gs : List Int) (i : Nat) (x : RmX) : Prop where
 p : x.p = at_ + 2 + 4 * (i : Int)
 ms : foldE (rdMi l at_ cl gs) i = .ok x.ms
 mg : x.ms.map (·.g) = gs.take i
 d : x.o.IsDictOf (intKind PW w) x.kvs
 M : MarksAre w x.own x.kvs x.ms
 fr : ∀ p ∈ x.own, Fre c p.1
section
variable {w : World} {mean : ExcName -> Option Value} {mg mb : Str -> Option Value} {A : Around} {base : Heap} {outer : List Env} {s : Shared} {R : Result -> Shared -> Prop}
theorem rmarks_spec {l : List UInt8} {at_ cl : Int} {tb ta tcl t1 : Tok} {Cv dc Gl : Addr} {us : List Value} {gs : List Int} {args : Args} (hargs : args = ⟨[.bytes l.toArray tb, .int at_ ta, .ref Cv, .int cl tcl], []⟩ \/ (args = ⟨[.bytes l.toArray tb, .int at_ ta, .ref Cv], []⟩ /\ cl = 65536 /\ tcl = 520))
  (hb : l.length <= 1000000) (hat : 0 <= at_) (hus : IntsAre us gs) (hnd : gs.Nodup) (hord : gs.Pairwise (· <= ·)) (hn : gs.length <= 8) (B : Below A base outer s.heap) (G : Gd w mean mg mb base) (hh : A.handled = none) (hdp : A.depth < 800) (hu : A.units + 1000 < cLine)
  (hlt : @LT.lt Nat _ dc Cv) (hne1 : @Ne Nat Gl Cv) (hne2 : @Ne Nat Gl dc)
  (hkn : Kn base outer s.heap [(Cv, instObj 426 dc), (dc, covD w Gl t1), (Gl, tupO us)])
  (hR : ∀ ms, rdM l at_ cl gs = .ok ms -> ∀ h' tk' M o own kvs, Kp [] s.heap h' -> (∀ p ∈ (M, o) :: own, h'.get? p.1 = some p.2 /\ s.heap.get? p.1 = none) -> o.IsDictOf (intKind PW w) kvs -> (M == sysModules) = false -> MarksAre w own kvs ms -> AllNe M own -> ms.map (·.g) = gs -> R (.ok (.ret (.ref M))) { s with heap := h', toks := tk' })
  (hE : ∀ f, rdM l at_ cl gs = .error f -> ∀ h' tk' e t, FlyD base outer e (.int f t) ([] ++ fr outer) s.heap h' -> R (.error (.ref e)) { s with heap := h', toks := tk' }) :
  codeS (model PW w) A (.call (.ref 356) args) R s := by
 have hgl := hus.length
 refine enterQ 40 [] (fun f => rdM l at_ cl gs = .error f) B G hh hdp hu hkn (binds := [("data", .bytes l.toArray tb), ("at", .int at_ ta), ("coverage", .ref Cv), ("classes", .int cl tcl)]) (by k_is) (by k_is) (by decide) (by decide) (by rcases hargs with rfl | ⟨rfl, rfl, rfl⟩ <;> exact binds_K (G.kin.keeps B.stays) rfl (by with_unfolding_all rfl) rfl rfl rfl) (locs rfl) (.cons (nn4 (Nat.ne_of_lt hlt).symm hne1.symm) (.cons (nn3 hne2.symm) (.cons nn1 .nil))) hE ?_ rfl rfl rfl (by decide) (by decide)
 intro c z env K hC V hf hS h1 h2 h3 hK
 refine oin_q (hC.mo rfl) fun Xs sd t2 t3 lt fx fd => ?_
 refine meth_q hC (.head _) (.tail _ (.head _)) rfl rfl ?_
 refine u16_q (hC.mo rfl) hb lt (.head _) (fun _ => .tail .head) (.inr fd) (fun g1 t4 ta0 v e v0 v1 => ?_) fun g => h1 _ (rdM_e1 fun q => g ⟨hat, q⟩)
 refine attr_q hC (.tail _ (.tail _ (.head _))) (.tail _ (.tail _ (.tail _ (.head _)))) (by decide) rfl rfl ?_
 refine lenT_q (.tail _ (.tail _ (.tail _ (.tail _ (.head _))))) (by omega) fun t5 => ?_
 refine Two.mk (fun q => ?_) fun q => ?_
 ·intro t6
  exact h1 _ (rdM_e2 g1.2 e (by omega))
 refine dict_q hC fun M o0 hi lo fM => ?_
 refine for_e hC V hf rfl ?_
 refine attr_q hC (.tail _ (.tail _ (.tail _ (.head _)))) (.tail _ (.tail _ (.tail _ (.tail _ (.head _))))) (by decide) rfl rfl ?_
 refine itTup_q (X := RmX) hC hf
  (fun x => [("data", some (.bytes l.toArray tb)), ("at", some (.int at_ ta)), ("coverage", some (.ref Cv)), ("classes", some (.int cl tcl)), ("source", some (.ref Xs)), ("marks", some (.ref M)), ("glyph", x.v1), ("place", x.v2), ("number", x.v3), ("anchor", x.v4)])
  (fun x => x.own ++ [(M, x.o), (Xs, instObj 170 sd), (sd, srcD w l x.p t2 tb t3 x.ta), (Cv, instObj 426 dc), (dc, covD w Gl t1), (Gl, tupO us)])
  (RmOk c l at_ cl gs) ⟨[], [], at_ + 2, ta0, o0, [], none, none, none, none⟩ rfl rfl ⟨by show at_ + 2 = _; omega, rfl, rfl, hi, .nil, nn1⟩ (fun x => List.mem_append_right _ (.tail _ (.tail _ (.tail _ (.tail _ (.tail _ (.head _))))))) ?_ ?_
 ·intro i v0 x z1 hv hz hok
  refine hideG ?_; intro PG9 hG9
  obtain ⟨g0, t0, rfl, hg0⟩ := hus.at i v0 hv
  refine hG9 ?_; clear hG9 PG9
  have hi8 : i < gs.length := (List.getElem?_eq_some_iff.mp hg0).1
  have hp0 : 0 <= x.p := by have := hok.p; omega
  have er : ∀ f, rdM1 l at_ cl g0 x.p = .error f -> c.Er f := fun f hf => h1 _ (rdM_er g1.2 e (by omega) hok.ms hg0 hok.p hf)
  refine body_e 20 hC (by decide) (by decide) V hf hz fun T0 hT0 => ?_
  refine attr_q hC (mR (.tail _ (.head _))) (mR (.tail _ (.tail _ (.head _)))) (by decide) rfl rfl ?_
  refine meth_q hC (mR (.tail _ (.head _))) (mR (.tail _ (.tail _ (.head _)))) rfl rfl ?_
  refine u16_q (hC.mo rfl) hb lt (mR (.tail _ (.head _))) (fun _ => .app (.tail (.tail .head))) (.inr fd) (fun g2 t6 u6 vn en vn0 vn1 => ?_) fun g => er _ (rdM1_e1 g hp0)
  refine Two.mk (fun q2 => ?_) fun q2 => ?_
  ·intro t7
   exact er _ (rdM1_e2 g2 en q2)
  refine meth_q hC (mR (.tail _ (.head _))) (mR (.tail _ (.tail _ (.head _)))) rfl rfl ?_
  refine u16_q (hC.mo rfl) hb lt (mR (.tail _ (.head _))) (fun _ => .app (.tail (.tail .head))) (.inr fd) (fun g3 t7 u7 vO eO vO0 vO1 => ?_) fun g => er _ (rdM1_e3 g2 en q2 g)
  refine behind_q (hC.mo rfl) hb (fun hO => ?_) (fun hO px py hrd a da t8 t9 t10 t11 lt2 fa fda => ?_) fun hO f hrd => er _ (rdM1_e5 g2 en q2 g3 eO hO hrd)
  ·intro t8 t9 t10
   exact er _ (rdM1_e4 g2 en q2 g3 eO hO)
  refine newTup_q hC (szl rfl) fun T fT => ?_
  refine dset_q hC (fun _ => .tail (.tail (.tail (.app .head)))) hok.d (.inr fM) (by have h9 := hok.M.len; have h8 := foldE_len hok.ms; omega) fun o2 hd2 => ?_
  refine hT0 ⟨(T, tupO [.int vn t6, .ref a]) :: (a, instObj 302 da) :: (da, ancD w px py t8 t9 t10 t11) :: x.own, x.ms ++ [⟨g0, vn, px, py⟩], x.p + 2 + 2, u7, o2, stored x.kvs g0 (.ref T), some _, some _, some _, some _⟩ ?_
  refine ⟨by have := hok.p; show x.p + 2 + 2 = _; omega, rdM_next hok.ms hg0 hok.p (rdM1_ok g2 en q2 g3 eO hO hrd), by rw [List.map_append, hok.mg, List.take_succ, hg0]; rfl, hd2, hok.M.snoc (m := ⟨g0, vn, px, py⟩) (tc := t6) (v := .ref a) (fun q hq => .tail _ (.tail _ (.tail _ hq))) (by rw [hok.mg]; exact take_le hord hg0) (by rw [hok.mg]; exact take_ne hnd hg0) (.head _) ⟨a, da, _, _, _, _, rfl, .tail _ (.head _), .tail _ (.tail _ (.head _)), lt2⟩, ?_⟩
  exact List.forall_mem_cons.mpr ⟨fT, List.forall_mem_cons.mpr ⟨fa, List.forall_mem_cons.mpr ⟨fda, hok.fr⟩⟩⟩
 ·intro x hok
  have hms : foldE (rdMi l at_ cl gs) gs.length = .ok x.ms := by rw [<- hgl]; exact hok.ms
  have hmg : x.ms.map (·.g) = gs := by rw [hok.mg, hgl, List.take_length]
  refine hK _ _ _ fun h' tk y => ?_
  refine hR x.ms (rdM_ok g1.2 e (by omega) hms) _ _ M x.o x.own x.kvs y.kp (List.forall_mem_cons.mpr ⟨⟨y.at_ _ (mR (.head _)), h2 _ fM⟩, fun q hq => ⟨y.at_ _ (mL hq), h2 _ (hok.fr q hq)⟩⟩) hok.d lo hok.M ?_ hmg
  exact allNe_of fun p hp => (List.pairwise_append.mp y.nd).2.2 p hp _ (.head _)
end
end
section
set_option tactic.hygienic false
open PySem PySem.W PyProof.Rows PySem.Calls PySem.Spec
theorem ints_get {us : List Value} {gs : List Int} (h : IntsAre us gs) {i : Nat} (hi : i < gs.length) : ∃ g t, us[i]? = some (.int g t) /\ gs[i]? = some g := by
 have hl := h.length
 have e : us[i]? = some us[i] := List.getElem?_eq_getElem (by omega)
 refine hideG ?_; intro PG9 hG9
 obtain ⟨g, t, e1, e2⟩ := h.at i _ e
 refine hG9 ?_; clear hG9 PG9
 exact ⟨g, t, by rw [e, e1], e2⟩
structure LmX where
 own : Led
 vs : List Value
 ms : List Mk
 n9 : Nat
 v1 : Option Value
 v2 : Option Value
 v3 : Option Value
 v4 : Option Value
structure LmOk {w : World} (c : Cf w) (l : List UInt8) (at_ cl : Int) (gs : List Int) (i : Nat) (x : LmX) : Prop where
 ms : foldE (rdMi l at_ cl gs) i = .ok x.ms
 d : DatAll x.own x.vs (x.ms.map mkD)
 fr : ∀ p ∈ x.own, Fre c p.1
section
variable {w : World} {mean : ExcName -> Option Value} {mg mb : Str -> Option Value} {A : Around} {base : Heap} {outer : List Env} {s : Shared} {R : Result -> Shared -> Prop}
theorem lmarks_spec {l : List UInt8} {at_ cl : Int} {tb ta tcl : Tok} {Gl : Addr} {us : List Value} {gs : List Int} {n0 : Nat} (hb : l.length <= 1000000) (hat : 0 <= at_) (hus : IntsAre us gs) (hn : gs.length <= 1000) (B : Below A base outer s.heap) (G : Gd w mean mg mb base) (hh : A.handled = none) (hdp : A.depth < 840) (hu : A.units + 1000 < cLine)
  (hkn : Kn base outer s.heap [(Gl, PySem.W.listOf us.toArray n0)])
  (hR : ∀ ms, rdM l at_ cl gs = .ok ms -> ∀ h' tk' v out, Kp [] s.heap h' -> DatIn out v (mksD ms) -> (∀ p ∈ out, h'.get? p.1 = some p.2 /\ s.heap.get? p.1 = none) -> R (.ok (.ret v)) { s with heap := h', toks := tk' })
  (hE : ∀ f, rdM l at_ cl gs = .error f -> ∀ h' tk' e t, FlyD base outer e (.int f t) ([] ++ fr outer) s.heap h' -> R (.error (.ref e)) { s with heap := h', toks := tk' }) :
  codeS (model PW w) A (.call (.ref 477) ⟨[.bytes l.toArray tb, .int at_ ta, .ref Gl, .int cl tcl], []⟩) R s := by
 have hgl := hus.length
 refine enterQ 40 [] (fun f => rdM l at_ cl gs = .error f) B G hh hdp hu hkn (binds := [("data", .bytes l.toArray tb), ("at", .int at_ ta), ("glyphs", .ref Gl), ("classes", .int cl tcl)]) (by k_is) (by k_is) (by decide) (by decide) (BindsTo.of_eq rfl) (locs rfl) (.cons nn1 .nil) hE ?_ rfl rfl rfl (by decide) (by decide)
 intro c z env K hC V hf hS h1 h2 h3 hK
 refine lu16_q (hC.mo rfl) hat hb (fun g1 t v e v0 v1 => ?_) fun g => h1 _ (rdM_e1 g)
 refine lenL_q (.head _) (by omega) fun t1 => ?_
 refine Two.mk (fun q => ?_) fun q => ?_
 ·intro t2
  exact h1 _ (rdM_e2 g1 e (by omega))
 refine newList_q hC (szl rfl) fun P fP => ?_
 refine for_e hC V hf rfl ?_
 refine lenL_q (.tail _ (.head _)) (by omega) fun t2 => ?_
 refine range1_q hC fun Rg t3 t4 t5 _ => ?_
 refine itRange_q (X := LmX) hC hf (.head _) rfl (by omega)
  (fun x => [("data", some (.bytes l.toArray tb)), ("at", some (.int at_ ta)), ("glyphs", some (.ref Gl)), ("classes", some (.int cl tcl)), ("found", some (.ref P)), ("place", x.v1), ("spot", x.v2), ("number", x.v3), ("offset", x.v4)])
  (fun x => x.own ++ [(Rg, rgO 0 us.length 1 t3 t4 t5), (P, PySem.W.listOf x.vs.toArray x.n9), (Gl, PySem.W.listOf us.toArray n0)])
  (LmOk c l at_ cl gs) ⟨[], [], [], 0, none, none, none, none⟩ rfl rfl ⟨rfl, .nil, nn1⟩ ?_ ?_
 ·intro i t6 x z1 hi hz hok
  refine hideG ?_; intro PG9 hG9
  obtain ⟨g0, t0, hv, hg0⟩ := ints_get hus (i := i) (by omega)
  refine hG9 ?_; clear hG9 PG9
  have er : ∀ f p, p = at_ + 2 + 4 * (i : Int) -> rdM1 l at_ cl g0 p = .error f -> c.Er f := fun f p hp hf => h1 _ (rdM_er g1 e (by omega) hok.ms hg0 hp hf)
  refine body_e 20 hC (by decide) (by decide) V hf hz fun T0 hT0 => ?_
  intro t7 t8 t9
  refine And.intro (.of_left (by decide)) ?_
  intro t10 t11
  generalize hp : at_ + 2 + 4 * (i : Int) = p
  have hp0 : 0 <= p := by omega
  refine lu16_q (hC.mo rfl) hp0 hb (fun g2 t12 vn en vn0 vn1 => ?_) fun g => er _ p hp.symm (rdM1_e1 (fun q => g q.2) hp0)
  refine Two.mk (fun q2 => ?_) fun q2 => ?_
  ·intro t13
   exact er _ p hp.symm (rdM1_e2 ⟨hp0, g2⟩ en q2)
  intro t13 t14
  refine lu16_q (hC.mo rfl) (by omega) hb (fun g3 t15 vO eO vO0 vO1 => ?_) fun g => er _ p hp.symm (rdM1_e3 ⟨hp0, g2⟩ en q2 fun q => g q.2)
  intro t16
  refine Two.mk (fun hO => ?_) fun hO => ?_
  ·intro t17 t18 t19
   exact er _ p hp.symm (rdM1_e4 ⟨hp0, g2⟩ en q2 ⟨by omega, g3⟩ eO hO)
  refine lmApp_q (mR (.tail _ (.head _))) ?_
  refine itemL_q (mR (.tail _ (.tail _ (.head _)))) (by omega) (by omega) hv ?_
  intro t17
  refine lanchor_q (hC.mo rfl) (by omega) hb (fun px py hrd T tx ty fT => ?_) fun f hrd => er _ p hp.symm (rdM1_e5 ⟨hp0, g2⟩ en q2 ⟨by omega, g3⟩ eO hO hrd)
  refine newTup_q hC (szl rfl) fun D fD => ?_
  refine app_q hC (.tail (.tail (.app (.tail .head)))) (.inr fP) (by have h9 := hok.d.length; have h8 := foldE_len hok.ms; rw [List.length_map] at h9; omega) ?_
  refine hT0 ⟨(D, tupO [.int g0 t0, .int vn t12, .ref T]) :: (T, tupO [.int px tx, .int py ty]) :: x.own, x.vs ++ [.ref D], x.ms ++ [⟨g0, vn, px, py⟩], x.n9 + 1, some _, some _, some _, some _⟩ ⟨rdM_next hok.ms hg0 hp.symm (rdM1_ok ⟨hp0, g2⟩ en q2 ⟨by omega, g3⟩ eO hO hrd), ?_, List.forall_mem_cons.mpr ⟨fD, List.forall_mem_cons.mpr ⟨fT, hok.fr⟩⟩⟩
  rw [List.map_append]
  exact (hok.d.mono fun p hp => .tail _ (.tail _ hp)).append (.one (.tuple (n := 0) (.head _) (.cons (.int _ _) (.cons (.int _ _) (.cons (.tuple (n := 0) (.tail _ (.head _)) (.cons (.int _ _) (.cons (.int _ _) .nil))) .nil)))))
 ·intro x hok
  have hms : foldE (rdMi l at_ cl gs) gs.length = .ok x.ms := by rw [<- hgl]; exact hok.ms
  have hvl := hok.d.length
  have hml := foldE_len hms
  rw [List.length_map] at hvl
  refine tupL_q hC (mR (.tail _ (.head _))) (by omega) fun D fD => ?_
  refine hK _ _ _ fun h' tk y => ?_
  refine hR x.ms (rdM_ok g1 e (by omega) hms) _ _ _ ((D, tupO x.vs) :: x.own) y.kp (.tuple (n := 0) (.head _) (hok.d.mono fun p hp => .tail _ hp)) (List.forall_mem_cons.mpr ⟨⟨y.at_ _ (.head _), h2 _ fD⟩, fun q hq => ⟨y.at_ _ (.tail _ (mL hq)), h2 _ (hok.fr q hq)⟩⟩)
end
end
section
set_option tactic.hygienic false
open PySem PySem.W PyProof.Rows PySem.Calls PySem.Spec
section
variable {l : List UInt8} {at_ cnt cl v : Int}
theorem rdR_e1 (h : ¬ (at_ + 2 <= l.length)) : rdRows l at_ cnt cl = .error at_ := by unfold rdRows; rw [if_pos (by omega)]
theorem rdR_e2 (h : at_ + 2 <= l.length) (e : v = u16v l at_) (h1 : 0 <= cnt) (h2 : ¬ v = cnt) : rdRows l at_ cnt cl = .error at_ := by subst e; unfold rdRows; rw [if_neg (by omega), if_pos ⟨h1, h2⟩]
theorem rdR_er {i : Nat} {rs : List AnR} {p f : Int} (h : at_ + 2 <= l.length) (e : v = u16v l at_) (hc : ¬ (0 <= cnt /\ ¬ v = cnt)) (hrs : foldE (fun i => rdRow l at_ cl (at_ + 2 + 2 * cl * (i : Int))) i = .ok rs) (hi : (i : Int) < v) (hp : p = at_ + 2 + 2 * cl * (i : Int)) (hf : rdRow l at_ cl p = .error f) : rdRows l at_ cnt cl = .error f := by
 subst e hp
 unfold rdRows
 rw [if_neg (by omega), if_neg hc]
 exact foldE_er hrs hf (by omega)
theorem rdR_ok {n : Nat} {rs : List AnR} (h : at_ + 2 <= l.length) (e : v = u16v l at_) (hc : ¬ (0 <= cnt /\ ¬ v = cnt)) (hn : v = n) (hrs : foldE (fun i => rdRow l at_ cl (at_ + 2 + 2 * cl * (i : Int))) n = .ok rs) : rdRows l at_ cnt cl = .ok rs := by
 subst e
 unfold rdRows
 rw [if_neg (by omega), if_neg hc, hn]
 exact hrs
theorem rdRow_er {p f : Int} {j : Nat} {r : AnR} (h : ¬ l.length < p + 2 * cl) (hr : foldE (fun j => rdEl l at_ (u16v l (p + 2 * (j : Int)))) j = .ok r) (hj : (j : Int) < cl) (hf : rdEl l at_ (u16v l (p + 2 * (j : Int))) = .error f) : rdRow l at_ cl p = .error f := by
 unfold rdRow
 rw [if_neg h]
 exact foldE_er hr hf (by omega)
theorem rdRow_ok {p : Int} {n : Nat} {r : AnR} (h : ¬ l.length < p + 2 * cl) (hn : cl = n) (hr : foldE (fun j => rdEl l at_ (u16v l (p + 2 * (j : Int)))) n = .ok r) : rdRow l at_ cl p = .ok r := by
 unfold rdRow
 rw [if_neg h, hn]
 exact hr
theorem rdEl_0 {o : Int} (h : o = 0) : rdEl l at_ o = .ok none := by unfold rdEl; rw [if_pos h]
theorem rdEl_e {o f : Int} (h : ¬ o = 0) (e : rdA l (at_ + o) = .error f) : rdEl l at_ o = .error f := by unfold rdEl; rw [if_neg h, e]
theorem rdEl_ok {o px py : Int} (h : ¬ o = 0) (e : rdA l (at_ + o) = .ok (px, py)) : rdEl l at_ o = .ok (some (px, py)) := by unfold rdEl; rw [if_neg h, e]
end
structure LrX where
 own : Led
 vs : List Value
 rs : List AnR
 n9 : Nat
 osp : Obj
 v1 : Option Value
 v2 : Option Value
structure LrOk {w : World} (c : Cf w) (l : List UInt8) (at_ cl : Int) (i : Nat) (x : LrX) : Prop where
 rs : foldE (fun i => rdRow l at_ cl (at_ + 2 + 2 * cl * (i : Int))) i = .ok x.rs
 d : DatAll x.own x.vs (x.rs.map rowD)
 fr : ∀ p ∈ x.own, Fre c p.1
 sp : ∃ v0, x.osp.data = .cell v0
section
variable {w : World} {mean : ExcName -> Option Value} {mg mb : Str -> Option Value} {A : Around} {base : Heap} {outer : List Env} {s : Shared} {R : Result -> Shared -> Prop}
theorem lrows_spec {l : List UInt8} {at_ cnt cl : Int} {tb ta tc tcl : Tok} (hb : l.length <= 1000000) (hat : 0 <= at_) (hcn : cnt < 0) (hcl : 1 <= cl) (hcl8 : cl <= 1000) (B : Below A base outer s.heap) (G : Gd w mean mg mb base) (hh : A.handled = none) (hdp : A.depth < 800) (hu : A.units + 1000 < cLine)
  (hR : ∀ rs, rdRows l at_ cnt cl = .ok rs -> ∀ h' tk' v out, Kp [] s.heap h' -> DatIn out v (rowsD rs) -> (∀ p ∈ out, h'.get? p.1 = some p.2 /\ s.heap.get? p.1 = none) -> R (.ok (.ret v)) { s with heap := h', toks := tk' })
  (hE : ∀ f, rdRows l at_ cnt cl = .error f -> ∀ h' tk' e t, FlyD base outer e (.int f t) ([] ++ fr outer) s.heap h' -> R (.error (.ref e)) { s with heap := h', toks := tk' }) :
  codeS (model PW w) A (.call (.ref 482) ⟨[.bytes l.toArray tb, .int at_ ta, .int cnt tc, .int cl tcl], []⟩) R s := by
 obtain ⟨n, rfl⟩ : ∃ n : Nat, cl = n := ⟨cl.toNat, by omega⟩
 refine enterQC 40 [] (fun f => rdRows l at_ cnt n = .error f) B G hh hdp hu Kn.nil (binds := [("data", .bytes l.toArray tb), ("at", .int at_ ta), ("count", .int cnt tc), ("classes", .int n tcl)]) (by k_is) (by k_is) (by decide) (by decide) (BindsTo.of_eq rfl) rfl (by decide +kernel) .nil hE ?_ rfl rfl rfl (by decide)
 intro c z env K L cells Y hcl hfc hC V hf hS h1 h2 h3 hK
 refine hideG ?_; intro PG9 hG9
 obtain ⟨osp, oat, oda, rfl, dsp, dat, dda⟩ := CellsAre.three Y
 refine hG9 ?_; clear hG9 PG9
 clear Y
 have hcl2 : env.cells = [(("spot" : Str), L + 1 + 1 + 1), (("at" : Str), L + 1 + 1), (("data" : Str), L + 1)] := hcl
 have fsp : Fre c (L + 1 + 1 + 1) := hfc _ (.head _)
 refine cell_q V rfl (lkc hcl2 rfl) (.tail _ (.tail _ (.head _))) dda ?_
 refine cell_q V rfl (lkc hcl2 rfl) (.tail _ (.head _)) dat ?_
 refine lu16_q (hC.mo rfl) hat hb (fun g1 t v e v0 v1 => ?_) fun g => h1 _ (rdR_e1 g)
 obtain ⟨k, rfl⟩ : ∃ k : Nat, v = k := ⟨v.toNat, by omega⟩
 intro t1
 refine Two.mk (fun q => absurd q (by omega)) fun q => ?_
 refine newList_q hC (szl rfl) fun P fP => ?_
 refine for_e hC V hf rfl ?_
 refine range1_q hC fun Rg t3 t4 t5 fRg => ?_
 refine itRange_q (X := LrX) hC hf (.head _) rfl (by omega)
  (fun x => [("count", some (.int cnt tc)), ("classes", some (.int n tcl)), ("there", some (.int k t)), ("found", some (.ref P)), ("place", x.v1), ("offsets", x.v2)])
  (fun x => x.own ++ [(Rg, rgO 0 k 1 t3 t4 t5), (P, PySem.W.listOf x.vs.toArray x.n9), (L + 1 + 1 + 1, x.osp), (L + 1 + 1, oat), (L + 1, oda)])
  (LrOk c l at_ n) ⟨[], [], [], 0, osp, none, none⟩ rfl rfl ⟨rfl, .nil, nn1, ⟨_, dsp⟩⟩ ?_ ?_
 ·intro i t6 x z1 hi hz hok
  have mP : ∀ {y : LrX}, (P, PySem.W.listOf y.vs.toArray y.n9) ∈ y.own ++ [(Rg, rgO 0 k 1 t3 t4 t5), (P, PySem.W.listOf y.vs.toArray y.n9), (L + 1 + 1 + 1, y.osp), (L + 1 + 1, oat), (L + 1, oda)] := List.mem_append_right _ (.tail _ (.head _))
  refine body_e0 20 hC (by decide) (by decide) V hf hz fun T0 hT0 => ?_
  refine cell_q (V.shift z1 hz) rfl (lkc hcl2 rfl) (mR (.tail _ (.tail _ (.tail _ (.head _))))) dat ?_
  intro t7 t8 t9
  refine And.intro (.of_left (by decide)) ?_
  intro t10
  refine And.intro (.of_right (intBits_le_64 (by omega) (by omega))) ?_
  intro t11 t12
  refine cset_q hC (hf.shift z1) rfl (lkc hcl2 rfl) (fun _ => .app (.tail (.tail .head))) hok.sp (.inr fsp) fun osp2 dsp2 => ?_
  generalize hp : at_ + 2 + 2 * (n : Int) * (i : Int) = p at dsp2
  have hp0 : 0 <= p := by have : 0 <= 2 * (n : Int) * (i : Int) := Int.mul_nonneg (by omega) (by omega); omega
  have er : ∀ f, rdRow l at_ n p = .error f -> c.Er f := fun f hf => h1 _ (rdR_er g1 e (by omega) hok.rs (by omega) hp.symm hf)
  refine cell_q (V.shift z1 hz) rfl (lkc hcl2 rfl) (mR (.tail _ (.tail _ (.head _)))) dsp2 ?_
  intro t13
  refine And.intro (.of_left (by decide)) ?_
  intro t14 t15
  refine cell_q (V.shift z1 hz) rfl (lkc hcl2 rfl) (mR (.tail _ (.tail _ (.tail _ (.tail _ (.head _)))))) dda ?_
  refine lenB_q hb fun t16 => ?_
  refine Two.mk (fun q2 => ?_) fun q2 => ?_
  ·intro t17
   refine cell_q (V.shift z1 hz) rfl (lkc hcl2 rfl) (mR (.tail _ (.tail _ (.head _)))) dsp2 ?_
   exact er _ (by unfold rdRow; rw [if_pos q2])
  refine assign_comp_q hC (V.shift z1 hz) (hf.shift z1) (clos_q hcl2 rfl) (by decide) rfl (by decide) rfl rfl (swaps_yes (V.shift z1 hz) rfl rfl) ?_
  refine range1_q hC fun Rg2 t17 t18 t19 fRg2 => ?_
  refine itcRange_q (X := Unit) (b := true) hC (V.shift z1 hz) (.head _) rfl (by omega) (fun _ => (Rg2, rgO 0 n 1 t17 t18 t19) :: (x.own ++ [(Rg, rgO 0 k 1 t3 t4 t5), (P, PySem.W.listOf x.vs.toArray x.n9), (L + 1 + 1 + 1, osp2), (L + 1 + 1, oat), (L + 1, oda)]))
   (fun j _ ys => IntsAre ys ((List.range j).map fun (q : Nat) => u16v l (p + 2 * (q : Int)))) () rfl .nil ?_ ?_
  ·intro j v0 _ ys c' z' env' hj hx8 hys hyl hC' V' hcl' hEr hS' hF hF'
   refine el_e V' hC' fun T1 hT1 => ?_
   obtain ⟨tj, rfl⟩ := hx8
   refine cell_q V' rfl (lkc hcl' rfl) (.tail _ (mR (.tail _ (.tail _ (.tail _ (.tail _ (.head _))))))) dda ?_
   refine cell_q V' rfl (lkc hcl' rfl) (.tail _ (mR (.tail _ (.tail _ (.head _))))) dsp2 ?_
   intro t20
   refine And.intro (.of_left (by decide)) ?_
   intro t21 t22
   refine lu16_q (hC'.mo rfl) (by omega) hb (fun g2 t23 vo eo vo0 vo1 => ?_) fun g => absurd g (by omega)
   exact hT1 () _ _ (ints_next hys eo)
  intro _ ys hys hyl D fD
  have hyl2 := hys.length
  refine lmApp_q (.tail _ (.tail _ (mR (.tail _ (.head _))))) ?_
  refine comp_q hC (V.shift z1 hz) (hf.shift z1) (clos_q hcl2 rfl) (by decide) rfl (by decide) rfl ?_
  refine itcList_q (X := Led × AnR) (b := true) hC (V.shift z1 hz) (vs := ys) (nn := ys.length) (fun x2 => x2.1 ++ (D, LCg.lst ys) :: (Rg2, rgO 0 n 1 t17 t18 t19) :: (x.own ++ [(Rg, rgO 0 k 1 t3 t4 t5), (P, PySem.W.listOf x.vs.toArray x.n9), (L + 1 + 1 + 1, osp2), (L + 1 + 1, oat), (L + 1, oda)]))
   (fun j x2 zs => foldE (fun j => rdEl l at_ (u16v l (p + 2 * (j : Int)))) j = .ok x2.2 /\ DatAll x2.1 zs (x2.2.map ptO) /\ ∀ p ∈ x2.1, Fre c p.1) ([], []) rfl ⟨rfl, .nil, nn1⟩ (fun x2 => List.mem_append_right _ (.head _)) (by omega) ?_ ?_
  ·intro j v0 hx2 zs c' z' env' hj hv0 hx9 hzl hC' V' hcl' hEr hS' hF hF'
   refine el_e V' hC' fun T1 hT1 => ?_
   obtain ⟨own2, r⟩ := hx2
   obtain ⟨hr, hd, hfr⟩ := hx9
   refine hideG ?_; intro PG9 hG9
   obtain ⟨o, to, rfl, ho⟩ := hys.at j v0 hv0
   refine hG9 ?_; clear hG9 PG9
   have hjn : j < n := by rw [hyl] at hj; exact hj
   have eo : o = u16v l (p + 2 * (j : Int)) := by
    rw [List.getElem?_map, List.getElem?_range hjn] at ho
    exact (Option.some.inj ho).symm
   have o0 : 0 <= o := by rw [eo]; exact u16v_nn l _
   intro t20
   refine Two.mk (fun q3 => ?_) fun q3 => ?_
   ·refine hT1 (own2, r ++ [none]) _ _ ⟨foldE_ok hr (by rw [<- eo]; exact rdEl_0 q3), ?_, hfr⟩
    rw [List.map_append]
    exact hd.append (.one .none)
   refine cell_q V' rfl (lkc hcl' rfl) (mR (.tail _ (.tail _ (mR (.tail _ (.tail _ (.tail _ (.tail _ (.head _))))))))) dda ?_
   refine cell_q V' rfl (lkc hcl' rfl) (mR (.tail _ (.tail _ (mR (.tail _ (.tail _ (.tail _ (.head _)))))))) dat ?_
   intro t21
   refine lanchor_q (hC'.mo rfl) (by omega) hb (fun px py hrd T tx ty fT => ?_) fun f hrd => hEr _ (er _ (rdRow_er q2 hr (by omega) (by rw [<- eo]; exact rdEl_e q3 hrd)))
   refine hT1 ((T, tupO [.int px tx, .int py ty]) :: own2, r ++ [some (px, py)]) _ _ ⟨foldE_ok hr (by rw [<- eo]; exact rdEl_ok q3 hrd), ?_, List.forall_mem_cons.mpr ⟨hF _ fT, hfr⟩⟩
   rw [List.map_append]
   exact (hd.mono fun p hp => .tail _ hp).append (.one (.tuple (n := 0) (.head _) (.cons (.int _ _) (.cons (.int _ _) .nil))))
  rintro ⟨own2, r⟩ zs ⟨hr, hd, hfr⟩ hzl D3 fD3
  refine tupL_q hC (.head _) (by omega) fun T fT => ?_
  refine app_q hC (.tail (.tail (.app (.tail (.tail (.app (.tail .head))))))) (.inr fP) (by have h9 := hok.d.length; have h8 := foldE_len hok.rs; rw [List.length_map] at h9; omega) ?_
  refine hT0 _ _ _ ?_
  refine ⟨⟨(T, tupO zs) :: (D3, LCg.lst zs) :: (own2 ++ (D, LCg.lst ys) :: (Rg2, rgO 0 n 1 t17 t18 t19) :: x.own), x.vs ++ [.ref T], x.rs ++ [r], x.n9 + 1, osp2, some _, some _⟩, rfl, by simp, foldE_ok hok.rs (by rw [hp]; exact rdRow_ok q2 rfl (by rw [hyl] at hr; exact hr)), ?_, ?_, ⟨_, dsp2⟩⟩
  ·rw [List.map_append]
   exact (hok.d.mono fun p hp => .tail _ (.tail _ (mR (.tail _ (.tail _ hp))))).append (.one (.tuple (n := 0) (.head _) (hd.mono fun p hp => .tail _ (.tail _ (mL hp)))))
  ·refine List.forall_mem_cons.mpr ⟨fT, List.forall_mem_cons.mpr ⟨fD3, fun p hp => (List.mem_append.mp hp).elim (hfr p) fun hp => ?_⟩⟩
   rcases List.mem_cons.mp hp with rfl | hp
   ·exact fD
   ·rcases List.mem_cons.mp hp with rfl | hp
    ·exact fRg2
    ·exact hok.fr p hp
 ·intro x hok
  have h8 := foldE_len hok.rs
  have h9 := hok.d.length
  rw [List.length_map] at h9
  refine tupL_q hC (mR (.tail _ (.head _))) (by omega) fun D fD => ?_
  refine hK _ _ _ fun h' tk y => ?_
  exact hR x.rs (rdR_ok g1 e (by omega) rfl hok.rs) _ _ _ ((D, tupO x.vs) :: x.own) y.kp (.tuple (n := 0) (.head _) (hok.d.mono fun p hp => .tail _ hp)) (List.forall_mem_cons.mpr ⟨⟨y.at_ _ (.head _), h2 _ fD⟩, fun q hq => ⟨y.at_ _ (.tail _ (mL hq)), h2 _ (hok.fr q hq)⟩⟩)
end
end
section
set_option tactic.hygienic false
open PySem PySem.W PyProof.Rows PySem.Calls PySem.Spec
structure RrX where
 own : Led
 vs : List Value
 rs : List AnR
 n9 : Nat
 p : Int
 ta : Tok
 v1 : Option Value
 v2 : Option Value
structure RrOk {w : World} (c : Cf w) (l : List UInt8) (at_ cl : Int) (i : Nat) (x : RrX) : Prop where
 rs : foldE (fun i => rdRow l at_ cl (at_ + 2 + 2 * cl * (i : Int))) i = .ok x.rs
 d : RowsAre w x.own x.vs x.rs
 fr : ∀ p ∈ x.own, Fre c p.1
 p : x.p = at_ + 2 + 2 * cl * (i : Int)
theorem twoJ {a b Z : Prop} {f g : Bool -> Prop} (e1 : Two (¬ b) b g -> f true) (e2 : Z -> f false) (e3 : Z -> g false) (h1 : a -> ¬ b -> g true) (h2 : ¬ (a /\ ¬ b) -> Z) : Two a (¬ a) f := ⟨fun q => e1 ⟨fun r => h1 q r, fun r => e3 (h2 fun s => s.2 r)⟩, fun q => e2 (h2 fun s => q s.1)⟩
section
variable {w : World} {mean : ExcName -> Option Value} {mg mb : Str -> Option Value} {A : Around} {base : Heap} {outer : List Env} {s : Shared} {R : Result -> Shared -> Prop}
theorem rrows_spec {l : List UInt8} {at_ cnt cl : Int} {tb ta tc tcl : Tok} (hb : l.length <= 1000000) (hat : 0 <= at_) (hcl : 1 <= cl) (hcl8 : cl <= 8) (B : Below A base outer s.heap) (G : Gd w mean mg mb base) (hh : A.handled = none) (hdp : A.depth < 800) (hu : A.units + 1000 < cLine)
  (hR : ∀ rs, rdRows l at_ cnt cl = .ok rs -> ∀ h' tk' P vs n own, Kp [] s.heap h' -> (∀ p ∈ (P, PySem.W.listOf vs.toArray n) :: own, h'.get? p.1 = some p.2 /\ s.heap.get? p.1 = none) -> RowsAre w own vs rs -> AllNe P own -> R (.ok (.ret (.ref P))) { s with heap := h', toks := tk' })
  (hE : ∀ f, rdRows l at_ cnt cl = .error f -> ∀ h' tk' e t, FlyD base outer e (.int f t) ([] ++ fr outer) s.heap h' -> R (.error (.ref e)) { s with heap := h', toks := tk' }) :
  codeS (model PW w) A (.call (.ref 378) ⟨[.bytes l.toArray tb, .int at_ ta, .int cnt tc, .int cl tcl], []⟩) R s := by
 obtain ⟨n, rfl⟩ : ∃ n : Nat, cl = n := ⟨cl.toNat, by omega⟩
 refine enterQC 40 [] (fun f => rdRows l at_ cnt n = .error f) B G hh hdp hu Kn.nil (binds := [("data", .bytes l.toArray tb), ("at", .int at_ ta), ("count", .int cnt tc), ("classes", .int n tcl)]) (by k_is) (by k_is) (by decide) (by decide) (BindsTo.of_eq rfl) rfl (by decide +kernel) .nil hE ?_ rfl rfl rfl (by decide)
 intro c z env K L cells Y hcl hfc hC V hf hS h1 h2 h3 hK
 refine hideG ?_; intro PG9 hG9
 obtain ⟨oat, oda, rfl, dat, dda⟩ := CellsAre.two Y
 refine hG9 ?_; clear hG9 PG9
 clear Y
 have hcl2 : env.cells = [(("at" : Str), L + 1 + 1), (("data" : Str), L + 1)] := hcl
 refine cell_q V rfl (lkc hcl2 rfl) (.tail _ (.head _)) dda ?_
 refine cell_q V rfl (lkc hcl2 rfl) (.head _) dat ?_
 refine oin_q (hC.mo rfl) fun Xs sd t1 t2 lt fx fd => ?_
 refine meth_q hC (.head _) (.tail _ (.head _)) rfl rfl ?_
 refine u16_q (hC.mo rfl) hb lt (.head _) (fun _ => .tail .head) (.inr fd) (fun g1 t ta0 v e v0 v1 => ?_) fun g => h1 _ (rdR_e1 fun q => g ⟨hat, q⟩)
 have g1 := g1.2
 obtain ⟨k, rfl⟩ : ∃ k : Nat, v = k := ⟨v.toNat, by omega⟩
 intro t3
 refine twoJ (fun h => h) (fun h => h) (fun h => h) (fun q q2 => ?_) fun hc => ?_
 ·intro t4
  refine cell_q V rfl (lkc hcl2 rfl) (.tail _ (.tail _ (.head _))) dat ?_
  exact h1 _ (rdR_e2 g1 e q q2)
 refine newList_q hC (szl rfl) fun P fP => ?_
 refine for_e hC V hf rfl ?_
 refine range1_q hC fun Rg t4 t5 t6 fRg => ?_
 refine itRange_q (X := RrX) hC hf (.head _) rfl (by omega)
  (fun x => [("count", some (.int cnt tc)), ("classes", some (.int n tcl)), ("source", some (.ref Xs)), ("there", some (.int k t)), ("rows", some (.ref P)), ("turn", x.v1), ("offsets", x.v2)])
  (fun x => x.own ++ [(Rg, rgO 0 k 1 t4 t5 t6), (P, PySem.W.listOf x.vs.toArray x.n9), (Xs, instObj 170 sd), (sd, srcD w l x.p t1 tb t2 x.ta), (L + 1 + 1, oat), (L + 1, oda)])
  (RrOk c l at_ n) ⟨[], [], [], 0, at_ + 2, ta0, none, none⟩ rfl rfl ⟨rfl, .nil, nn1, by show at_ + 2 = _; simp⟩ ?_ ?_
 ·intro i t7 x z1 hi hz hok
  have hp := hok.p
  have hp0 : 0 <= x.p := by have : 0 <= 2 * (n : Int) * (i : Int) := Int.mul_nonneg (by omega) (by omega); omega
  have er : ∀ f, rdRow l at_ n x.p = .error f -> c.Er f := fun f hf => h1 _ (rdR_er g1 e hc hok.rs (by omega) hp hf)
  refine body_e0 20 hC (by decide) (by decide) V hf hz fun T0 hT0 => ?_
  refine meth_q hC (mR (.tail _ (.tail _ (.head _)))) (mR (.tail _ (.tail _ (.tail _ (.head _))))) rfl rfl ?_
  refine rows_q (hC.mo rfl) (by omega) (by omega) hb lt (mR (.tail _ (.tail _ (.head _)))) (fun _ => .app (.tail (.tail (.tail .head)))) (.inr fd) (fun g2 D u ys hys fD => ?_) fun g => er _ (by unfold rdRow; rw [if_pos (by omega)])
  have q2 : ¬ (l.length : Int) < x.p + 2 * (n : Int) := by omega
  have hys : IntsAre ys ((List.range n).map fun (j : Nat) => u16v l (x.p + 2 * (j : Int))) := hys
  have hyl := hys.length
  rw [List.length_map, List.length_range] at hyl
  refine lmApp_q (.tail _ (mR (.tail _ (.head _)))) ?_
  refine comp_q hC (V.shift z1 hz) (hf.shift z1) (clos_q hcl2 rfl) (by decide) rfl (by decide) rfl ?_
  refine itcList_q (X := Led × AnR) (b := true) hC (V.shift z1 hz) (vs := ys) (nn := ys.length) (fun x2 => x2.1 ++ (D, LCg.lst ys) :: (x.own ++ [(Rg, rgO 0 k 1 t4 t5 t6), (P, PySem.W.listOf x.vs.toArray x.n9), (Xs, instObj 170 sd), (sd, srcD w l (x.p + 2 * n) t1 tb t2 u), (L + 1 + 1, oat), (L + 1, oda)]))
   (fun j x2 zs => foldE (fun j => rdEl l at_ (u16v l (x.p + 2 * (j : Int)))) j = .ok x2.2 /\ RowAre w x2.1 zs x2.2 /\ ∀ p ∈ x2.1, Fre c p.1) ([], []) rfl ⟨rfl, .nil, nn1⟩ (fun x2 => List.mem_append_right _ (.head _)) (by omega) ?_ ?_
  ·intro j v0 hx2 zs c' z' env' hj hv0 hx9 hzl hC' V' hcl' hEr hS' hF hF'
   refine el_e V' hC' fun T1 hT1 => ?_
   obtain ⟨own2, r⟩ := hx2
   obtain ⟨hr, hd, hfr⟩ := hx9
   refine hideG ?_; intro PG9 hG9
   obtain ⟨o, to, rfl, ho⟩ := hys.at j v0 hv0
   refine hG9 ?_; clear hG9 PG9
   have hjn : j < n := by rw [hyl] at hj; exact hj
   have eo : o = u16v l (x.p + 2 * (j : Int)) := by
    rw [List.getElem?_map, List.getElem?_range hjn] at ho
    exact (Option.some.inj ho).symm
   refine cell_q V' rfl (lkc hcl' rfl) (mR (.tail _ (mR (.tail _ (.tail _ (.tail _ (.tail _ (.tail _ (.head _)))))))))  dda ?_
   refine cell_q V' rfl (lkc hcl' rfl) (mR (.tail _ (mR (.tail _ (.tail _ (.tail _ (.tail _ (.head _)))))))) dat ?_
   refine behind_q (hC'.mo rfl) hb (fun hO => ?_) (fun hO px py hrd a da t8 t9 t10 t11 lt2 fa fda => ?_) fun hO f hrd => hEr _ (er _ (rdRow_er q2 hr (by omega) (by rw [<- eo]; exact rdEl_e hO hrd)))
   ·exact hT1 (own2, r ++ [none]) _ _ ⟨foldE_ok hr (by rw [<- eo]; exact rdEl_0 hO), hd.snoc rfl, hfr⟩
   ·exact hT1 ((a, instObj 302 da) :: (da, ancD w px py t8 t9 t10 t11) :: own2, r ++ [some (px, py)]) _ _ ⟨foldE_ok hr (by rw [<- eo]; exact rdEl_ok hO hrd), (hd.mono fun q hq => .tail _ (.tail _ hq)).snoc (d := some (px, py)) ⟨a, da, _, _, _, _, rfl, .head _, .tail _ (.head _), lt2⟩, List.forall_mem_cons.mpr ⟨hF _ fa, List.forall_mem_cons.mpr ⟨hF _ fda, hfr⟩⟩⟩
  rintro ⟨own2, r⟩ zs ⟨hr, hd, hfr⟩ hzl D3 fD3
  refine tupL_q hC (.head _) (by omega) fun T fT => ?_
  refine app_q hC (.tail (.tail (.app (.tail (.app (.tail .head)))))) (.inr fP) (by have h9 := hok.d.len; have h8 := foldE_len hok.rs; omega) ?_
  refine hT0 _ _ _ ?_
  refine ⟨⟨(T, tupO zs) :: (D3, LCg.lst zs) :: (own2 ++ (D, LCg.lst ys) :: x.own), x.vs ++ [.ref T], x.rs ++ [r], x.n9 + 1, x.p + 2 * n, u, some _, some _⟩, rfl, by simp, foldE_ok hok.rs (by rw [<- hp]; exact rdRow_ok q2 rfl (by rw [hyl] at hr; exact hr)), ?_, ?_, ?_⟩
  ·exact (hok.d.mono fun p hp => .tail _ (.tail _ (mR (.tail _ hp)))).snoc (.head _) (hd.mono fun p hp => .tail _ (.tail _ (mL hp)))
  ·refine List.forall_mem_cons.mpr ⟨fT, List.forall_mem_cons.mpr ⟨fD3, fun p hp => (List.mem_append.mp hp).elim (hfr p) fun hp => ?_⟩⟩
   rcases List.mem_cons.mp hp with rfl | hp
   ·exact fD
   ·exact hok.fr p hp
  ·show x.p + 2 * (n : Int) = at_ + 2 + 2 * (n : Int) * ((i + 1 : Nat) : Int)
   rw [hp, Int.natCast_add, Int.mul_add]
   simp [Int.add_assoc]
 ·intro x hok
  refine hK _ _ _ fun h' tk y => ?_
  refine hR x.rs (rdR_ok g1 e hc rfl hok.rs) _ _ P x.vs x.n9 x.own y.kp (List.forall_mem_cons.mpr ⟨⟨y.at_ _ (mR (.tail _ (.head _))), h2 _ fP⟩, fun q hq => ⟨y.at_ _ (mL hq), h2 _ (hok.fr q hq)⟩⟩) hok.d ?_
  exact allNe_of fun p hp => (List.pairwise_append.mp y.nd).2.2 p hp _ (.tail _ (.head _))
end
end
section
set_option tactic.hygienic false
open PySem PySem.W PyProof.Rows PySem.Calls PySem.Spec
structure LlX where
 own : Led
 p : Int
 t : Tok
 vs : List Value
 n9 : Nat
 v1 : Option Value
structure LlY where
 own : Led
 p : Int
 t : Tok
 O : Addr
 us : List Value
 n9 : Nat
 v1 : Option Value
 v2 : Option Value
structure LlYOk (own0 : Led) (i : Nat) (x : LlY) : Prop where
 p0 : 0 <= x.p
 oct : ∃ ns, IntsAre x.us ns /\ Oct ns /\ ns.length = 2 + 2 * i
 O : (x.O, PySem.W.listOf x.us.toArray x.n9) ∈ x.own
 sub : ∀ q ∈ own0, q ∈ x.own
theorem three_of {α : Type} {vs : List α} (h : vs.length = 3) : ∃ a b c, vs = [a, b, c] := by
 cases vs with
 | nil => cases h
 | cons a r => cases r with
  | nil => cases h
  | cons b r => cases r with
   | nil => cases h
   | cons c r => cases r with
    | nil => exact ⟨a, b, c, rfl⟩
    | cons _ _ => cases h
theorem rows3 {own : Led} {vs : List Value} {P : Prop} (hl : vs.length = 3) (h : ∀ v ∈ vs, OctRow own v)
  (k : ∀ Q1 Q2 Q3 us1 us2 us3 ns1 ns2 ns3 m1 m2 m3, vs = [.ref Q1, .ref Q2, .ref Q3] -> (Q1, PySem.W.listOf us1.toArray m1) ∈ own -> IntsAre us1 ns1 -> ns1.length = 10 -> Oct ns1 -> (Q2, PySem.W.listOf us2.toArray m2) ∈ own -> IntsAre us2 ns2 -> ns2.length = 10 -> Oct ns2 ->
   (Q3, PySem.W.listOf us3.toArray m3) ∈ own -> IntsAre us3 ns3 -> ns3.length = 10 -> Oct ns3 -> P) : P := by
 refine hideG ?_; intro PG9 hG9
 obtain ⟨a, b, c, rfl⟩ := three_of hl
 refine hG9 ?_; clear hG9 PG9
 refine hideG ?_; intro PG9 hG9
 obtain ⟨Q1, us1, ns1, m1, rfl, a1, a2, a3, a4⟩ := h a (.head _)
 refine hG9 ?_; clear hG9 PG9
 refine hideG ?_; intro PG9 hG9
 obtain ⟨Q2, us2, ns2, m2, rfl, b1, b2, b3, b4⟩ := h b (.tail _ (.head _))
 refine hG9 ?_; clear hG9 PG9
 refine hideG ?_; intro PG9 hG9
 obtain ⟨Q3, us3, ns3, m3, rfl, c1, c2, c3, c4⟩ := h c (.tail _ (.tail _ (.head _)))
 refine hG9 ?_; clear hG9 PG9
 exact k _ _ _ _ _ _ _ _ _ _ _ _ rfl a1 a2 a3 a4 b1 b2 b3 b4 c1 c2 c3 c4
theorem ww_bnd {b : Int} (h0 : 0 <= b) (h1 : b < 60) : ∀ i, 0 <= [0, b, b + 10, b + 20, b + 1, 300].getD i 0 /\ [0, b, b + 10, b + 20, b + 1, 300].getD i 0 < 65536
 | 0 => (by decide : (0 : Int) <= 0 /\ (0 : Int) < 65536)
 | 1 => ⟨h0, Int.lt_trans h1 (by decide)⟩
 | 2 => ⟨Int.add_nonneg h0 (by decide), Int.lt_trans (Int.add_lt_add_right h1 10) (by decide)⟩
 | 3 => ⟨Int.add_nonneg h0 (by decide), Int.lt_trans (Int.add_lt_add_right h1 20) (by decide)⟩
 | 4 => ⟨Int.add_nonneg h0 (by decide), Int.lt_trans (Int.add_lt_add_right h1 1) (by decide)⟩
 | 5 => (by decide : (0 : Int) <= 300 /\ (300 : Int) < 65536)
 | _ + 6 => (by decide : (0 : Int) <= 0 /\ (0 : Int) < 65536)
section
variable {w : World} {mean : ExcName -> Option Value} {mg mb : Str -> Option Value} {A : Around} {base : Heap} {outer : List Env} {s : Shared} {R : Result -> Shared -> Prop}
theorem llaid_spec {S C : Addr} {n1 n2 : Nat} {cs : List Value} {xs : List Int} {p cnt : Int} {tp tc t2 : Tok} (hx : IntsAre cs xs) (hne : xs ≠ []) (hlen : xs.length <= 60) (hp : 0 <= p) (hc0 : 0 <= cnt) (hc3 : cnt < 4) (B : Below A base outer s.heap) (G : Gd w mean mg mb base) (hh : A.handled = none) (hdp : A.depth < 860) (hu : A.units + 900 < cLine)
  (hSC : @Ne Nat C S) (hkn : Kn base outer s.heap [(S, PySem.W.listOf #[.ref C, .int p tp] n1), (C, PySem.W.listOf cs.toArray n2)])
  (hR : ∀ h' tk' p' t' n' P us ns nn, 0 <= p' -> Kp [S] s.heap h' -> h'.get? S = some (PySem.W.listOf #[.ref C, .int p' t'] n') -> h'.get? P = some (PySem.W.listOf us.toArray nn) -> s.heap.get? P = none -> IntsAre us ns -> ns.length <= 100 -> (∀ n ∈ ns, 0 <= n /\ n < 256) -> R (.ok (.ret (.ref P))) { s with heap := h', toks := tk' }) :
  codeS (model PW w) A (.call (.ref 494) ⟨[.ref S, .int cnt tc, .int 2 t2], []⟩) R s := by
 obtain ⟨kc, rfl⟩ : ∃ k : Nat, cnt = k := ⟨cnt.toNat, by omega⟩
 refine enterQC 60 [S] (fun _ => False) B G hh hdp hu hkn (binds := [("source", .ref S), ("count", .int kc tc), ("wide", .int 2 t2)]) (by k_is) (by k_is) (by decide) (by decide) (BindsTo.of_eq rfl) rfl (by decide +kernel) (.cons (nn3 hSC.symm) (.cons nn1 .nil)) (fun _ h => h.elim) ?_ rfl rfl rfl (by decide)
 intro c z env K L cells Y hcl hfc hC V hf hS h1 h2 h3 hK
 obtain ⟨oc, rfl, dc⟩ := CellsAre.one Y
 clear Y
 have hcl2 : env.cells = [(("source" : Str), L + 1)] := hcl
 have hM : S ∈ c.S \/ Fre c S := .inl (by rw [hS]; exact .head _)
 intro t0
 refine newList_q hC (szl rfl) fun O fO => ?_
 refine newList_q hC (szl rfl) fun An fAn => ?_
 refine for_e hC V hf rfl ?_
 intro t3
 refine range1_q hC fun Rg t4 t5 t6 fRg => ?_
 refine itRange_q (n := 3) (X := LlX) hC hf (.head _) rfl (by omega)
  (fun x => [("count", some (.int kc tc)), ("wide", some (.int 2 t2)), ("octets", some (.ref O)), ("anchors", some (.ref An)), ("turn", x.v1), ("begin", none), ("number", none), ("offset", none)])
  (fun x => x.own ++ [(Rg, rgO 0 3 1 t4 t5 t6), (An, PySem.W.listOf x.vs.toArray x.n9), (O, PySem.W.listOf #[.int 0 t0, .int kc tc] 0), (L + 1, oc), (S, PySem.W.listOf #[.ref C, .int x.p x.t] n1), (C, PySem.W.listOf cs.toArray n2)])
  (fun i x => 0 <= x.p /\ x.vs.length = i /\ ∀ v ∈ x.vs, OctRow x.own v) ⟨[], p, tp, [], 0, none⟩ rfl rfl ⟨hp, rfl, fun _ h => absurd h List.not_mem_nil⟩ ?_ ?_
 ·intro i t7 x z1 hi hz hx6
  refine body_e 20 hC (by decide) (by decide) V hf hz fun T0 hT0 => ?_
  obtain ⟨hp0, hvl, hvs⟩ := hx6
  refine lmApp_q (mR (.tail _ (.head _))) ?_
  intro u0 u1 u2 u3 u4 u5 u6 u7 u8
  refine newTup_q hC (szl rfl) fun Dt fDt => ?_
  refine cell_q (V.shift z1 hz) rfl (lkc hcl2 rfl) (.tail _ (mR (.tail _ (.tail _ (.tail _ (.head _)))))) dc ?_
  intro t8
  refine draw_q (hC.mo rfl) hx hne hlen (by decide) (.tail _ (mR (.tail _ (.tail _ (.tail _ (.tail _ (.tail _ (.head _)))))))) (fun _ _ => .tail (.app (.tail (.tail (.tail (.tail .head)))))) hM fun v9 t9 t10 v0 v1 => ?_
  refine itemTI_q (.head _) (.cons _ _ (.cons _ _ (.cons _ _ (.cons _ _ (.cons _ _ (.cons _ _ (.cons _ _ (.cons _ _ .nil)))))))) v0 v1 (by omega) fun t11 => ?_
  have hmo : 0 <= [1, 2, 3, 1, 2, 3, 0, 4].getD v9.toNat (0 : Int) /\ [1, 2, 3, 1, 2, 3, 0, 4].getD v9.toNat (0 : Int) < 256 := menu_of (P := fun x => 0 <= x /\ x < 256) (by simp only [List.length_cons, List.length_nil]; omega) (by decide)
  generalize [1, 2, 3, 1, 2, 3, 0, 4].getD v9.toNat (0 : Int) = mv at hmo
  refine newList_q hC (szl rfl) fun la fla => ?_
  refine comp_q hC (V.shift z1 hz) (hf.shift z1) (clos_q hcl2 rfl) (by decide) rfl (by decide) rfl ?_
  intro t12
  refine range1_q hC fun Rg2 t13 t14 t15 fRg2 => ?_
  refine itcRange_q (n := 8) (X := Int × Tok) (b := true) hC (V.shift z1 hz) (.head _) rfl (by omega) (fun x2 => (Rg2, rgO 0 8 1 t13 t14 t15) :: (la, PySem.W.listOf #[.int 0 u0, .int mv t11] 0) :: (Dt, tupQ [.int 1 u1, .int 2 u2, .int 3 u3, .int 1 u4, .int 2 u5, .int 3 u6, .int 0 u7, .int 4 u8] 0) :: (x.own ++ [(Rg, rgO 0 3 1 t4 t5 t6), (An, PySem.W.listOf x.vs.toArray x.n9), (O, PySem.W.listOf #[.int 0 t0, .int kc tc] 0), (L + 1, oc), (S, PySem.W.listOf #[.ref C, .int x2.1 x2.2] n1), (C, PySem.W.listOf cs.toArray n2)]))
   (fun j x2 ys => 0 <= x2.1 /\ ∃ ns, IntsAre ys ns /\ Oct ns /\ ns.length = j) (x.p + 1, t10) rfl ⟨by show 0 <= x.p + 1; omega, [], .nil, .nil, rfl⟩ ?_ ?_
  ·intro j v2 x2 ys c' z' env' hj hx8 hx9 hyl hC' V' hcl' hEr hS' hF hF'
   refine el_e V' hC' fun T1 hT1 => ?_
   obtain ⟨tj, rfl⟩ := hx8
   refine hideG ?_; intro PG9 hG9
   obtain ⟨hp2, ns, hys, hns, hnl⟩ := hx9
   refine hG9 ?_; clear hG9 PG9
   refine cell_q V' rfl (lkc hcl' rfl) (.tail _ (.tail _ (.tail _ (mR (.tail _ (.tail _ (.tail _ (.head _)))))))) dc ?_
   intro t16
   refine draw_q (hC'.mo rfl) hx hne hlen (by decide) (.tail _ (.tail _ (.tail _ (mR (.tail _ (.tail _ (.tail _ (.tail _ (.tail _ (.head _)))))))))) (fun _ _ => .tail (.tail (.tail (.app (.tail (.tail (.tail (.tail .head)))))))) (.inl (by rw [hS', hS]; exact .head _)) fun v3 t17 t18 w0 w1 => ?_
   exact hT1 (x2.1 + 1, t18) _ _ ⟨by show 0 <= x2.1 + 1; omega, ns ++ [v3], hys.append (.cons _ _ .nil), hns.app (.cons ⟨w0, w1⟩ .nil), by rw [List.length_append, hnl]; rfl⟩
  intro hz09 ys hz29 hyl D fD
  obtain ⟨p2, tp2⟩ := hz09
  refine hideG ?_; intro PG9 hG9
  obtain ⟨hp2, ns, hys, hns, hnl⟩ := hz29
  refine hG9 ?_; clear hG9 PG9
  refine catI_q hC (.tail _ (.tail _ (.head _))) (.head _) (.cons _ _ (.cons _ _ .nil)) hys (by rw [hnl]; exact Nat.le_of_ble_eq_true rfl) fun D9 us hus fD9 => ?_
  refine app_q hC (.tail (.tail (.tail (.tail (.tail (.app (.tail .head))))))) (.inr fAn) (by omega) ?_
  refine hT0 ⟨(D9, PySem.W.listOf us.toArray 0) :: (D, LCg.lst ys) :: (Rg2, rgO 0 8 1 t13 t14 t15) :: (la, PySem.W.listOf #[.int 0 u0, .int mv t11] 0) :: (Dt, tupQ [.int 1 u1, .int 2 u2, .int 3 u3, .int 1 u4, .int 2 u5, .int 3 u6, .int 0 u7, .int 4 u8] 0) :: x.own, p2, tp2, x.vs ++ [.ref D9], x.n9 + 1, some _⟩ ⟨hp2, by rw [List.length_append, hvl]; rfl, fun v hv => ?_⟩
  rcases List.mem_append.mp hv with hv | hv
  ·exact (hvs v hv).mono fun q hq => .tail _ (.tail _ (.tail _ (.tail _ (.tail _ hq))))
  ·rw [List.mem_singleton.mp hv]
   exact ⟨D9, us, _, 0, rfl, .head _, hus, by rw [List.length_append, hnl]; rfl, .app (.cons ⟨by omega, by omega⟩ (.cons hmo .nil)) hns⟩
 ·rintro x ⟨hp0, hvl, hvs⟩
  refine hideG ?_; intro PG9 hG9
  obtain ⟨own, p1, tp1, vs, n9, v1⟩ := x
  refine hG9 ?_; clear hG9 PG9
  refine rows3 hvl hvs fun Q1 Q2 Q3 us1 us2 us3 ns1 ns2 ns3 m1 m2 m3 e hQ1 hi1 hl1 ho1 hQ2 hi2 hl2 ho2 hQ3 hi3 hl3 ho3 => ?_
  subst e
  clear hvs hvl
  have hp0 : 0 <= p1 := hp0
  intro t7 t8
  refine And.intro (.of_left (by decide)) fun t9 => ?_
  refine And.intro (.of_right (by decide)) fun t10 => ?_
  intro t11
  refine for_e hC V hf rfl ?_
  refine And.intro (.of_right (by decide)) fun t12 => ?_
  refine range1_q hC fun Rg3 t13 t14 t15 fRg3 => ?_
  refine itRange_q (n := kc * 2) (X := LlY) hC hf (.head _) (by omega) (by omega)
   (fun x => [("count", some (.int kc tc)), ("wide", some (.int 2 t2)), ("octets", some (.ref x.O)), ("anchors", some (.ref An)), ("turn", v1), ("begin", some (.int (2 + 2 * kc * 2) t11)), ("number", x.v1), ("offset", x.v2)])
   (fun x => x.own ++ [(L + 1, oc), (S, PySem.W.listOf #[.ref C, .int x.p x.t] n1), (C, PySem.W.listOf cs.toArray n2)])
   (LlYOk (own ++ [(An, PySem.W.listOf #[.ref Q1, .ref Q2, .ref Q3] n9)])) ⟨(Rg3, rgO 0 (kc * 2) 1 t13 t14 t15) :: (own ++ [(Rg, rgO 0 3 1 t4 t5 t6), (An, PySem.W.listOf #[.ref Q1, .ref Q2, .ref Q3] n9), (O, PySem.W.listOf #[.int 0 t0, .int kc tc] 0)]), p1, tp1, O, [.int 0 t0, .int kc tc], 0, none, none⟩ rfl (by simp) ?_ ?_ ?_
  ·refine ⟨hp0, ⟨[0, kc], .cons _ _ (.cons _ _ .nil), .cons ⟨by omega, by omega⟩ (.cons ⟨by omega, by omega⟩ .nil), rfl⟩, .tail _ (mR (.tail _ (.tail _ (.head _)))), fun q hq => ?_⟩
   rcases List.mem_append.mp hq with hq | hq
   ·exact .tail _ (mL hq)
   ·rw [List.mem_singleton.mp hq]; exact .tail _ (mR (.tail _ (.head _)))
  ·intro i t16 x z1 hi hz hok
   refine hideG ?_; intro PG9 hG9
   obtain ⟨ns, hys, hns, hnl⟩ := hok.oct
   refine hG9 ?_; clear hG9 PG9
   refine body_e 20 hC (by decide) (by decide) V hf hz fun T0 hT0 => ?_
   intro u0 u1 u2 u3 u4 u5 u6 u7
   refine newTup_q hC (szl rfl) fun Dt fDt => ?_
   refine cell_q (V.shift z1 hz) rfl (lkc hcl2 rfl) (.tail _ (mR (.head _))) dc ?_
   intro t17
   refine draw_q (hC.mo rfl) hx hne hlen (by decide) (.tail _ (mR (.tail _ (.tail _ (.head _))))) (fun _ _ => .tail (.app (.tail .head))) hM fun v9 t18 t19 w0 w1 => ?_
   refine itemTI_q (.head _) (.cons _ _ (.cons _ _ (.cons _ _ (.cons _ _ (.cons _ _ (.cons _ _ .nil)))))) w0 w1 (by omega) fun t20 => ?_
   have hw := ww_bnd (b := 2 + 2 * (kc : Int) * 2) (by omega) (by omega) v9.toNat
   generalize [0, 2 + 2 * (kc : Int) * 2, 2 + 2 * (kc : Int) * 2 + 10, 2 + 2 * (kc : Int) * 2 + 20, 2 + 2 * (kc : Int) * 2 + 1, 300].getD v9.toNat 0 = ww at hw
   intro t21
   refine And.intro ⟨by decide, by decide⟩ fun t22 => ?_
   intro t23
   refine And.intro (by decide) fun t24 => ?_
   refine newList_q hC (szl rfl) fun la fla => ?_
   refine catI_q hC (.tail _ (.tail _ (List.mem_append_left _ hok.O))) (.head _) hys (.cons _ _ (.cons _ _ .nil)) (by rw [hnl]; show 2 + 2 * i + 2 <= _; omega) fun D us hus fD => ?_
   refine hT0 ⟨(D, PySem.W.listOf us.toArray 0) :: (la, _) :: (Dt, _) :: x.own, x.p + 1, t19, D, us, 0, some _, some (.int ww t20)⟩ ⟨by show 0 <= x.p + 1; have := hok.p0; omega, ⟨_, hus, ?_, ?_⟩, .head _, fun q hq => .tail _ (.tail _ (.tail _ (hok.sub q hq)))⟩
   ·rw [Int.fdiv_eq_ediv_of_nonneg _ (by decide), Int.fmod_eq_emod_of_nonneg _ (by decide)]
    exact hns.app (.cons ⟨by omega, by omega⟩ (.cons ⟨by omega, by omega⟩ .nil))
   ·rw [List.length_append, hnl]; simp only [List.length_cons, List.length_nil]; omega
  ·intro x hok
   refine hideG ?_; intro PG9 hG9
   obtain ⟨ns, hys, hns, hnl⟩ := hok.oct
   refine hG9 ?_; clear hG9 PG9
   have mAn : (An, PySem.W.listOf #[.ref Q1, .ref Q2, .ref Q3] n9) ∈ x.own := hok.sub _ (mR (.head _))
   have m1' := hok.sub _ (mL hQ1)
   have m2' := hok.sub _ (mL hQ2)
   have m3' := hok.sub _ (mL hQ3)
   intro t16
   refine itemL_q (vs := [.ref Q1, .ref Q2, .ref Q3]) (mL mAn) (by decide) (by decide) rfl ?_
   refine catI_q hC (List.mem_append_left _ hok.O) (mL m1') hys hi1 (by omega) fun D1 w1 hw1 fD1 => ?_
   intro t17
   refine itemL_q (vs := [.ref Q1, .ref Q2, .ref Q3]) (.tail _ (mL mAn)) (by decide) (by decide) rfl ?_
   refine catI_q hC (.head _) (.tail _ (mL m2')) hw1 hi2 (by rw [List.length_append]; omega) fun D2 w2 hw2 fD2 => ?_
   intro t18
   refine itemL_q (vs := [.ref Q1, .ref Q2, .ref Q3]) (.tail _ (.tail _ (mL mAn))) (by decide) (by decide) rfl ?_
   refine catI_q hC (.head _) (.tail _ (.tail _ (mL m3'))) hw2 hi3 (by rw [List.length_append, List.length_append]; omega) fun D3 w3 hw3 fD3 => ?_
   have hl3' := hw3.length
   have hL3 : (ns ++ ns1 ++ ns2 ++ ns3).length = 32 + 2 * (kc * 2) := by simp only [List.length_append]; omega
   have hL4 : (ns ++ ns1 ++ ns2 ++ ns3).length <= 100 := by rw [hL3]; omega
   refine lenL_q (.head _) (by omega) fun t19 => ?_
   refine cell_q V rfl (lkc hcl2 rfl) (.tail _ (.tail _ (.tail _ (mR (.head _))))) dc ?_
   intro t20
   refine draw_q (hC.mo rfl) hx hne hlen (by decide) (.tail _ (.tail _ (.tail _ (mR (.tail _ (.tail _ (.head _))))))) (fun _ _ => .tail (.tail (.tail (.app (.tail .head))))) hM fun v9 t21 t22 w0 w1 => ?_
   intro t23
   refine Two.mk (fun _ => ?_) fun _ => ?_
   ·refine cell_q V rfl (lkc hcl2 rfl) (.tail _ (.tail _ (.tail _ (mR (.head _))))) dc ?_
    intro t24
    refine draw_q (hC.mo rfl) hx hne hlen (by decide) (.tail _ (.tail _ (.tail _ (mR (.tail _ (.tail _ (.head _))))))) (fun _ _ => .tail (.tail (.tail (.app (.tail .head))))) hM fun v8 t25 t26 w2 w3 => ?_
    intro t27
    refine sliceI_q hC (.head _) .none (.int _ _) hw3 (kmk_upto hw3 (by omega)) (by omega) fun P ps hps fP => ?_
    refine hK _ _ _ fun h' tk y => ?_
    exact hR _ _ _ _ _ P ps _ 0 (by have := hok.p0; omega : 0 <= x.p + 1 + 1) y.kp (y.at_ _ (.tail _ (.tail _ (.tail _ (.tail _ (mR (.tail _ (.head _)))))))) (y.at_ _ (.head _)) (h2 _ fP) hps (by rw [List.length_take]; exact Nat.le_trans (Nat.min_le_right _ _) hL4) fun n hn => (((hns.app ho1).app ho2).app ho3) n (List.mem_of_mem_take hn)
   ·intro t24 t25
    refine sliceI_q hC (.head _) .none (.int _ _) hw3 (kmk_upto hw3 (by omega)) (by omega) fun P ps hps fP => ?_
    refine hK _ _ _ fun h' tk y => ?_
    exact hR _ _ _ _ _ P ps _ 0 (by have := hok.p0; omega : 0 <= x.p + 1) y.kp (y.at_ _ (.tail _ (.tail _ (.tail _ (.tail _ (mR (.tail _ (.head _)))))))) (y.at_ _ (.head _)) (h2 _ fP) hps (by rw [List.length_take]; exact Nat.le_trans (Nat.min_le_right _ _) hL4) fun n hn => (((hns.app ho1).app ho2).app ho3) n (List.mem_of_mem_take hn)
end
end
section
set_option tactic.hygienic false
open PySem PySem.W PyProof.Rows PySem.Calls PySem.Spec
noncomputable def notN : Value -> Bool
 | .none => false
 | _ => true
noncomputable def kept (rws : List (List Value)) : List Value := rws.flatMap fun us => us.filter notN
section
variable {w : World} {A : Around} {E : Value -> Shared -> Prop} {s : Shared} {env : Env} {R : Result -> Shared -> Prop}
theorem compTurn_two (elt t0 i0 t1 i1 : PySem.Expr) (ct : PySem.Expr) (scope : Scope) (pos : Pos) (it acc : Value) (env : Env) :
  compTurn (.ListComp elt [⟨t0, i0, [], 0⟩, ⟨t1, i1, [ct], 0⟩] scope pos) 0 it acc env = (standAt i0.pos >>= fun _ => pyNext it >>= fun r => match r with
   | none => pure (.done .next)
   | some v => letOwnedTupleGo t0 it v >>= fun _ => assign t0 env v >>= fun _ => eval i1 env >>= fun x => standAt i1.pos >>= fun _ => foldedSetIterable i1 env x >>= fun x =>
    holding [x] (pyIter x) >>= fun it2 => runOwn (.compStart (.ListComp elt [⟨t0, i0, [], 0⟩, ⟨t1, i1, [ct], 0⟩] scope pos) 1 it2 acc env) env >>= fun _ =>
     again (.compLoop (.ListComp elt [⟨t0, i0, [], 0⟩, ⟨t1, i1, [ct], 0⟩] scope pos) 0 it acc env)) := by rfl
theorem compTurn_in (elt t0 i0 t1 i1 : PySem.Expr) (ct : PySem.Expr) (scope : Scope) (pos : Pos) (it acc : Value) (env : Env) :
  compTurn (.ListComp elt [⟨t0, i0, [], 0⟩, ⟨t1, i1, [ct], 0⟩] scope pos) 1 it acc env = (standAt i1.pos >>= fun _ => pyNext it >>= fun r => match r with
   | none => pure (.done .next)
   | some v => letOwnedTupleGo t1 it v >>= fun _ => assign t1 env v >>= fun _ =>
    (forIn [ct] true fun c r => if r = true then do let ok <- isTrue c env (eval c env); pure (ForInStep.yield ok) else pure (ForInStep.yield r)) >>= fun ok =>
     if ok = true then (eval elt env >>= fun x => call (.builtin "list.append") [acc, x] >>= fun _ => pure ()) >>= fun _ =>
      again (.compLoop (.ListComp elt [⟨t0, i0, [], 0⟩, ⟨t1, i1, [ct], 0⟩] scope pos) 1 it acc env)
     else again (.compLoop (.ListComp elt [⟨t0, i0, [], 0⟩, ⟨t1, i1, [ct], 0⟩] scope pos) 1 it acc env)) := by rfl
theorem compStart_in {elt t0 i0 t1 i1 ct : PySem.Expr} {scope : Scope} {pos : Pos} {it acc : Value} {env : Env}
  (h0 : codeAny (model PW w) A (.compLoop (.ListComp elt [⟨t0, i0, [], 0⟩, ⟨t1, i1, [ct], 0⟩] scope pos) 1 it acc env) R s)
  (h : wpAny (model PW w) A (pyIter it) (fun it' s' => codeAny (model PW w) A (.compLoop (.ListComp elt [⟨t0, i0, [], 0⟩, ⟨t1, i1, [ct], 0⟩] scope pos) 1 it' acc env) R s')
   (notedBy (model PW w) A env fun x s' => R (.error x) s') s) :
  codeAny (model PW w) A (.compStart (.ListComp elt [⟨t0, i0, [], 0⟩, ⟨t1, i1, [ct], 0⟩] scope pos) 1 it acc env) R s := by
 refine codeAny_of_tree ?_
 refine wpAny_notedAt ?_
 refine wpAny_bind (wpAny_askSetting (wpAny_ite ?_))
 split
 ·first
   | exact wpAny_bind (wpAny_pure (wpAny_pure (And.intro rfl h0)))
   | exact wpAny_pure (And.intro rfl h0)
 ·first
   | exact wpAny_bind (wpAny_rule (wpAny_bind (wpAny_standAt (wpAny_bind (wpAny_mono h (fun it' s' h' => wpAny_pure (And.intro rfl h')) fun _ _ x => x)))))
   | (refine wpAny_bind (wpAny_rule ?_); show wpAny _ _ (standAt i1.pos >>= _) _ _ s; exact wpAny_bind (wpAny_standAt (wpAny_bind (wpAny_mono h (fun it' s' h' => wpAny_pure (And.intro rfl h')) fun _ _ x => x))))
theorem inner_loop (hh : A.handled = none) {elt t0 i0 i1 ct : PySem.Expr} {y : Str} {py : Pos} {scope : Scope} {pos : Pos} {env : Env} {I T D C : Addr} {us ys0 : List Value}
  (hyk : env.kindOf y = some .local) (hloc : env.locals = C) (hkf : (env.scope.kind == .class || (env.scope.kind == .module && env.locals != env.globals)) = false)
  (hct : ∀ (s' : Shared) m' v E' (Q : Bool -> Shared -> Prop), s'.heap.Ns C m' -> m' y = some v -> (v = .none \/ ∃ P, v = .ref P) -> Q (notN v) s' -> wpAny (model PW w) A (isTrue ct env (eval ct env)) Q E' s')
  (helt : ∀ (s' : Shared) m' v E' (Q : Value -> Shared -> Prop), s'.heap.Ns C m' -> m' y = some v -> Q v s' -> wpAny (model PW w) A (eval elt env) Q E' s')
  (hus : ∀ u ∈ us, u = .none \/ ∃ P, u = .ref P) (hsz : ys0.length + us.length <= 100000)
  (hIT : T ≠ I) (hIC : C ≠ I) (hID : D ≠ I) (hTC : C ≠ T) (hTD : D ≠ T) (hCD : C ≠ D)
  {m0 : Str -> Option Value} (hit : s.heap.IsTupleIter I T 0) (hT : s.heap.IsTuple T us.toArray) (hC : s.heap.Ns C m0) (hD : s.heap.get? D = some (LCg.lst ys0))
  (hR : ∀ h' tk m', h'.Ns C m' -> h'.get? D = some (LCg.lst (ys0 ++ us.filter notN)) -> (∀ b o, b ≠ I -> b ≠ C -> b ≠ D -> s.heap.get? b = some o -> h'.get? b = some o) -> R (.ok .next) { s with heap := h', toks := tk }) :
  codeAny (model PW w) A (.compLoop (.ListComp elt [⟨t0, i0, [], 0⟩, ⟨.Name y py, i1, [ct], 0⟩] scope pos) 1 (.ref I) (.ref D) env) R s := by
 have W := Walks.tuple (prog := PW) (w := w) (A := A) hh I T hIT us.toArray
 refine codeAny_loop rfl (fun k s' => ∃ i, i + k = us.length + 1 /\ i <= us.length /\ ∃ h' tk m', s' = { s with heap := h', toks := tk } /\ (h'.IsTupleIter I T i /\ h'.IsTuple T us.toArray) /\ h'.Ns C m' /\ h'.get? D = some (LCg.lst (ys0 ++ (us.take i).filter notN)) /\ (∀ b o, b ≠ I -> b ≠ C -> b ≠ D -> s.heap.get? b = some o -> h'.get? b = some o)) ?_ (us.length + 1)
  ⟨0, by omega, Nat.zero_le _, s.heap, s.toks, m0, rfl, ⟨hit, hT⟩, hC, by simpa using hD, fun _ _ _ _ _ e => e⟩
 intro k s' hz29
 refine hideG ?_; intro PG9 hG9
 obtain ⟨i, hik, hin, h', tk, m', rfl, hst, hn, hDi, keep⟩ := hz29
 refine hG9 ?_; clear hG9 PG9
 show wpAny _ A ((compTurn (.ListComp elt [⟨t0, i0, [], 0⟩, ⟨.Name y py, i1, [ct], 0⟩] scope pos) 1 (.ref I) (.ref D) env).onRaise (fun x => do noteFrame x env; theTreesLotGoes x)) _ _ _
 refine wpAny_noted ?_
 rw [compTurn_in]
 refine wpAny_bind (wpAny_standAt (wpAny_bind ?_))
 have fpC : C ∉ [I, T] := by simp [hIC, hTC]
 have fpD : D ∉ [I, T] := by simp [hID, hTD]
 by_cases hlt : i < us.length
 ·refine W.item i _ _ _ (by simpa using hlt) hst fun v h₂ tk₂ hPv hst₂ hk₂ => ?_
  have k2 : ∀ b o, b ≠ I -> h'.get? b = some o -> h₂.get? b = some o := fun b o n e => hk₂ b o (by simpa using n) e
  have hPv' : us[i]? = some v := by simpa using hPv
  have hv := hus v (List.mem_of_getElem? hPv')
  refine wpAny_bind (wpAny_of_eq (a := ()) (by rfl) (wpAny_bind ?_))
  refine wpAny_assign_Name (wpAny_storeName_local hyk (by rw [hloc]; exact hn.at' fun o e => k2 _ o hIC e) (fun h₃ hn₃ hs₃ => ?_) hkf)
  rw [hloc] at hn₃ hs₃
  have hst₃ := W.frame _ _ _ hst₂ fun b hb o e => hs₃.extBut b o (fun q => fpC (by rw [<- q]; exact hb)) e
  have D3 : h₃.get? D = some (LCg.lst (ys0 ++ (us.take i).filter notN)) := hs₃.extBut _ _ (Ne.symm hCD) (k2 _ _ hID hDi)
  have keep3 : ∀ b o, b ≠ I -> b ≠ C -> b ≠ D -> s.heap.get? b = some o -> h₃.get? b = some o := fun b o n1 n2 n3 e => hs₃.extBut b o n2 (k2 b o n1 (keep b o n1 n2 n3 e))
  refine wpAny_bind (wpAny_tests_one (hct _ _ v _ _ hn₃ (by simp) hv ?_))
  have tk1 : (us.take (i + 1)).filter notN = (us.take i).filter notN ++ (if notN v then [v] else []) := by
   rw [List.take_add_one, hPv', Option.toList_some, List.filter_append]
   cases q : notN v <;> simp [q]
  cases q : notN v with
  | false =>
   rw [q] at tk1
   simp only [Bool.false_eq_true, if_false, List.append_nil] at tk1 ⊢
   exact wpAny_pure ⟨rfl, us.length + 1 - (i + 1), tkA hik hlt, i + 1, tkB hlt, hlt, h₃, _, _, rfl, hst₃, hn₃, by rw [tk1]; exact D3, keep3⟩
  | true =>
   rw [q] at tk1
   simp only [if_true] at tk1 ⊢
   refine wpAny_bind (wpAny_bind (helt _ _ v _ _ hn₃ (by simp) (wpAny_bind (append_at (hsz := ?_) D3 fun h₄ hs₄ hD₄ => wpAny_pure (wpAny_pure ⟨rfl, us.length + 1 - (i + 1), tkA hik hlt, i + 1, tkB hlt, hlt, h₄, _, _, rfl, W.frame _ _ _ hst₃ fun b hb o e => hs₄.extBut b o (fun q => fpD (q ▸ hb)) e, hn₃.at' (fun o e => hs₄.extBut _ _ hCD e), ?_, fun b o n1 n2 n3 e => hs₄.extBut b o n3 (keep3 b o n1 n2 n3 e)⟩)))))
   ·rw [tk1, <- List.append_assoc]
    exact hD₄.trans (congrArg some (LCg.lst_snoc _ v))
   ·have : ((us.take i).filter notN).length <= us.length := Nat.le_trans (List.length_filter_le _ _) (by rw [List.length_take]; omega)
    show (ys0 ++ (us.take i).filter notN).toArray.size <= sizeLine
    rw [List.size_toArray, List.length_append, sizeLine_eq]
    omega
 ·obtain rfl : i = us.length := Nat.le_antisymm hin (Nat.not_lt.mp hlt)
  refine W.done _ _ _ (by simpa using hst) fun h₂ tk₂ hk₂ => ?_
  have k2 : ∀ b o, b ≠ I -> h'.get? b = some o -> h₂.get? b = some o := fun b o n e => hk₂ b o (by simpa using n) e
  rw [List.take_length] at hDi
  exact wpAny_pure (hR h₂ tk₂ m' (hn.at' fun o e => k2 _ o hIC e) (k2 _ _ hID hDi) fun b o n1 n2 n3 e => k2 b o n1 (keep b o n1 n2 n3 e))
theorem outer_loop (hh : A.handled = none) {elt i0 ct : PySem.Expr} {x y : Str} {px py p2 : Pos} {scope : Scope} {pos : Pos} {env : Env} {I T D C : Addr} {vs : List Value} {rws : List (List Value)}
  (hxk : env.kindOf x = some .local) (hyk : env.kindOf y = some .local) (hloc : env.locals = C) (hkf : (env.scope.kind == .class || (env.scope.kind == .module && env.locals != env.globals)) = false)
  (hct : ∀ (A : Around) (s' : Shared) m' v E' (Q : Bool -> Shared -> Prop), s'.heap.Ns C m' -> m' y = some v -> (v = .none \/ ∃ P, v = .ref P) -> Q (notN v) s' -> wpAny (model PW w) A (isTrue ct env (eval ct env)) Q E' s')
  (helt : ∀ (A : Around) (s' : Shared) m' v E' (Q : Value -> Shared -> Prop), s'.heap.Ns C m' -> m' y = some v -> Q v s' -> wpAny (model PW w) A (eval elt env) Q E' s')
  (hi1 : ∀ (A : Around) (s' : Shared) m' v E' (Q : Value -> Shared -> Prop), s'.heap.Ns C m' -> m' x = some v -> Q v s' -> wpAny (model PW w) A (eval (.Name x p2) env) Q E' s')
  (hfs : ∀ v, foldedSetIterable (.Name x p2) env v = pure v)
  (hvl : vs.length = rws.length) (hus : ∀ us ∈ rws, ∀ u ∈ us, u = .none \/ ∃ P, u = .ref P) (hsz : (kept rws).length <= 50000) (hsz2 : ∀ us ∈ rws, us.length <= 50000)
  (hTs : ∀ (i : Nat) v us, vs[i]? = some v -> rws[i]? = some us -> ∃ Ti, v = .ref Ti /\ s.heap.IsTuple Ti us.toArray /\ Ti ≠ I /\ Ti ≠ C /\ Ti ≠ D)
  (hIT : T ≠ I) (hIC : C ≠ I) (hID : D ≠ I) (hTC : C ≠ T) (hTD : D ≠ T) (hCD : C ≠ D)
  {m0 : Str -> Option Value} (hit : s.heap.IsTupleIter I T 0) (hT : s.heap.IsTuple T vs.toArray) (hC : s.heap.Ns C m0) (hD : s.heap.get? D = some (LCg.lst []))
  (hR : ∀ h' tk m', h'.Ns C m' -> h'.get? D = some (LCg.lst (kept rws)) -> (∀ b o, b ≠ I -> b ≠ C -> b ≠ D -> s.heap.get? b = some o -> h'.get? b = some o) -> R (.ok .next) { s with heap := h', toks := tk }) :
  codeAny (model PW w) A (.compLoop (.ListComp elt [⟨.Name x px, i0, [], 0⟩, ⟨.Name y py, .Name x p2, [ct], 0⟩] scope pos) 0 (.ref I) (.ref D) env) R s := by
 have W := Walks.tuple (prog := PW) (w := w) (A := A) hh I T hIT vs.toArray
 have kl : ∀ i, (kept (rws.take i)).length <= 50000 := fun i => by
  refine Nat.le_trans ?_ hsz
  have : kept rws = kept (rws.take i) ++ kept (rws.drop i) := by unfold kept; rw [<- List.flatMap_append, List.take_append_drop]
  rw [this, List.length_append]; omega
 refine codeAny_loop rfl (fun k s' => ∃ i, i + k = vs.length + 1 /\ i <= vs.length /\ ∃ h' tk m', s' = { s with heap := h', toks := tk } /\ (h'.IsTupleIter I T i /\ h'.IsTuple T vs.toArray) /\ h'.Ns C m' /\ h'.get? D = some (LCg.lst (kept (rws.take i))) /\ (∀ b o, b ≠ I -> b ≠ C -> b ≠ D -> s.heap.get? b = some o -> h'.get? b = some o)) ?_ (vs.length + 1)
  ⟨0, by omega, Nat.zero_le _, s.heap, s.toks, m0, rfl, ⟨hit, hT⟩, hC, hD, fun _ _ _ _ _ e => e⟩
 intro k s' hz29
 refine hideG ?_; intro PG9 hG9
 obtain ⟨i, hik, hin, h', tk, m', rfl, hst, hn, hDi, keep⟩ := hz29
 refine hG9 ?_; clear hG9 PG9
 show wpAny _ A ((compTurn (.ListComp elt [⟨.Name x px, i0, [], 0⟩, ⟨.Name y py, .Name x p2, [ct], 0⟩] scope pos) 0 (.ref I) (.ref D) env).onRaise (fun x => do noteFrame x env; theTreesLotGoes x)) _ _ _
 refine wpAny_noted ?_
 rw [compTurn_two]
 refine wpAny_bind (wpAny_standAt (wpAny_bind ?_))
 have fpC : C ∉ [I, T] := by simp [hIC, hTC]
 have fpD : D ∉ [I, T] := by simp [hID, hTD]
 by_cases hlt : i < vs.length
 ·refine W.item i _ _ _ (by simpa using hlt) hst fun v h₂ tk₂ hPv hst₂ hk₂ => ?_
  have k2 : ∀ b o, b ≠ I -> h'.get? b = some o -> h₂.get? b = some o := fun b o n e => hk₂ b o (by simpa using n) e
  have hPv' : vs[i]? = some v := by simpa using hPv
  obtain ⟨us, hri⟩ : ∃ us, rws[i]? = some us := ⟨rws[i]'(by omega), List.getElem?_eq_getElem (by omega)⟩
  have hmem := List.mem_of_getElem? hri
  refine hideG ?_; intro PG9 hG9
  obtain ⟨Ti, rfl, hTi, n1, n2, n3⟩ := hTs i v us hPv' hri
  refine hG9 ?_; clear hG9 PG9
  refine wpAny_bind (wpAny_of_eq (a := ()) (by rfl) (wpAny_bind ?_))
  refine wpAny_assign_Name (wpAny_storeName_local hxk (by rw [hloc]; exact hn.at' fun o e => k2 _ o hIC e) (fun h₃ hn₃ hs₃ => ?_) hkf)
  rw [hloc] at hn₃ hs₃
  have hst₃ := W.frame _ _ _ hst₂ fun b hb o e => hs₃.extBut b o (fun q => fpC (by rw [<- q]; exact hb)) e
  have D3 : h₃.get? D = some (LCg.lst (kept (rws.take i))) := hs₃.extBut _ _ (Ne.symm hCD) (k2 _ _ hID hDi)
  have keep3 : ∀ b o, b ≠ I -> b ≠ C -> b ≠ D -> s.heap.get? b = some o -> h₃.get? b = some o := fun b o n1 n2 n3 e => hs₃.extBut b o n2 (k2 b o n1 (keep b o n1 n2 n3 e))
  refine wpAny_bind (hi1 _ _ _ (.ref Ti) _ _ hn₃ (by simp) (wpAny_bind (wpAny_standAt (wpAny_bind (wpAny_of_eq (hfs _) (wpAny_bind (wpAny_holding ?_)))))))
  have hTi3 : h₃.IsTuple Ti us.toArray := by
   obtain ⟨o, e, r⟩ := hTi
   exact ⟨o, keep3 _ _ n1 n2 n3 e, r⟩
  refine wpAny_pyIter_tuple hTi3 (wpAny_bind (wpAny_runOwn (compStart_in ?_ ?_) (by intro q; cases q)))
  all_goals
   try refine wpAny_pyIter_tupleiter (i := 0) ⟨_, Heap.get?_push_size _ rfl, rfl, rfl⟩ ?_
   have up : ∀ b o, h₃.get? b = some o -> (h₃.push { cls := .type "tuple_iterator", data := .fields #[.ref Ti, .int 0 0] }).get? b = some o := fun b o e => Heap.get?_push_of_some _ e
   have lt : ∀ {b o}, h₃.get? b = some o -> b ≠ h₃.objs.size := fun e => Nat.ne_of_lt (Heap.lt_size e)
   obtain ⟨oC, eC⟩ : ∃ o, h₃.get? C = some o := by obtain ⟨o, _, _, e, _⟩ := hn₃; exact ⟨o, e⟩
   obtain ⟨oT, eT, _⟩ := hTi3
   have hTi3 : h₃.IsTuple Ti us.toArray := ⟨oT, eT, by assumption⟩
   have wI : ∀ o, h₃.get? I = some o -> I ≠ h₃.objs.size := fun o e => lt e
   obtain ⟨oI, eI, _⟩ := hst₃.1
   obtain ⟨oV, eV, _⟩ := hst₃.2
   refine inner_loop (T := Ti) (C := C) (us := us) (ys0 := kept (rws.take i)) (by first | rfl | exact hh | simp [hh, Around.mark]) hyk hloc hkf (fun s' m' v E' Q => hct _ s' m' v E' Q) (fun s' m' v E' Q => helt _ s' m' v E' Q) (hus us hmem) (by have := hsz2 us hmem; have := kl i; omega) (lt eT) (lt eC) (lt D3) n2.symm n3.symm hCD
    ⟨_, Heap.get?_push_size _ rfl, rfl, rfl⟩ (hTi3.push _) (hn₃.at' fun o e => up _ o e) (up _ _ D3) fun h₄ tk₄ m₄ hn₄ hD₄ keep₄ => ?_
   have keep4 : ∀ b o, b ≠ C -> b ≠ D -> h₃.get? b = some o -> h₄.get? b = some o := fun b o n1 n2 e => keep₄ b o (lt e) n1 n2 (up b o e)
   refine wpAny_pure ⟨rfl, vs.length + 1 - (i + 1), tkA hik hlt, i + 1, tkB hlt, hlt, h₄, _, _, rfl, W.frame _ _ _ hst₃ (fun b hb o e => keep4 b o (fun q => fpC (q ▸ hb)) (fun q => fpD (q ▸ hb)) e), hn₄, ?_, fun b o n1 n2 n3 e => keep4 b o n2 n3 (keep3 b o n1 n2 n3 e)⟩
   rw [hD₄]
   unfold kept
   rw [List.take_add_one, hri, Option.toList_some, List.flatMap_append]
   simp
 ·obtain rfl : i = vs.length := Nat.le_antisymm hin (Nat.not_lt.mp hlt)
  refine W.done _ _ _ (by simpa using hst) fun h₂ tk₂ hk₂ => ?_
  have k2 : ∀ b o, b ≠ I -> h'.get? b = some o -> h₂.get? b = some o := fun b o n e => hk₂ b o (by simpa using n) e
  rw [hvl, List.take_length] at hDi
  exact wpAny_pure (hR h₂ tk₂ m' (hn.at' fun o e => k2 _ o hIC e) (k2 _ _ hID hDi) fun b o n1 n2 n3 e => k2 b o n1 (keep b o n1 n2 n3 e))
end
section
variable {w : World} {A : Around} {E : Value -> Shared -> Prop} {s : Shared} {env : Env} {h₀ : Heap} {L : Addr} {m : Str -> Option Value} {news : List (Addr × Obj)}
theorem listComp2 {elt iter ct : PySem.Expr} {x y : Str} {px py p2 : Pos} {scope : Scope} {cl : List (Str × Addr)} {pos : Pos} {Q : Value -> Shared -> Prop} {T : Addr} {vs : List Value} {nT : Nat} {rws : List (List Value)}
  (hclos : closureFor scope env = pure cl) (hcell : ∀ y ∈ scope.names, y.2 ≠ .cell) (hkind : scope.kind = .function)
  (hnames : ∀ y ∈ scope.names, y.2 = .local -> scope.names.lookup y.1 = some .local) (hx : scope.names.lookup x = some .local) (hy : scope.names.lookup y = some .local)
  (hst : ∀ x, foldedSetIterable iter env x = pure x)
  (hfs : ∀ C v, foldedSetIterable (.Name x p2) (compEnvC scope cl C env) v = pure v)
  (hct : ∀ C (A : Around) (s' : Shared) m' v E' (Q : Bool -> Shared -> Prop), s'.heap.Ns C m' -> m' y = some v -> (v = .none \/ ∃ P, v = .ref P) -> Q (notN v) s' -> wpAny (model PW w) A (isTrue ct (compEnvC scope cl C env) (eval ct (compEnvC scope cl C env))) Q E' s')
  (helt : ∀ C (A : Around) (s' : Shared) m' v E' (Q : Value -> Shared -> Prop), s'.heap.Ns C m' -> m' y = some v -> Q v s' -> wpAny (model PW w) A (eval elt (compEnvC scope cl C env)) Q E' s')
  (hi1 : ∀ C (A : Around) (s' : Shared) m' v E' (Q : Value -> Shared -> Prop), s'.heap.Ns C m' -> m' x = some v -> Q v s' -> wpAny (model PW w) A (eval (.Name x p2) (compEnvC scope cl C env)) Q E' s')
  (hh : A.handled = none) (mT : (T, ({ cls := .type "tuple", data := .seq vs.toArray nT } : Obj)) ∈ news)
  (hvl : vs.length = rws.length) (hus : ∀ us ∈ rws, ∀ u ∈ us, u = .none \/ ∃ P, u = .ref P) (hsz : (kept rws).length <= 50000) (hsz2 : ∀ us ∈ rws, us.length <= 50000)
  (hTs : ∀ (i : Nat) v us, vs[i]? = some v -> rws[i]? = some us -> ∃ Ti n, v = .ref Ti /\ (Ti, ({ cls := .type "tuple", data := .seq us.toArray n } : Obj)) ∈ news)
  (hit : wpAny (model PW w) A (eval iter env) (fun xv s₁ => xv = .ref T /\ ∃ h tk, s₁ = { s with heap := h, toks := tk } /\ Fr h₀ L h m /\ News h₀ L h news) E s)
  (h : ∀ D h' tk, Fr h₀ L h' m -> News h₀ L h' ((D, LCg.lst (kept rws)) :: news) -> AllNe D news -> Q (.ref D) { s with heap := h', toks := tk }) :
  wpAny (model PW w) A (eval (.ListComp elt [⟨.Name x px, iter, [], 0⟩, ⟨.Name y py, .Name x p2, [ct], 0⟩] scope pos) env) Q E s := by
 rw [eval_ListComp]
 refine wpAny_comprehension_free (use := none) rfl hst hclos hkind hnames (wpAny_mono hit (fun xv s₁ h₁ => ?_) fun _ _ e => e)
 refine hideG ?_; intro PG9 hG9
 obtain ⟨rfl, hp, tk0, rfl, F, N⟩ := h₁
 refine hG9 ?_; clear hG9 PG9
 have ht : hp.IsTuple T vs.toArray := ⟨_, (N _ mT).1, rfl, nT, rfl⟩
 have hTlt : T < hp.objs.size := Heap.lt_size (N _ mT).1
 have lt0 : ∀ {b o}, hp.get? b = some o -> b < hp.objs.size := fun e => Heap.lt_size e
 refine wpAny_pyIter_tuple ht ?_
 have up0 : ∀ b o, hp.get? b = some o -> (hp.push { cls := .type "tuple_iterator", data := .fields #[.ref T, .int 0 0] }).get? b = some o := fun b o e => Heap.get?_push_of_some _ e
 have hit0 : (hp.push { cls := .type "tuple_iterator", data := .fields #[.ref T, .int 0 0] }).IsTupleIter hp.objs.size T 0 := ⟨_, Heap.get?_push_size _ rfl, rfl, rfl⟩
 have sz0 : (hp.push { cls := .type "tuple_iterator", data := .fields #[.ref T, .int 0 0] }).objs.size = hp.objs.size + 1 := Heap.size_push _ _
 generalize hp.push { cls := .type "tuple_iterator", data := .fields #[.ref T, .int 0 0] } = H1 at up0 hit0 sz0 ⊢
 refine wpAny_newObj_type (wpAny_newFunctionEnv hcell (by intro y hy; simp at hy) (fun h₁ hns₁ hsb₁ => ?_) hkind)
 generalize hH2 : H1.push { cls := .type "list", dict := none, data := .seq ([] : List Value).toArray } = H2 at hns₁ hsb₁ ⊢
 generalize hCn : H2.objs.size = C at hns₁ hsb₁ ⊢
 generalize hDn : H1.objs.size = D at hns₁ hsb₁ sz0 ⊢
 generalize hIn : hp.objs.size = I at hit0 sz0 lt0 hTlt ⊢
 have hCD : C = D + 1 := by rw [<- hCn, <- hH2, Heap.size_push, hDn]
 have lt1 : ∀ {b o}, H1.get? b = some o -> b < D := fun e => by rw [<- hDn]; exact Heap.lt_size e
 have old1 : ∀ b o, H1.get? b = some o -> h₁.get? b = some o := fun b o e => hsb₁.extBut b o (Nat.ne_of_lt (by rw [hCD]; exact Nat.lt_succ_of_lt (lt1 e))) (Heap.get?_push_of_some _ (by rw [<- hH2]; exact Heap.get?_push_of_some _ e))
 have old : ∀ b o, hp.get? b = some o -> h₁.get? b = some o := fun b o e => old1 b o (up0 b o e)
 have D2 : H2.get? D = some (LCg.lst []) := by rw [<- hH2, <- hDn]; exact Heap.get?_push_size _ rfl
 have D1 : h₁.get? D = some (LCg.lst []) := hsb₁.extBut _ _ (Nat.ne_of_lt (by rw [hCD]; exact Nat.lt_succ_self _)) (Heap.get?_push_of_some _ D2)
 have hID : I < D := by rw [sz0]; exact Nat.lt_succ_self _
 have hIC : I < C := by rw [hCD]; exact Nat.lt_succ_of_lt hID
 have hDC : D < C := by rw [hCD]; exact Nat.lt_succ_self _
 have none0 : ∀ a, I <= a -> h₀.get? a = none := fun a ha => by
  cases e : h₀.get? a with
  | none => rfl
  | some o => exact absurd (lt0 (F.keep _ _ e)) (Nat.not_lt.mpr ha)
 have hLI : L < I := by have := F.ns.lt; rw [hIn] at this; exact this
 have newsLt : ∀ p ∈ news, p.1 < I := fun p hp => lt0 (N p hp).1
 have hTI : h₁.IsTupleIter I T 0 := hit0.at fun o e => old1 _ o e
 have hTT : h₁.IsTuple T vs.toArray := ⟨_, old _ _ (N _ mT).1, rfl, nT, rfl⟩
 have wI : T < D := Nat.lt_trans hTlt hID
 have wC : T < C := Nat.lt_trans hTlt hIC
 suffices loop : ∀ s₃ : Shared, s₃ = { s with heap := h₁, toks := tk0 + ([] : List (Str × Value)).length } ->
   codeAny (model PW w) A (.compLoop (.ListComp elt [⟨.Name x px, iter, [], 0⟩, ⟨.Name y py, .Name x p2, [ct], 0⟩] scope pos) 0 (.ref I) (.ref D) (compEnvC scope cl C env)) (compPost (model PW w) A E none Q (.ref D) C) s₃ from
  codeAny_compStart_list (loop _ rfl) (wpAny_pyIter_tupleiter hTI (loop _ rfl))
 rintro s₃ rfl
 refine outer_loop (T := T) (C := C) (vs := vs) (rws := rws) hh (lookup_relabel_local hx) (lookup_relabel_local hy) rfl (by simp [compEnvC, relabel, hkind]) (hct C) (helt C) (hi1 C) (hfs C) hvl hus hsz hsz2 (fun i v us hi hr => ?_)
  (Nat.ne_of_lt hTlt) (Nat.ne_of_gt hIC) (Nat.ne_of_gt hID) (Nat.ne_of_gt wC) (Nat.ne_of_gt wI) (Nat.ne_of_gt hDC) hTI hTT hns₁ D1 fun h' tk m' hn' hD' keep' => ?_
 ·refine hideG ?_; intro PG9 hG9
  obtain ⟨Ti, n, rfl, hm⟩ := hTs i v us hi hr
  refine hG9 ?_; clear hG9 PG9
  have z := newsLt _ hm
  exact ⟨Ti, rfl, ⟨_, old _ _ (N _ hm).1, rfl, n, rfl⟩, Nat.ne_of_lt z, Nat.ne_of_lt (Nat.lt_trans z hIC), Nat.ne_of_lt (Nat.lt_trans z hID)⟩
 ·refine ⟨m', hn', fun h'' hs'' => ?_⟩
  have k : ∀ b o, hp.get? b = some o -> h''.get? b = some o := fun b o e => by
   have z := lt0 e
   exact hs''.extBut b o (Nat.ne_of_lt (Nat.lt_trans z hIC)) (keep' b o (Nat.ne_of_lt z) (Nat.ne_of_lt (Nat.lt_trans z hIC)) (Nat.ne_of_lt (Nat.lt_trans z hID)) (old b o e))
  refine h D h'' tk (F.keeps k) (fun p hp => ?_) (allNe_of fun p hp => Nat.ne_of_lt (Nat.lt_trans (newsLt p hp) hID))
  rcases List.mem_cons.mp hp with rfl | hp
  ·exact ⟨hs''.extBut _ _ (Nat.ne_of_lt hDC) hD', Nat.ne_of_gt (Nat.lt_trans hLI hID), none0 D (Nat.le_of_lt hID)⟩
  ·exact ⟨k _ _ (N p hp).1, (N p hp).2⟩
end
end
section
set_option tactic.hygienic false
open PySem
set_option maxHeartbeats 1000000
open SetTable
/-! the table of a set: the road of a hash, and what stands on it -/
theorem nodup_len : ∀ {l r : List Nat}, l.Nodup -> (∀ x ∈ l, x ∈ r) -> l.length <= r.length
 | [], _, _, _ => Nat.zero_le _
 | a :: l, r, hn, hs => by
  obtain ⟨h1, h2⟩ := List.nodup_cons.mp hn
  have ha : a ∈ r := hs a (.head _)
  have := nodup_len (l := l) (r := r.erase a) h2 fun x hx => (List.mem_erase_of_ne (fun q : x = a => h1 (by rw [<- q]; exact hx))).mpr (hs x (.tail _ hx))
  rw [List.length_erase_of_mem ha] at this
  have : 0 < r.length := List.length_pos_of_mem ha
  rw [List.length_cons]; omega
theorem free_slot {m : Nat} {l : List Nat} (h : l.length <= m) : ∃ j, j <= m /\ j ∉ l := by
 refine Classical.byContradiction fun q => ?_
 have := nodup_len (l := List.range (m + 1)) (r := l) List.nodup_range fun x hx => Classical.byContradiction fun z => q ⟨x, by have := List.mem_range.mp hx; omega, z⟩
 rw [List.length_range] at this
 omega
noncomputable def leaps (m : Nat) (h : Int) : Nat -> Nat × Nat
 | 0 => (bits h % (m + 1), bits h)
 | r + 1 => leap m (leaps m h r).1 (leaps m h r).2
noncomputable def headP (m : Nat) (x : Nat × Nat) : Probe := { j := x.1, more := runEnd m x.1 - x.1, i := x.1, perturb := x.2, dummy := none }
noncomputable def advM (m : Nat) (p : Probe) : Probe := if p.more > 0 then { p with j := p.j + 1, more := p.more - 1 } else
 { p with j := (leap m p.i p.perturb).1, more := runEnd m (leap m p.i p.perturb).1 - (leap m p.i p.perturb).1, i := (leap m p.i p.perturb).1, perturb := (leap m p.i p.perturb).2 }
noncomputable def road (m : Nat) (h : Int) : Nat -> Probe
 | 0 => headP m (leaps m h 0)
 | n + 1 => advM m (road m h n)
theorem advance_eq (t : SetTable) (p : Probe) : t.advance p = advM t.mask p := by
 delta SetTable.advance advM
 split <;> rfl
theorem runEnd_le {m i : Nat} (h : i <= m) : i <= runEnd m i /\ runEnd m i <= m /\ runEnd m i <= i + 9 := by unfold runEnd; split <;> omega
theorem leaps_le (m : Nat) (h : Int) : ∀ r, (leaps m h r).1 <= m
 | 0 => Nat.le_of_lt_succ (Nat.mod_lt _ (Nat.succ_pos _))
 | r + 1 => Nat.le_of_lt_succ (Nat.mod_lt _ (Nat.succ_pos _))
theorem run_walk {m : Nat} {h : Int} {n r : Nat} (e : road m h n = headP m (leaps m h r)) : ∀ k, k <= runEnd m (leaps m h r).1 - (leaps m h r).1 ->
  road m h (n + k) = { j := (leaps m h r).1 + k, more := runEnd m (leaps m h r).1 - (leaps m h r).1 - k, i := (leaps m h r).1, perturb := (leaps m h r).2, dummy := none }
 | 0, _ => by rw [Nat.add_zero, e]; rfl
 | k + 1, hk => by
  rw [<- Nat.add_assoc, road, run_walk e k (by omega)]
  unfold advM
  rw [if_pos (by show 0 < _; dsimp only; omega)]
  dsimp only
  congr 1
theorem run_next {m : Nat} {h : Int} {n r : Nat} (e : road m h n = headP m (leaps m h r)) : road m h (n + (runEnd m (leaps m h r).1 - (leaps m h r).1) + 1) = headP m (leaps m h (r + 1)) := by
 rw [road, run_walk e _ (Nat.le_refl _)]
 unfold advM
 rw [if_neg (by dsimp only; omega)]
 rfl
theorem heads (m : Nat) (h : Int) : ∀ r, ∃ n, n <= 10 * r /\ road m h n = headP m (leaps m h r)
 | 0 => ⟨0, Nat.le_refl _, rfl⟩
 | r + 1 => by
  obtain ⟨n, hn, e⟩ := heads m h r
  refine ⟨_, ?_, run_next e⟩
  have := runEnd_le (leaps_le m h r)
  omega
theorem leaps_q (m : Nat) (h : Int) : ∀ r, (leaps m h r).2 = bits h / 32 ^ r
 | 0 => by simp [leaps]
 | r + 1 => by
  show (leaps m h r).2 / 32 = _
  rw [leaps_q m h r, Nat.div_div_eq_div_mul, Nat.pow_succ]
theorem bits_lt (h : Int) : bits h < 2 ^ 64 := by
 unfold bits
 have h1 : (0 : Int) < 2 ^ 64 := by decide
 have := Int.emod_lt_of_pos h h1
 have := Int.emod_nonneg h (Int.ne_of_gt h1)
 omega
theorem leaps_q0 (m : Nat) (h : Int) (k : Nat) : (leaps m h (13 + k)).2 = 0 := by
 rw [leaps_q, Nat.pow_add]
 refine Nat.div_eq_of_lt (Nat.lt_of_lt_of_le (bits_lt h) ?_)
 exact Nat.le_trans (show 2 ^ 64 <= 32 ^ 13 by decide) (Nat.le_mul_of_pos_right _ (Nat.pow_pos (by decide)))
noncomputable def lcg (m i : Nat) : Nat -> Nat
 | 0 => i
 | k + 1 => (lcg m i k * 5 + 1) % (m + 1)
theorem leaps_lcg (m : Nat) (h : Int) : ∀ k, (leaps m h (13 + k)).1 = lcg m (leaps m h 13).1 k
 | 0 => rfl
 | k + 1 => by
  show ((leaps m h (13 + k)).1 * 5 + 1 + (leaps m h (13 + k)).2 / 32) % (m + 1) = _
  rw [leaps_q0, leaps_lcg m h k]
  rfl
theorem lcg7 : ∀ i < 8, ∀ j < 8, ∃ k, k < 8 /\ lcg 7 i k = j := by decide +kernel
theorem lcg31 : ∀ i < 32, ∀ j < 32, ∃ k, k < 32 /\ lcg 31 i k = j := by decide +kernel
theorem cover_leaps {m : Nat} (hm : m = 7 \/ m = 31) (h : Int) {j : Nat} (hj : j <= m) : ∃ r, r <= 13 + m /\ (leaps m h r).1 = j := by
 have hl := leaps_le m h 13
 have : ∃ k, k <= m /\ lcg m (leaps m h 13).1 k = j := by
  rcases hm with rfl | rfl
  ·obtain ⟨k, a, b⟩ := lcg7 _ (Nat.lt_succ_of_le hl) j (Nat.lt_succ_of_le hj)
   exact ⟨k, by omega, b⟩
  ·obtain ⟨k, a, b⟩ := lcg31 _ (Nat.lt_succ_of_le hl) j (Nat.lt_succ_of_le hj)
   exact ⟨k, by omega, b⟩
 obtain ⟨k, a, b⟩ := this
 exact ⟨13 + k, by omega, (leaps_lcg m h k).trans b⟩
theorem cover {m : Nat} (hm : m = 7 \/ m = 31) (h : Int) {j : Nat} (hj : j <= m) : ∃ n, n <= 10 * (13 + m) /\ (road m h n).j = j := by
 obtain ⟨r, hr, e⟩ := cover_leaps hm h hj
 obtain ⟨n, hn, e2⟩ := heads m h r
 exact ⟨n, by omega, by rw [e2]; exact e⟩
theorem least {P : Nat -> Prop} : ∀ n, P n -> ∃ k, k <= n /\ P k /\ ∀ i < k, ¬ P i := by
 intro n
 induction n using Nat.strongRecOn with
 | ind n ih =>
  intro h
  by_cases q : ∃ i, i < n /\ P i
  ·obtain ⟨i, hi, hp⟩ := q
   refine hideG ?_; intro PG9 hG9
   obtain ⟨k, a, b, c⟩ := ih i hi hp
   refine hG9 ?_; clear hG9 PG9
   exact ⟨k, by omega, b, c⟩
  ·exact ⟨n, Nat.le_refl _, h, fun i hi hp => q ⟨i, hi, hp⟩⟩
theorem first_free {m : Nat} (hm : m = 7 \/ m = 31) (h : Int) {l : List Nat} (hl : l.length <= m) : ∃ n, n <= 10 * (13 + m) /\ (road m h n).j ∉ l /\ ∀ i < n, (road m h i).j ∈ l := by
 obtain ⟨j, hj, hn⟩ := free_slot hl
 obtain ⟨n, a, b⟩ := cover hm h hj
 obtain ⟨k, c, d, e⟩ := least (P := fun n => (road m h n).j ∉ l) n (by rw [b]; exact hn)
 exact ⟨k, by omega, d, fun i hi => Classical.byContradiction fun q => e i hi q⟩
/-! the binary search -/
theorem below_go {xs : Array Nat} {j : Nat} (hs : xs.toList.Pairwise (· < ·)) : ∀ (fuel lo hi : Nat), lo <= hi -> hi <= xs.size -> hi - lo <= fuel -> (∀ k, k < lo -> xs.getD k j < j) -> (∀ k, hi <= k -> k < xs.size -> ¬ xs.getD k j < j) ->
  below.go xs j fuel lo hi <= xs.size /\ (∀ k, k < below.go xs j fuel lo hi -> xs.getD k j < j) /\ (∀ k, below.go xs j fuel lo hi <= k -> k < xs.size -> ¬ xs.getD k j < j) := by
 have mono : ∀ a b, a < b -> b < xs.size -> xs.getD a j < xs.getD b j := fun a b hab hb => by
  have := List.pairwise_iff_getElem.mp hs a b (by rw [Array.length_toList]; omega) (by rw [Array.length_toList]; exact hb) hab
  rw [Array.getElem_toList, Array.getElem_toList] at this
  rw [Array.getD_eq_getD_getElem?, Array.getD_eq_getD_getElem?, Array.getElem?_eq_getElem (by omega), Array.getElem?_eq_getElem hb]
  exact this
 intro fuel
 induction fuel with
 | zero =>
  intro lo hi h1 h2 h3 h4 h5
  have : lo = hi := by omega
  subst this
  exact ⟨h2, h4, h5⟩
 | succ fuel ih =>
  intro lo hi h1 h2 h3 h4 h5
  rw [below.go]
  split
  ·rename_i hlt
   dsimp only
   have m1 : lo <= (lo + hi) / 2 := by omega
   have m2 : (lo + hi) / 2 < hi := by omega
   split
   ·rename_i hx
    generalize (lo + hi) / 2 = m at m1 m2 hx ⊢
    have m3 : m < xs.size := Nat.lt_of_lt_of_le m2 h2
    refine ih _ _ m2 h2 (by omega) (fun k hk => ?_) h5
    by_cases q : k = m
    ·rw [q]; exact hx
    ·exact Nat.lt_trans (mono k m (by omega) m3) hx
   ·rename_i hx
    generalize (lo + hi) / 2 = m at m1 m2 hx ⊢
    have m3 : m < xs.size := Nat.lt_of_lt_of_le m2 h2
    refine ih _ _ m1 (Nat.le_of_lt m3) (by omega) h4 (fun k hk hk2 z => ?_)
    by_cases q : k = m
    ·rw [q] at z; exact hx z
    ·exact hx (Nat.lt_trans (mono m k (by omega) hk2) z)
  ·have : lo = hi := by omega
   subst this
   exact ⟨h2, h4, h5⟩
theorem below_spec {xs : Array Nat} {j : Nat} (hs : xs.toList.Pairwise (· < ·)) : below xs j <= xs.size /\ (∀ k, k < below xs j -> xs.getD k j < j) /\ (∀ k, below xs j <= k -> k < xs.size -> ¬ xs.getD k j < j) :=
 below_go hs _ _ _ (Nat.zero_le _) (Nat.le_refl _) (Nat.le_refl _) (fun k hk => absurd hk (Nat.not_lt_zero _)) (fun k h1 h2 => by omega)
/-! entries and their slots -/
noncomputable abbrev Ent := (Int × Value) × Nat
structure TI (t : SetTable) (es : Array (Int × Value)) (Z : List Ent) : Prop where
 es : es.toList = Z.map (·.1)
 pl : t.place.toList = Z.map (·.2)
 dm : t.dummies = #[]
 msk : t.mask = 7 \/ t.mask = 31
 up : (Z.map (·.2)).Pairwise (· < ·)
 le : ∀ z ∈ Z, z.2 <= t.mask
 rd : ∀ z ∈ Z, ∃ n, (road t.mask z.1.1 n).j = z.2 /\ ∀ k < n, (road t.mask z.1.1 k).j ∈ Z.map (·.2)
section
variable {t : SetTable} {es : Array (Int × Value)} {Z : List Ent}
theorem TI.size (T : TI t es Z) : t.place.size = Z.length := by rw [<- Array.length_toList, T.pl, List.length_map]
theorem TI.esz (T : TI t es Z) : es.size = Z.length := by rw [<- Array.length_toList, T.es, List.length_map]
theorem TI.at_ (T : TI t es Z) (i : Nat) : t.place[i]? = (Z[i]?).map (·.2) := by rw [<- Array.getElem?_toList, T.pl, List.getElem?_map]
theorem TI.ent (T : TI t es Z) (i : Nat) : es[i]? = (Z[i]?).map (·.1) := by rw [<- Array.getElem?_toList, T.es, List.getElem?_map]
theorem TI.fits (T : TI t es Z) (h : Z.length <= t.mask) : t.fits es.size = true := by
 simp only [SetTable.fits, SetTable.fill, T.size, T.esz, T.dm, beq_self_eq_true, Bool.true_and, decide_eq_true_eq]
 exact h
theorem TI.no_empty (T : TI t es Z) (j : Nat) : has t.dummies j = false := by rw [T.dm]; rfl
theorem TI.slot_empty (T : TI t es Z) {j : Nat} (h : j ∉ Z.map (·.2)) : t.slot j = .empty := by
 unfold SetTable.slot
 dsimp only
 rw [if_neg, T.no_empty]
 ·rfl
 ·intro q
  have := beq_iff_eq.mp q
  rw [T.at_] at this
  obtain ⟨z, hz, e⟩ := Option.map_eq_some_iff.mp this
  exact h (List.mem_map.mpr ⟨z, List.mem_of_getElem? hz, e⟩)
theorem TI.getD (T : TI t es Z) {i d : Nat} {z : Ent} (h : Z[i]? = some z) : t.place.getD i d = z.2 := by
 rw [Array.getD_eq_getD_getElem?, T.at_, h]; rfl
theorem TI.below (T : TI t es Z) {i : Nat} {z : Ent} (h : Z[i]? = some z) : below t.place z.2 = i := by
 have hs : t.place.toList.Pairwise (· < ·) := by rw [T.pl]; exact T.up
 obtain ⟨b1, b2, b3⟩ := below_spec (j := z.2) hs
 have hi : i < t.place.size := by rw [T.size]; exact (List.getElem?_eq_some_iff.mp h).1
 have hd := T.getD (d := z.2) h
 refine Nat.le_antisymm (Nat.le_of_not_lt fun q => ?_) (Nat.le_of_not_lt fun q => ?_)
 ·have := b2 i q
  omega
 ·have hb : SetTable.below t.place z.2 < t.place.size := by omega
  have := b3 _ (Nat.le_refl _) hb
  have m := List.pairwise_iff_getElem.mp hs (SetTable.below t.place z.2) i (by rw [Array.length_toList]; omega) (by rw [Array.length_toList]; exact hi) q
  rw [Array.getElem_toList, Array.getElem_toList] at m
  rw [Array.getD_eq_getD_getElem?, Array.getElem?_eq_getElem hb] at this
  rw [Array.getD_eq_getD_getElem?, Array.getElem?_eq_getElem hi] at hd
  simp only [Option.getD_some] at this hd
  omega
theorem TI.slot_live (T : TI t es Z) {i : Nat} {z : Ent} (h : Z[i]? = some z) : t.slot z.2 = .live i := by
 unfold SetTable.slot
 dsimp only
 rw [T.below h, if_pos]
 rw [T.at_, h]
 exact beq_self_eq_true _
theorem TI.slot_cases (T : TI t es Z) {j : Nat} (h : j ∈ Z.map (·.2)) : ∃ i z, Z[i]? = some z /\ z.2 = j /\ t.slot j = .live i := by
 obtain ⟨z, hz, rfl⟩ := List.mem_map.mp h
 obtain ⟨i, hi⟩ := List.getElem?_of_mem hz
 exact ⟨i, z, hi, rfl, T.slot_live hi⟩
end
end
section
set_option tactic.hygienic false
open PySem
set_option maxHeartbeats 1000000
open SetTable
theorem road_dummy (m : Nat) (h : Int) : ∀ n, (road m h n).dummy = none
 | 0 => rfl
 | n + 1 => by
  rw [road, advM]
  split <;> exact road_dummy m h n
section
variable {t : SetTable} {es : Array (Int × Value)} {Z : List Ent}
theorem TI.uniq (T : TI t es Z) {i : Nat} {z y : Ent} (h : Z[i]? = some z) (hy : y ∈ Z) (e : y.2 = z.2) : y = z := by
 obtain ⟨i', hi'⟩ := List.getElem?_of_mem hy
 have a := T.below h
 have b := T.below hi'
 rw [e, a] at b
 subst b
 rw [h] at hi'
 exact (Option.some.inj hi').symm
theorem TI.probe (T : TI t es Z) (h : Int) {N : Nat} (hN : (road t.mask h N).j ∉ Z.map (·.2)) (hall : ∀ i < N, (road t.mask h i).j ∈ Z.map (·.2)) (hashAt : Nat -> Int) (hh : ∀ i z, Z[i]? = some z -> hashAt i = z.1.1) :
  ∀ (fuel k : Nat), k <= N -> N - k < fuel ->
   (probe.go t hashAt h fuel (road t.mask h k) = some (.empty (road t.mask h N).j none) /\ ∀ m, k <= m -> m < N -> ∀ z ∈ Z, z.2 = (road t.mask h m).j -> z.1.1 ≠ h) \/
   (∃ k' i z, k <= k' /\ k' < N /\ Z[i]? = some z /\ z.2 = (road t.mask h k').j /\ z.1.1 = h /\ probe.go t hashAt h fuel (road t.mask h k) = some (.candidate z.2 i (road t.mask h (k' + 1))) /\ ∀ m, k <= m -> m < k' -> ∀ z ∈ Z, z.2 = (road t.mask h m).j -> z.1.1 ≠ h)
 | 0, _, _, hf => absurd hf (Nat.not_lt_zero _)
 | fuel + 1, k, hk, hf => by
  rw [probe.go]
  by_cases q : k = N
  ·subst q
   rw [T.slot_empty hN, road_dummy]
   exact .inl ⟨rfl, fun m a b => absurd b (Nat.not_lt.mpr a)⟩
  ·have hlt : k < N := Nat.lt_of_le_of_ne hk q
   refine hideG ?_; intro PG9 hG9
   obtain ⟨i, z, hz, e, hs⟩ := T.slot_cases (hall k hlt)
   refine hG9 ?_; clear hG9 PG9
   rw [hs]
   dsimp only
   rw [hh i z hz, advance_eq]
   by_cases q2 : z.1.1 = h
   ·rw [if_pos (beq_iff_eq.mpr q2)]
    exact .inr ⟨k, i, z, Nat.le_refl _, hlt, hz, e, q2, by rw [e]; rfl, fun m a b => absurd b (Nat.not_lt.mpr a)⟩
   ·rw [if_neg (fun w => q2 (beq_iff_eq.mp w))]
    have first : ∀ z' ∈ Z, z'.2 = (road t.mask h k).j -> z'.1.1 ≠ h := fun z' hz' e' => by
     rw [T.uniq hz hz' (e'.trans e.symm)]; exact q2
    have all : ∀ {M : Nat}, (∀ m, k + 1 <= m -> m < M -> ∀ z ∈ Z, z.2 = (road t.mask h m).j -> z.1.1 ≠ h) -> ∀ m, k <= m -> m < M -> ∀ z ∈ Z, z.2 = (road t.mask h m).j -> z.1.1 ≠ h := fun g m a b => by
     by_cases w : m = k
     ·subst w; exact first
     ·exact g m (Nat.lt_of_le_of_ne a (Ne.symm w)) b
    rcases T.probe h hN hall hashAt hh fuel (k + 1) hlt (Nat.lt_of_lt_of_le (Nat.sub_lt_sub_left hlt (Nat.lt_succ_self k)) (Nat.le_of_lt_succ hf)) with ⟨a, b⟩ | ⟨k', i', z', a1, a2, a3, a4, a5, a6, a7⟩
    ·exact .inl ⟨a, all b⟩
    ·exact .inr ⟨k', i', z', Nat.le_of_succ_le a1, a2, a3, a4, a5, a6, all a7⟩
theorem road_le (m : Nat) (h : Int) : ∀ n, (road m h n).j + (road m h n).more <= m /\ (road m h n).i <= m
 | 0 => by
  have := leaps_le m h 0
  have := runEnd_le this
  show (leaps m h 0).1 + (runEnd m (leaps m h 0).1 - (leaps m h 0).1) <= m /\ _
  exact ⟨by rw [Nat.add_sub_of_le this.1]; exact this.2.1, leaps_le m h 0⟩
 | n + 1 => by
  obtain ⟨a, b⟩ := road_le m h n
  rw [road, advM]
  split
  ·exact ⟨by dsimp only; omega, b⟩
  ·have c : (leap m (road m h n).i (road m h n).perturb).1 <= m := Nat.le_of_lt_succ (Nat.mod_lt _ (Nat.succ_pos _))
   have := runEnd_le c
   exact ⟨by dsimp only; rw [Nat.add_sub_of_le this.1]; exact this.2.1, c⟩
theorem TI.put (T : TI t es Z) (h : Int) (x : Value) {N : Nat} (hN : (road t.mask h N).j ∉ Z.map (·.2)) (hall : ∀ i < N, (road t.mask h i).j ∈ Z.map (·.2)) :
  TI (t.put (road t.mask h N).j).1 (insertAt es (t.put (road t.mask h N).j).2 (h, x)) (Z.take (t.put (road t.mask h N).j).2 ++ ((h, x), (road t.mask h N).j) :: Z.drop (t.put (road t.mask h N).j).2) := by
 have hs : t.place.toList.Pairwise (· < ·) := by rw [T.pl]; exact T.up
 generalize hj : (road t.mask h N).j = j at hN ⊢
 obtain ⟨b1, b2, b3⟩ := below_spec (j := j) hs
 have hp : (t.put j).2 = SetTable.below t.place j := rfl
 have ht : (t.put j).1.place = insertAt t.place (SetTable.below t.place j) j := rfl
 have hm : (t.put j).1.mask = t.mask := rfl
 have hd : (t.put j).1.dummies = t.dummies := by
  show (if has t.dummies j = true then _ else _) = _
  rw [T.no_empty, if_neg (by decide)]
 rw [hp]
 generalize SetTable.below t.place j = p at b1 b2 b3 hp ht ⊢
 have mem : ∀ z, z ∈ Z.take p ++ ((h, x), j) :: Z.drop p ↔ z = ((h, x), j) \/ z ∈ Z := fun z => by
  rw [List.mem_append, List.mem_cons]
  constructor
  ·rintro (q | q | q)
   ·exact .inr (List.mem_of_mem_take q)
   ·exact .inl q
   ·exact .inr (List.mem_of_mem_drop q)
  ·rintro (q | q)
   ·exact .inr (.inl q)
   ·rw [<- List.take_append_drop p Z, List.mem_append] at q
    exact q.elim .inl fun y => .inr (.inr y)
 have lo : ∀ z ∈ Z.take p, z.2 < j := fun z hz => by
  obtain ⟨i, hi⟩ := List.getElem?_of_mem hz
  rw [List.getElem?_take] at hi
  split at hi
  ·rename_i hlt
   have := b2 i hlt
   rw [T.getD hi] at this
   exact this
  ·cases hi
 have hi : ∀ z ∈ Z.drop p, j < z.2 := fun z hz => by
  obtain ⟨i, hi⟩ := List.getElem?_of_mem hz
  rw [List.getElem?_drop] at hi
  have := b3 (p + i) (by omega) (by rw [T.size]; exact (List.getElem?_eq_some_iff.mp hi).1)
  rw [T.getD hi] at this
  have : z.2 ≠ j := fun q => hN (List.mem_map.mpr ⟨z, List.mem_of_getElem? hi, q⟩)
  omega
 have sub : ∀ k, k ∈ Z.map (·.2) -> k ∈ (Z.take p ++ ((h, x), j) :: Z.drop p).map (·.2) := fun k hk => by
  obtain ⟨z, hz, e⟩ := List.mem_map.mp hk
  exact List.mem_map.mpr ⟨z, (mem z).mpr (.inr hz), e⟩
 refine ⟨?_, ?_, by rw [hd]; exact T.dm, by rw [hm]; exact T.msk, ?_, fun z hz => ?_, fun z hz => ?_⟩
 ·rw [toList_insertAt, T.es, List.map_append, List.map_cons, List.map_take, List.map_drop]
 ·rw [ht, toList_insertAt, T.pl, List.map_append, List.map_cons, List.map_take, List.map_drop]
 ·rw [List.map_append, List.map_cons, List.pairwise_append, List.pairwise_cons]
  have up := T.up
  rw [<- List.take_append_drop p Z, List.map_append, List.pairwise_append] at up
  refine ⟨up.1, ⟨fun k hk => ?_, up.2.1⟩, fun a ha b hb => ?_⟩
  ·obtain ⟨z, hz, rfl⟩ := List.mem_map.mp hk
   exact hi z hz
  ·obtain ⟨z, hz, rfl⟩ := List.mem_map.mp ha
   rcases List.mem_cons.mp hb with rfl | hb
   ·exact lo z hz
   ·exact up.2.2 _ ha _ hb
 ·rw [hm]
  rcases (mem z).mp hz with rfl | hz
  ·have := (road_le t.mask h N).1
   dsimp only
   omega
  ·exact T.le z hz
 ·rw [hm]
  rcases (mem z).mp hz with rfl | hz
  ·exact ⟨N, hj, fun k hk => sub _ (hall k hk)⟩
  ·obtain ⟨n, a, b⟩ := T.rd z hz
   exact ⟨n, a, fun k hk => sub _ (b k hk)⟩
end
/-! the table is laid anew -/
structure LI (m : Nat) (owner : Array (Option Nat)) (l : List Int) : Prop where
 size : owner.size = m + 1
 own : ∀ j k : Nat, owner[j]? = some (some k) -> ∃ h, l[k]? = some h /\ ∃ n, (road m h n).j = j /\ ∀ i < n, ∃ k', owner[(road m h i).j]? = some (some k')
 all : ∀ k : Nat, k < l.length -> ∃ j : Nat, owner[j]? = some (some k)
 inj : ∀ j j' k : Nat, owner[j]? = some (some k) -> owner[j']? = some (some k) -> j = j'
theorem sr1 {A R m s k : Nat} (hs : s = m + 1) (hR : R <= m) (hk : k < R + 1 - A) : A + k < s := by omega
theorem sr3 {A R i n0 : Nat} (h : i < n0 + (R - A) + 1) (hA : A <= R) : i - n0 < R + 1 - A := by omega
theorem sr2 {A R k : Nat} (hAR : A <= R) (hk : k < R + 1 - A) : k <= R - A := by omega
theorem free_spec {m : Nat} {owner : Array (Option Nat)} {h : Int} (hs : owner.size = m + 1) : ∀ (fuel r n0 : Nat), road m h n0 = headP m (leaps m h r) -> (∃ r', r <= r' /\ r' < r + fuel /\ owner[(leaps m h r').1]? = some none) ->
  (∀ i < n0, ∃ k', owner[(road m h i).j]? = some (some k')) ->
  ∃ n, layClean.free m owner fuel (leaps m h r).1 (leaps m h r).2 = some (road m h n).j /\ owner[(road m h n).j]? = some none /\ ∀ i < n, ∃ k', owner[(road m h i).j]? = some (some k')
 | 0, r, n0, _, ⟨r', a, b, _⟩, _ => absurd b (by omega)
 | fuel + 1, r, n0, e, ⟨r', a, b, c⟩, hb => by
  have hle := leaps_le m h r
  have hre := runEnd_le hle
  have hat : ∀ k, k < runEnd m (leaps m h r).1 + 1 - (leaps m h r).1 -> (road m h (n0 + k)).j = (leaps m h r).1 + k := fun k hk => by rw [run_walk e k (sr2 hre.1 hk)]
  have hown : ∀ k, k < runEnd m (leaps m h r).1 + 1 - (leaps m h r).1 -> (!(owner.getD ((leaps m h r).1 + k) (some 0)).isNone) = true -> ∃ k', owner[(road m h (n0 + k)).j]? = some (some k') := fun k hk q => by
   rw [hat k hk]
   have hlt : (leaps m h r).1 + k < owner.size := sr1 hs hre.2.1 hk
   rw [Array.getD_eq_getD_getElem?, Array.getElem?_eq_getElem hlt] at q
   rw [Array.getElem?_eq_getElem hlt]
   cases z : owner[(leaps m h r).1 + k] with
   | none => rw [z] at q; simp at q
   | some k' => exact ⟨k', rfl⟩
  rw [layClean.free]
  cases q : (List.range (runEnd m (leaps m h r).1 + 1 - (leaps m h r).1)).find? fun k => (owner.getD ((leaps m h r).1 + k) (some 0)).isNone with
  | some k =>
   obtain ⟨q1, q2, q3⟩ := List.find?_range_eq_some.mp q
   have hk := List.mem_range.mp q2
   refine ⟨n0 + k, by dsimp only; rw [hat k hk], ?_, fun i hi => ?_⟩
   ·rw [hat k hk]
    have hlt : (leaps m h r).1 + k < owner.size := sr1 hs hre.2.1 hk
    rw [Array.getD_eq_getD_getElem?, Array.getElem?_eq_getElem hlt] at q1
    rw [Array.getElem?_eq_getElem hlt]
    cases z : owner[(leaps m h r).1 + k] with
    | none => rfl
    | some k' => rw [z] at q1; simp at q1
   ·by_cases w : i < n0
    ·exact hb i w
    ·have h9 := Nat.sub_lt_left_of_lt_add (Nat.not_lt.mp w) hi
     have := hown (i - n0) (Nat.lt_trans h9 hk) (q3 _ h9)
     rw [Nat.add_sub_of_le (Nat.not_lt.mp w)] at this
     exact this
  | none =>
   have q' := List.find?_range_eq_none.mp q
   refine free_spec hs fuel (r + 1) _ (run_next e) ?_ fun i hi => ?_
   ·by_cases w : r' = r
    ·subst w
     have := q' 0 (Nat.sub_pos_of_lt (Nat.lt_succ_of_le hre.1))
     rw [Array.getD_eq_getD_getElem?, Nat.add_zero, c] at this
     simp at this
    ·exact ⟨r', by omega, by omega, c⟩
   ·by_cases w : i < n0
    ·exact hb i w
    ·have h9 := sr3 hi hre.1
     have := hown (i - n0) h9 (q' _ h9)
     rw [Nat.add_sub_of_le (Nat.not_lt.mp w)] at this
     exact this
theorem LI.free {m : Nat} {owner : Array (Option Nat)} {l : List Int} (I : LI m owner l) (hm : m = 7 \/ m = 31) (hl : l.length <= m) (h : Int) :
  ∃ n, layClean.free m owner (turns m) (bits h % (m + 1)) (bits h) = some (road m h n).j /\ owner[(road m h n).j]? = some none /\ ∀ i < n, ∃ k', owner[(road m h i).j]? = some (some k') := by
 classical
 let f : Nat -> Nat := fun k => if q : ∃ j, owner[j]? = some (some k) then q.choose else 0
 obtain ⟨j, hj, hn⟩ := free_slot (m := m) (l := (List.range l.length).map f) (by rw [List.length_map, List.length_range]; exact hl)
 have hfree : owner[j]? = some none := by
  have hlt : j < owner.size := by rw [I.size]; omega
  rw [Array.getElem?_eq_getElem hlt]
  cases z : owner[j] with
  | none => rfl
  | some k =>
   have hz : owner[j]? = some (some k) := by rw [Array.getElem?_eq_getElem hlt, z]
   obtain ⟨h', hk, _⟩ := I.own j k hz
   refine absurd (List.mem_map.mpr ⟨k, List.mem_range.mpr (List.getElem?_eq_some_iff.mp hk).1, ?_⟩) hn
   show (if q : ∃ j, owner[j]? = some (some k) then q.choose else 0) = j
   have hq : ∃ j, owner[j]? = some (some k) := ⟨j, hz⟩
   rw [dif_pos hq]
   exact I.inj _ _ _ hq.choose_spec hz
 obtain ⟨r, hr, e⟩ := cover_leaps hm h hj
 have := free_spec (h := h) I.size (turns m) 0 0 rfl ⟨r, Nat.zero_le _, by unfold turns; omega, by rw [e]; exact hfree⟩ (fun i hi => absurd hi (Nat.not_lt_zero _))
 exact this
theorem LI.add {m : Nat} {owner : Array (Option Nat)} {l : List Int} (I : LI m owner l) {h : Int} {n : Nat} (hf : owner[(road m h n).j]? = some none) (hr : ∀ i < n, ∃ k', owner[(road m h i).j]? = some (some k')) :
  LI m (owner.setIfInBounds (road m h n).j (some l.length)) (l ++ [h]) := by
 have hlt := (Array.getElem?_eq_some_iff.mp hf).1
 have new : (owner.setIfInBounds (road m h n).j (some l.length))[(road m h n).j]? = some (some l.length) := by rw [Array.getElem?_setIfInBounds_self_of_lt hlt]
 have old : ∀ j, j ≠ (road m h n).j -> (owner.setIfInBounds (road m h n).j (some l.length))[j]? = owner[j]? := fun j hj => Array.getElem?_setIfInBounds_ne (fun q => hj q.symm)
 have keep : ∀ j k, owner[j]? = some (some k) -> (owner.setIfInBounds (road m h n).j (some l.length))[j]? = some (some k) := fun j k q => by
  rw [old j (fun w => by rw [w, hf] at q; cases q)]; exact q
 have back : ∀ j k, (owner.setIfInBounds (road m h n).j (some l.length))[j]? = some (some k) -> (j = (road m h n).j /\ k = l.length) \/ owner[j]? = some (some k) := fun j k q => by
  by_cases w : j = (road m h n).j
  ·rw [w, new] at q
   exact .inl ⟨w, (Option.some.inj (Option.some.inj q)).symm⟩
  ·rw [old j w] at q; exact .inr q
 have lt : ∀ j k, owner[j]? = some (some k) -> k < l.length := fun j k q => by
  obtain ⟨h', hk, _⟩ := I.own j k q
  exact (List.getElem?_eq_some_iff.mp hk).1
 refine ⟨by rw [Array.size_setIfInBounds]; exact I.size, fun j k q => ?_, fun k hk => ?_, fun j j' k q q' => ?_⟩
 ·rcases back j k q with ⟨rfl, rfl⟩ | q
  ·refine ⟨h, by rw [List.getElem?_append_right (Nat.le_refl _), Nat.sub_self]; rfl, n, rfl, fun i hi => ?_⟩
   obtain ⟨k', hk'⟩ := hr i hi
   exact ⟨k', keep _ _ hk'⟩
  ·refine hideG ?_; intro PG9 hG9
   obtain ⟨h', hk, n', e, hb⟩ := I.own j k q
   refine hG9 ?_; clear hG9 PG9
   refine ⟨h', by rw [List.getElem?_append_left (lt j k q)]; exact hk, n', e, fun i hi => ?_⟩
   obtain ⟨k', hk'⟩ := hb i hi
   exact ⟨k', keep _ _ hk'⟩
 ·rw [List.length_append, List.length_singleton] at hk
  by_cases w : k = l.length
  ·subst w; exact ⟨_, new⟩
  ·obtain ⟨j, hj⟩ := I.all k (by omega)
   exact ⟨j, keep _ _ hj⟩
 ·rcases back j k q with ⟨rfl, rfl⟩ | q <;> rcases back j' _ q' with ⟨rfl, e⟩ | q'
  ·rfl
  ·have := lt _ _ q'; omega
  ·subst e; have := lt _ _ q; omega
  ·exact I.inj _ _ _ q q'
theorem lay_fold {m : Nat} (hm : m = 7 \/ m = 31) : ∀ (r l : List Int) (owner : Array (Option Nat)), LI m owner l -> l.length + r.length <= m ->
  ∃ owner', r.foldl (fun (acc : Option (Array (Option Nat) × Nat)) h => do
   let (owner, k) <- acc
   let j <- layClean.free m owner (turns m) (bits h % (m + 1)) (bits h)
   pure (owner.setIfInBounds j (some k), k + 1)) (some (owner, l.length)) = some (owner', l.length + r.length) /\ LI m owner' (l ++ r)
 | [], l, owner, I, _ => ⟨owner, rfl, by rw [List.append_nil]; exact I⟩
 | h :: r, l, owner, I, hl => by
  rw [List.length_cons] at hl
  refine hideG ?_; intro PG9 hG9
  obtain ⟨n, e, hf, hr⟩ := I.free hm (by omega) h
  refine hG9 ?_; clear hG9 PG9
  obtain ⟨o', e2, I2⟩ := lay_fold hm r (l ++ [h]) _ (I.add hf hr) (by rw [List.length_append, List.length_singleton]; omega)
  refine ⟨o', ?_, by rw [List.append_assoc] at I2; exact I2⟩
  rw [List.foldl_cons]
  rw [List.length_append, List.length_singleton] at e2
  show List.foldl _ ((layClean.free m owner (turns m) (bits h % (m + 1)) (bits h)).bind fun j => some (owner.setIfInBounds j (some l.length), l.length + 1)) r = _
  rw [e]
  refine e2.trans ?_
  rw [List.length_cons]
  congr 2
  omega
end
section
set_option tactic.hygienic false
open PySem
set_option maxHeartbeats 1000000
open SetTable
noncomputable def liveOf (owner : Array (Option Nat)) : List (Nat × Nat) := (List.range 32).filterMap fun j => (owner.getD j none).map (j, ·)
theorem live_mem {owner : Array (Option Nat)} (hs : owner.size = 32) {p : Nat × Nat} : p ∈ liveOf owner ↔ owner[p.1]? = some (some p.2) := by
 unfold liveOf
 rw [List.mem_filterMap]
 constructor
 ·rintro ⟨j, hj, e⟩
  have hlt : j < owner.size := by have := List.mem_range.mp hj; omega
  rw [Array.getD_eq_getD_getElem?, Array.getElem?_eq_getElem hlt, Option.getD_some] at e
  obtain ⟨k, hk, rfl⟩ := Option.map_eq_some_iff.mp e
  rw [Array.getElem?_eq_getElem hlt, hk]
 ·intro e
  have hlt := (Array.getElem?_eq_some_iff.mp e).1
  refine ⟨p.1, List.mem_range.mpr (by omega), ?_⟩
  rw [Array.getD_eq_getD_getElem?, e]
  rfl
theorem live_up (owner : Array (Option Nat)) : (liveOf owner).Pairwise (fun a b => a.1 < b.1) := by
 unfold liveOf
 refine List.Pairwise.filterMap _ (fun a b hab x hx y hy => ?_) List.pairwise_lt_range
 obtain ⟨_, _, rfl⟩ := Option.map_eq_some_iff.mp hx
 obtain ⟨_, _, rfl⟩ := Option.map_eq_some_iff.mp hy
 exact hab
theorem filterMap_of {α β : Type} {f : α -> Option β} {g : α -> β} : ∀ {l : List α}, (∀ x ∈ l, f x = some (g x)) -> l.filterMap f = l.map g
 | [], _ => rfl
 | x :: l, h => by rw [List.filterMap_cons, h x (.head _), List.map_cons, filterMap_of fun y hy => h y (.tail _ hy)]
theorem TI.relay {t : SetTable} {es : Array (Int × Value)} {Z : List Ent} (T : TI t es Z) (hz : Z.length <= 31) {wanted : Nat} (hw : sizeAbove wanted = 32) :
  ∃ t' order Z', t.relaid (es.map (·.1)) wanted = some (t', order) /\ TI t' (order.filterMap (es[·]?)) Z' /\ Z'.length = Z.length /\ t'.mask = 31 /\ ∀ e, (∃ z ∈ Z', z.1 = e) ↔ ∃ z ∈ Z, z.1 = e := by
 have hlen : (es.map (fun x : Int × Value => x.1)).toList.length = Z.length := by rw [Array.length_toList, Array.size_map, T.esz]
 have L0 : LI 31 (Array.replicate 32 none) [] := by
  refine ⟨by simp, fun j k q => ?_, fun k hk => absurd hk (Nat.not_lt_zero _), fun j j' k q => ?_⟩ <;>
  ·have hlt := (Array.getElem?_eq_some_iff.mp q).1
   rw [Array.getElem?_eq_getElem hlt, Array.getElem_replicate] at q
   cases q
 obtain ⟨owner, e, I⟩ := lay_fold (m := 31) (.inr rfl) (es.map (fun x : Int × Value => x.1)).toList [] _ L0 (by rw [hlen, List.length_nil]; omega)
 rw [List.nil_append] at I
 rw [Array.foldl_toList] at e
 have hown : ∀ k, (es.map (fun x : Int × Value => x.1)).toList[k]? = (Z[k]?).map (fun z : Ent => z.1.1) := fun k => by
  rw [Array.toList_map, T.es, List.map_map, List.getElem?_map]; rfl
 refine ⟨{ mask := 31, place := ((liveOf owner).map (fun p : Nat × Nat => p.1)).toArray, dummies := #[], finger := t.finger, led := t.led, moves := t.movedTo 31, plain := t.plain }, ((liveOf owner).map (fun p : Nat × Nat => p.2)).toArray,
  (liveOf owner).map (fun p : Nat × Nat => (es.getD p.2 (0, .none), p.1)), ?_, ?_, ?_, rfl, ?_⟩
 ·unfold SetTable.relaid SetTable.laid SetTable.layClean
  rw [hw]
  show (Option.bind (Option.map (fun x : Array (Option Nat) × Nat => x.1) (Array.foldl (fun (acc : Option (Array (Option Nat) × Nat)) h => do
   let (owner, k) <- acc
   let j <- layClean.free 31 owner (turns 31) (bits h % (31 + 1)) (bits h)
   pure (owner.setIfInBounds j (some k), k + 1)) (some (Array.replicate 32 none, ([] : List Int).length)) (es.map (·.1)))) _) = _
  rw [e]
  rfl
 ·have lk : ∀ p ∈ liveOf owner, ∃ z, Z[p.2]? = some z /\ es[p.2]? = some z.1 := fun p hp => by
   obtain ⟨h, hh, _⟩ := I.own p.1 p.2 ((live_mem I.size).mp hp)
   rw [hown] at hh
   obtain ⟨z, hz, _⟩ := Option.map_eq_some_iff.mp hh
   exact ⟨z, hz, by rw [T.ent, hz]; rfl⟩
  refine ⟨?_, ?_, rfl, .inr rfl, ?_, fun z hz => ?_, fun z hz => ?_⟩
  ·rw [Array.toList_filterMap, List.filterMap_map, List.map_map]
   refine filterMap_of fun p hp => ?_
   obtain ⟨z, _, h2⟩ := lk p hp
   show es[p.2]? = some (es.getD p.2 (0, .none))
   rw [Array.getD_eq_getD_getElem?, h2]
   rfl
  ·skip
   rw [List.map_map]; rfl
  ·rw [List.map_map, List.pairwise_map]
   exact live_up owner
  ·obtain ⟨p, hp, rfl⟩ := List.mem_map.mp hz
   have hlt := (Array.getElem?_eq_some_iff.mp ((live_mem I.size).mp hp)).1
   rw [I.size] at hlt
   exact Nat.le_of_lt_succ hlt
  ·obtain ⟨p, hp, rfl⟩ := List.mem_map.mp hz
   refine hideG ?_; intro PG9 hG9
   obtain ⟨h, hh, n, e, hb⟩ := I.own p.1 p.2 ((live_mem I.size).mp hp)
   refine hG9 ?_; clear hG9 PG9
   have eh : (es.getD p.2 (0, .none)).1 = h := by
    rw [hown] at hh
    obtain ⟨z, hz, e⟩ := Option.map_eq_some_iff.mp hh
    rw [Array.getD_eq_getD_getElem?, T.ent, hz]
    exact e
   dsimp only
   rw [eh]
   refine ⟨n, e, fun k hk => ?_⟩
   obtain ⟨k', hk'⟩ := hb k hk
   exact List.mem_map.mpr ⟨_, List.mem_map.mpr ⟨((road 31 h k).j, k'), (live_mem I.size).mpr hk', rfl⟩, rfl⟩
 ·rw [List.length_map]
  have nd : ((liveOf owner).map (·.2)).Nodup := by
   rw [List.Nodup, List.pairwise_map]
   refine (live_up owner).imp_of_mem fun {a b} ha hb hab q => ?_
   have := I.inj _ _ _ ((live_mem I.size).mp ha) (by rw [q]; exact (live_mem I.size).mp hb)
   omega
  refine Nat.le_antisymm ?_ ?_
  ·have := nodup_len (r := List.range Z.length) nd fun k hk => by
    obtain ⟨p, hp, rfl⟩ := List.mem_map.mp hk
    obtain ⟨h, hh, _⟩ := I.own p.1 p.2 ((live_mem I.size).mp hp)
    have := (List.getElem?_eq_some_iff.mp hh).1
    rw [hlen] at this
    exact List.mem_range.mpr this
   rwa [List.length_map, List.length_range] at this
  ·have := nodup_len (l := List.range Z.length) (r := (liveOf owner).map (·.2)) List.nodup_range fun k hk => by
    obtain ⟨j, hj⟩ := I.all k (by rw [hlen]; exact List.mem_range.mp hk)
    exact List.mem_map.mpr ⟨(j, k), (live_mem I.size).mpr hj, rfl⟩
   rwa [List.length_map, List.length_range] at this
 ·intro x
  constructor
  ·rintro ⟨z, hz, rfl⟩
   obtain ⟨p, hp, rfl⟩ := List.mem_map.mp hz
   obtain ⟨h, hh, _⟩ := I.own p.1 p.2 ((live_mem I.size).mp hp)
   rw [hown] at hh
   obtain ⟨z, hz, e⟩ := Option.map_eq_some_iff.mp hh
   refine ⟨z, List.mem_of_getElem? hz, ?_⟩
   dsimp only
   rw [Array.getD_eq_getD_getElem?, T.ent, hz]
   rfl
  ·rintro ⟨z, hz, rfl⟩
   obtain ⟨k, hk⟩ := List.getElem?_of_mem hz
   obtain ⟨j, hj⟩ := I.all k (by rw [hlen]; exact (List.getElem?_eq_some_iff.mp hk).1)
   refine ⟨_, List.mem_map.mpr ⟨(j, k), (live_mem I.size).mpr hj, rfl⟩, ?_⟩
   dsimp only
   rw [Array.getD_eq_getD_getElem?, T.ent, hk]
   rfl
end
section
set_option tactic.hygienic false
open PySem
set_option maxHeartbeats 1000000
open SetTable
section
variable {prog : Program} {w : World} {A : Around} {E : Value -> Shared -> Prop} {s : Shared}
theorem ints_all {ks : List Int} {vs : List Value} (hi : ItemsAre (intKind prog w) ks vs) : ∀ v ∈ vs, ∃ n t, v = .int n t := by
 induction hi with
 | nil => exact fun _ h => absurd h List.not_mem_nil
 | cons h1 _ ih =>
  intro v hv
  rcases List.mem_cons.mp hv with rfl | hv
  ·obtain ⟨t, rfl⟩ := Value.isInt_shape h1
   exact ⟨_, t, rfl⟩
  ·exact ih v hv
theorem tup_quiet_cls {ks : List Int} {a : Addr} {Q : Bool -> Shared -> Prop} (hk : IsTupleKey (intKind prog w) s.heap ks a) (h : Q false s) : wpAny (model prog w) A (ofAClassStatement 8 (.ref a)) Q E s := by
 have hT := hk.typeIs
 refine hideG ?_; intro PG9 hG9
 obtain ⟨o, items, n, ho, hc, hd, hi⟩ := hk
 refine hG9 ?_; clear hG9 PG9
 unfold ofAClassStatement
 refine wpAny_bind (wpAny_typeOf hT ?_)
 refine wpAny_bind (wpAny_pure ?_)
 refine wpAny_bind (wpAny_seqItems ho hd ?_)
 refine wpAny_bind ?_
 rw [<- Array.forIn_toList]
 refine wpAny_forIn_list _ (fun rest r s' => r.1 = none /\ s' = s /\ ∀ v ∈ rest, ∃ n t, v = .int n t) _ ?_ ?_ _ _ ⟨rfl, rfl, ints_all hi⟩
 ·rintro v rest r s' ⟨hr, rfl, hall⟩
  obtain ⟨n, t, rfl⟩ := hall v List.mem_cons_self
  refine wpAny_bind (m := ofAClassStatement 7 _) (wpAny_pure ?_)
  exact wpAny_pure ⟨rfl, rfl, fun u hu' => hall u (List.mem_cons_of_mem _ hu')⟩
 ·rintro ⟨r1, r2⟩ s' ⟨hr, rfl, _⟩
  simp only at hr
  subst hr
  exact wpAny_pure h
theorem tup_byValue {ks : List Int} {a : Addr} {Q : Bool -> Shared -> Prop} (hk : IsTupleKey (intKind prog w) s.heap ks a) (h : Q true s) : wpAny (model prog w) A (hashByValue 8 (.ref a)) Q E s := by
 have hT := hk.typeIs
 refine hideG ?_; intro PG9 hG9
 obtain ⟨o, items, n, ho, hc, hd, hi⟩ := hk
 refine hG9 ?_; clear hG9 PG9
 refine wpAny_bind (wpAny_specialOf hT PySem.F.slot_tuple_hash.lookup ?_)
 refine wpAny_bind (wpAny_seqItems ho hd ?_)
 dsimp only [Option.getD_some]
 refine wpAny_bind ?_
 rw [<- Array.forIn_toList]
 refine wpAny_forIn_list _ (fun rest r s' => r.1 = none /\ s' = s /\ ∀ v ∈ rest, ∃ n t, v = .int n t) _ ?_ ?_ _ _ ⟨rfl, rfl, ints_all hi⟩
 ·rintro v rest r s' ⟨hr, rfl, hall⟩
  obtain ⟨n, t, rfl⟩ := hall v List.mem_cons_self
  refine wpAny_bind (m := hashByValue 7 _) (wpAny_pure ?_)
  exact wpAny_pure ⟨rfl, rfl, fun u hu' => hall u (List.mem_cons_of_mem _ hu')⟩
 ·rintro ⟨r1, r2⟩ s' ⟨hr, rfl, _⟩
  simp only at hr
  subst hr
  exact wpAny_pure h
noncomputable def TupAll (prog : Program) (w : World) (h : Heap) (l : List Value) : Prop := ∀ v ∈ l, ∃ b ks, v = .ref b /\ IsTupleKey (intKind prog w) h ks b
theorem seen_wp {ks : List Int} {x : Addr} {l : List Value} {Q : Bool -> Shared -> Prop} (hk : IsTupleKey (intKind prog w) s.heap ks x) (hl : TupAll prog w s.heap l) (h : Q false s) : wpAny (model prog w) A (searchCouldBeSeen (.ref x) l) Q E s := by
 unfold searchCouldBeSeen
 refine wpAny_bind ?_
 refine wpAny_forIn_list _ (fun rest r s' => r.1 = none /\ s' = s /\ TupAll prog w s.heap rest) _ ?_ ?_ _ _ ⟨rfl, rfl, hl⟩
 ·rintro v rest r s' ⟨hr, rfl, hall⟩
  refine hideG ?_; intro PG9 hG9
  obtain ⟨b, kb, rfl, hb⟩ := hall v List.mem_cons_self
  refine hG9 ?_; clear hG9 PG9
  have next : ∀ (Z : Option Bool × PUnit), Z.1 = none -> (Z.1 = none /\ s' = s' /\ TupAll prog w s'.heap rest) := fun Z e => ⟨e, rfl, fun u hu => hall u (List.mem_cons_of_mem _ hu)⟩
  dsimp only
  split
  ·exact wpAny_pure (next _ rfl)
  ·refine wpAny_bind (wpAny_eqIsQuiet_tuple hk ?_)
   refine wpAny_bind (wpAny_eqIsQuiet_tuple hb ?_)
   refine wpAny_bind (tup_quiet_cls hk ?_)
   refine wpAny_bind (tup_quiet_cls hb ?_)
   exact wpAny_pure (next _ rfl)
 ·rintro ⟨r1, r2⟩ s' ⟨hr, rfl, _⟩
  simp only at hr
  subst hr
  exact wpAny_pure h
noncomputable abbrev khash (prog : Program) (w : World) (ks : List Int) : Int := tupleKeyHash (intKind prog w) ks
noncomputable def ZK (prog : Program) (w : World) (h : Heap) (Z : List Ent) : Prop := ∀ z ∈ Z, ∃ b ks, z.1.2 = .ref b /\ IsTupleKey (intKind prog w) h ks b /\ z.1.1 = khash prog w ks
theorem probe_none {t : SetTable} (h : t.mask = 7 \/ t.mask = 31) : t.gaveWay = false := by unfold SetTable.gaveWay; rcases h with e | e <;> rw [e] <;> rfl
theorem search_from {a x : Addr} {ks : List Int} {o : Obj} {es : Array (Int × Value)} {ep : Nat} {t : SetTable} {Z : List Ent} (hu : A.units < cLine) (ho : s.heap.get? a = some o) (hd : o.data = .set es ep t) (T : TI t es Z) (hZ : Z.length <= t.mask)
  (hk : IsTupleKey (intKind prog w) s.heap ks x) (hZk : ZK prog w s.heap Z) {Q : SetFound -> Shared -> Prop}
  {N : Nat} (hN : (road t.mask (khash prog w ks) N).j ∉ Z.map (·.2)) (hall : ∀ i < N, (road t.mask (khash prog w ks) i).j ∈ Z.map (·.2)) (hNb : N < 10 * turns t.mask)
  (hthere : (∃ z ∈ Z, ∃ b, z.1.2 = .ref b /\ IsTupleKey (intKind prog w) s.heap ks b) -> ∀ r, Q (.there r) s)
  (hfree : (∀ z ∈ Z, ∀ b, z.1.2 = .ref b -> ¬ IsTupleKey (intKind prog w) s.heap ks b) -> Q (.free (road t.mask (khash prog w ks) N).j false) s) :
  ∀ (fuel k : Nat) (st : Option Probe), st.getD (t.probeStart (khash prog w ks)) = road t.mask (khash prog w ks) k -> k <= N -> N - k < fuel ->
   (∀ m < k, ∀ z ∈ Z, z.2 = (road t.mask (khash prog w ks) m).j -> ∀ b, z.1.2 = .ref b -> ¬ IsTupleKey (intKind prog w) s.heap ks b) ->
   wpAny (model prog w) A (setSearchFrom a (.ref x) (khash prog w ks) true fuel st) Q E s := by
 intro fuel
 induction fuel with
 | zero => intro k st _ _ h; exact absurd h (Nat.not_lt_zero _)
 | succ fuel ih =>
  intro k st hst hk1 hk2 hno
  have noH : ∀ {z : Ent} {b : Addr}, z ∈ Z -> z.1.1 ≠ khash prog w ks -> z.1.2 = .ref b -> ¬ IsTupleKey (intKind prog w) s.heap ks b := fun {z b} hz hne e q => by
   refine hideG ?_; intro PG9 hG9
   obtain ⟨b', ks', e', q', eh⟩ := hZk z hz
   refine hG9 ?_; clear hG9 PG9
   rw [e] at e'; cases e'
   rw [q'.inj q] at eh
   exact hne eh
  refine wpAny_bind (wpAny_setState_of ho hd (T.fits hZ) ?_)
  dsimp only
  rw [probe_none T.msk, if_neg (by decide)]
  rcases T.probe (khash prog w ks) hN hall (fun i => (es[i]?.map (·.1)).getD 0) (fun i z hz => by rw [T.ent, hz]; rfl) (10 * turns t.mask) k hk1 (Nat.lt_of_le_of_lt (Nat.sub_le _ _) hNb) with ⟨e, f⟩ | ⟨k', i, z, a1, a2, a3, a4, a5, e, f⟩
  ·have e' : SetTable.probe t (fun i => (es[i]?.map (·.1)).getD 0) (khash prog w ks) (st.getD (t.probeStart (khash prog w ks))) = some (.empty (road t.mask (khash prog w ks) N).j none) := by rw [hst]; exact e
   erw [e']
   dsimp only
   refine wpAny_pure (hfree fun z hz b eb q => ?_)
   refine hideG ?_; intro PG9 hG9
   obtain ⟨b', ks', e1, q', eh⟩ := hZk z hz
   refine hG9 ?_; clear hG9 PG9
   rw [eb] at e1; cases e1
   have hh : z.1.1 = khash prog w ks := by rw [eh, q'.inj q]
   obtain ⟨n, hn, hb⟩ := T.rd z hz
   rw [hh] at hn hb
   have hlt : n < N := by
    refine Nat.lt_of_not_le fun hle => ?_
    by_cases w : n = N
    ·subst w; exact hN (by rw [hn]; exact List.mem_map.mpr ⟨z, hz, rfl⟩)
    ·exact hN (hb N (Nat.lt_of_le_of_ne hle (Ne.symm w)))
   by_cases w : n < k
   ·exact hno n w z hz hn.symm b eb q
   ·exact f n (Nat.not_lt.mp w) hlt z hz hn.symm hh
  ·have e' : SetTable.probe t (fun i => (es[i]?.map (·.1)).getD 0) (khash prog w ks) (st.getD (t.probeStart (khash prog w ks))) = some (.candidate z.2 i (road t.mask (khash prog w ks) (k' + 1))) := by rw [hst]; exact e
   erw [e']
   dsimp only
   have hz := List.mem_of_getElem? a3
   refine hideG ?_; intro PG9 hG9
   obtain ⟨b, kb, eb, hb, eh⟩ := hZk z hz
   refine hG9 ?_; clear hG9 PG9
   have hes : es[i]? = some z.1 := by rw [T.ent, a3]; rfl
   have main : wpAny (model prog w) A (do
     let equal <- holding [z.1.2] (eqBool z.1.2 (.ref x))
     let (es', _, t') <- setState a
     if true && equal then return .there none
     let some same := t'.sameMemory t.moves t.mask | unsupported "set.changed-during-lookup:is-the-new-block-at-the-old-address"
     let still <- match (if same then t'.slot z.2 else .empty) with
      | .live i' => match es'[i']? with
       | some (_, y') => do pure (if <- isSame y' z.1.2 then some i' else none)
       | none => pure none
      | _ => pure none
     match still with
     | none => rule "set.search.anew"; setSearchFrom a (.ref x) (khash prog w ks) true fuel none
     | some i' => if equal then return .there (some i') else setSearchFrom a (.ref x) (khash prog w ks) true fuel (some (road t.mask (khash prog w ks) (k' + 1)))) Q E s := by
    rw [eb]
    refine wpAny_bind (wpAny_holding (wpAny_eqBool_tuple hu hb hk ?_))
    refine wpAny_bind (wpAny_setState_of ho hd (T.fits hZ) ?_)
    dsimp only
    by_cases q : kb = ks
    ·subst q
     simp only [decide_true, Bool.and_self, if_true]
     exact wpAny_pure (hthere ⟨z, hz, b, eb, hb⟩ none)
    ·rw [decide_eq_false q]
     have hsm : t.sameMemory t.moves t.mask = some true := by unfold SetTable.sameMemory; rw [if_pos (by simp)]
     rw [hsm]
     dsimp only
     rw [if_pos rfl, T.slot_live a3]
     dsimp only
     rw [hes]
     dsimp only
     rw [eb]
     have hsame : isSame (.ref b) (.ref b) = pure true := by unfold isSame; simp
     refine wpAny_bind (wpAny_of_eq hsame ?_)
     refine wpAny_bind (wpAny_pure ?_)
     refine ih (k' + 1) _ rfl a2 (Nat.lt_of_lt_of_le (Nat.sub_lt_sub_left a2 (Nat.lt_succ_self k')) (Nat.le_trans (Nat.sub_le_sub_left a1 N) (Nat.le_of_lt_succ hk2))) fun m hm z' hz' ez b' eb' => ?_
     by_cases w1 : m < k
     ·exact hno m w1 z' hz' ez b' eb'
     ·by_cases w2 : m = k'
      ·subst w2
       have := T.uniq a3 hz' (ez.trans a4.symm)
       subst this
       rw [eb] at eb'; cases eb'
       exact fun y => q (hb.inj y)
      ·exact noH hz' (f m (Nat.not_lt.mp w1) (Nat.lt_of_le_of_ne (Nat.le_of_lt_succ hm) w2) z' hz' ez) eb'
   cases hled : t.led with
   | true =>
    rw [hes]
    exact main
   | false =>
    refine wpAny_bind (seen_wp hk (fun v hv => ?_) ?_)
    ·obtain ⟨y, hy, rfl⟩ := List.mem_map.mp hv
     have : y ∈ es.toList := by
      have := Array.mem_toList_iff.mp hy
      exact Array.mem_toList_iff.mpr (Array.mem_filter.mp this).1
     rw [T.es] at this
     obtain ⟨z', hz', rfl⟩ := List.mem_map.mp this
     refine hideG ?_; intro PG9 hG9
     obtain ⟨b', ks', e1, q', _⟩ := hZk z' hz'
     refine hG9 ?_; clear hG9 PG9
     exact ⟨b', ks', e1, q'⟩
    ·skip
     rw [hes]
     exact main
end
end
section
set_option tactic.hygienic false
open PySem
set_option maxHeartbeats 1000000
open SetTable
section
variable {P : Addr -> Prop} {prog : Program} {w : World} {A : Around} {E : Value -> Shared -> Prop} {s : Shared}
structure SetJ (P : Addr -> Prop) (prog : Program) (w : World) (h : Heap) (a : Addr) (KS : List (List Int)) : Prop where
 ex : ∃ o es ep t Z, h.get? a = some o /\ o.ExactSet /\ o.data = .set es ep t /\ TI t es Z /\ (t.mask = 7 -> Z.length <= 4) /\ ZK prog w h Z /\ KS.length = Z.length /\ (∀ z ∈ Z, ∃ b ks, z.1.2 = .ref b /\ IsTupleKey (intKind prog w) h ks b /\ ks ∈ KS /\ P b) /\ (∀ ks ∈ KS, ∃ z ∈ Z, ∃ b, z.1.2 = .ref b /\ IsTupleKey (intKind prog w) h ks b)
 nd : KS.Nodup
theorem tup_same {h h' : Heap} {a b : Addr} {o : Obj} {es ep t} {ks : List Int} (ho : h.get? a = some o) (hd : o.data = .set es ep t) (hs : Heap.SameBut a h h') (x : IsTupleKey (intKind prog w) h ks b) : IsTupleKey (intKind prog w) h' ks b := by
 refine hideG ?_; intro PG9 hG9
 obtain ⟨o', items, n, ho', hc, hd', hi⟩ := x
 refine hG9 ?_; clear hG9 PG9
 refine ⟨o', items, n, (hs.2 b fun q => ?_).trans ho', hc, hd', hi⟩
 rw [q, ho] at ho'
 cases ho'
 rw [hd] at hd'
 cases hd'
theorem fits31 {t : SetTable} {es : Array (Int × Value)} {Z : List Ent} (T : TI t es Z) (h7 : t.mask = 7 -> Z.length <= 4) (h : Z.length <= 18) : Z.length <= t.mask := by
 rcases T.msk with e | e
 ·have := h7 e; omega
 ·omega
theorem setJ_of {h : Heap} {a : Addr} {o : Obj} {es : Array (Int × Value)} {ep : Nat} {t : SetTable} {Z : List Ent} {KS : List (List Int)} (ho : h.get? a = some o) (hx : o.ExactSet) (hd : o.data = .set es ep t) (T : TI t es Z) (h7 : t.mask = 7 -> Z.length <= 4) (hl : KS.length = Z.length) (nd : KS.Nodup)
  (h1 : ∀ z ∈ Z, ∃ b ks, z.1.2 = .ref b /\ IsTupleKey (intKind prog w) h ks b /\ ks ∈ KS /\ P b /\ z.1.1 = khash prog w ks) (h2 : ∀ ks ∈ KS, ∃ z ∈ Z, ∃ b, z.1.2 = .ref b /\ IsTupleKey (intKind prog w) h ks b) : SetJ P prog w h a KS :=
 ⟨⟨o, es, ep, t, Z, ho, hx, hd, T, h7, fun z hz => let ⟨b, ks, e1, e2, _, _, e4⟩ := h1 z hz; ⟨b, ks, e1, e2, e4⟩, hl, fun z hz => let ⟨b, ks, e1, e2, e3, e5, _⟩ := h1 z hz; ⟨b, ks, e1, e2, e3, e5⟩, h2⟩, nd⟩
theorem setAdd_T {a x : Addr} {ks : List Int} {KS : List (List Int)} {Q : Bool -> Shared -> Prop} (hu : A.units < cLine) (J : SetJ P prog w s.heap a KS) (hk : IsTupleKey (intKind prog w) s.heap ks x) (hsz : KS.length <= 17) (hPx : P x)
  (h : ∀ h' KS' tk r, Heap.SameBut a s.heap h' -> SetJ P prog w h' a KS' -> (∀ k, k ∈ KS' ↔ k = ks \/ k ∈ KS) -> KS'.length <= KS.length + 1 -> Q r { s with heap := h', toks := tk }) : wpAny (model prog w) A (setAdd a (.ref x)) Q E s := by
 refine hideG ?_; intro PG9 hG9
 obtain ⟨⟨o, es, ep, t, Z, ho, hx, hd, T, h7, hZK, hl, h1, h2⟩, nd⟩ := J
 refine hG9 ?_; clear hG9 PG9
 have hfit := fits31 T h7 (by omega)
 obtain ⟨N, hNb, hN, hall⟩ := first_free T.msk (khash prog w ks) (l := Z.map (·.2)) (by rw [List.length_map]; exact hfit)
 refine wpAny_holding (wpAny_bind (wpAny_pyHash_tuple hu hk ?_))
 refine wpAny_holding (wpAny_bind (wpAny_setState_of (s := { s with toks := s.toks + (ks.length + 1) }) ho hd (T.fits hfit) ?_))
 dsimp only
 rw [show byScan (.ref x) es = false from rfl, if_neg (by decide)]
 refine wpAny_bind (search_from (s := { s with toks := s.toks + (ks.length + 1) }) hu ho hd T hfit hk hZK hN hall (by unfold turns; omega) ?_ ?_ 100000 0 none rfl (Nat.zero_le _) (by rcases T.msk with e | e <;> (rw [e] at hNb; omega)) fun m hm => absurd hm (Nat.not_lt_zero _))
 ·intro hz09 r
  refine hideG ?_; intro PG9 hG9
  obtain ⟨z, hz, b, e1, e2⟩ := hz09
  refine hG9 ?_; clear hG9 PG9
  have hks : ks ∈ KS := by
   refine hideG ?_; intro PG9 hG9
   obtain ⟨b', ks', e1', e2', e3', _⟩ := h1 z hz
   refine hG9 ?_; clear hG9 PG9
   rw [e1] at e1'; cases e1'
   rw [e2.inj e2']; exact e3'
  exact wpAny_pure (h s.heap KS _ _ (Heap.SameBut.refl a s.heap) ⟨⟨o, es, ep, t, Z, ho, hx, hd, T, h7, hZK, hl, h1, h2⟩, nd⟩ (fun k => ⟨.inr, fun q => q.elim (fun e => e ▸ hks) id⟩) (Nat.le_succ _))
 ·intro hno
  refine wpAny_bind (wpAny_setState_of (s := { s with toks := s.toks + (ks.length + 1) }) ho hd (T.fits hfit) ?_)
  have hks : ks ∉ KS := fun q => by
   refine hideG ?_; intro PG9 hG9
   obtain ⟨z, hz, b, e1, e2⟩ := h2 ks q
   refine hG9 ?_; clear hG9 PG9
   exact hno z hz b e1 e2
  have T' := T.put (khash prog w ks) (.ref x) hN hall
  generalize hj : (road t.mask (khash prog w ks) N).j = j at T' ⊢
  generalize hput : t.put j = tp at T' ⊢
  obtain ⟨t', p⟩ := tp
  have hpl : t'.plain = t.plain := by have := congrArg (·.1.plain) hput; exact this.symm
  have hmk : t'.mask = t.mask := by have := congrArg (·.1.mask) hput; exact this.symm
  dsimp only at T' ⊢
  generalize hZ' : Z.take p ++ ((khash prog w ks, Value.ref x), j) :: Z.drop p = Z' at T'
  have mem : ∀ z, z ∈ Z' ↔ z = ((khash prog w ks, Value.ref x), j) \/ z ∈ Z := fun z => by
   rw [<- hZ', List.mem_append, List.mem_cons]
   constructor
   ·rintro (q | q | q)
    ·exact .inr (List.mem_of_mem_take q)
    ·exact .inl q
    ·exact .inr (List.mem_of_mem_drop q)
   ·rintro (q | q)
    ·exact .inr (.inl q)
    ·rw [<- List.take_append_drop p Z, List.mem_append] at q
     exact q.elim .inl fun y => .inr (.inr y)
  have hl' : Z'.length = Z.length + 1 := by
   have h3 := congrArg List.length (List.take_append_drop p Z)
   rw [List.length_append] at h3
   rw [<- hZ', List.length_append, List.length_cons]
   omega
  clear hZ'
  suffices main : wpAny (model prog w) A (do
    storeSet a (insertAt es p (tupleKeyHash (intKind prog w) ks, Value.ref x)) t'
    if (!false && t'.tooFull) = true then do
     setRelay a (grown (es.size + 1))
     pure true
    else pure true) Q E { s with toks := s.toks + (ks.length + 1) } by
   split
   ·refine wpAny_bind (tup_byValue (ks := ks) hk ?_)
    simp only [if_true]
    exact main
   ·refine wpAny_bind (wpAny_pure ?_)
    simp only [if_true]
    exact main
  have keysOf : ∀ {h' : Heap}, Heap.SameBut a s.heap h' -> ∀ {Y : List Ent}, (∀ e, (∃ z ∈ Y, z.1 = e) ↔ ∃ z ∈ Z', z.1 = e) ->
    (∀ z ∈ Y, ∃ b k, z.1.2 = .ref b /\ IsTupleKey (intKind prog w) h' k b /\ k ∈ ks :: KS /\ P b /\ z.1.1 = khash prog w k) /\ (∀ k ∈ ks :: KS, ∃ z ∈ Y, ∃ b, z.1.2 = .ref b /\ IsTupleKey (intKind prog w) h' k b) := fun {h'} hs {Y} hY => by
   refine ⟨fun z hz => ?_, fun k hk' => ?_⟩
   ·obtain ⟨y, hy, ey⟩ := (hY z.1).mp ⟨z, hz, rfl⟩
    rw [<- ey]
    rcases (mem y).mp hy with rfl | hy
    ·exact ⟨x, ks, rfl, tup_same ho hd hs hk, .head _, hPx, rfl⟩
    ·refine hideG ?_; intro PG9 hG9
     obtain ⟨b, k, e1, e2, e3, e4⟩ := h1 y hy
     refine hG9 ?_; clear hG9 PG9
     refine hideG ?_; intro PG9 hG9
     obtain ⟨b', k', f1, f2, f3⟩ := hZK y hy
     refine hG9 ?_; clear hG9 PG9
     rw [e1] at f1; cases f1
     rw [e2.inj f2] at e3
     exact ⟨b, k', e1, tup_same ho hd hs f2, .tail _ e3, e4, f3⟩
   ·rcases List.mem_cons.mp hk' with rfl | hk'
    ·obtain ⟨z, hz, ez⟩ := (hY (khash prog w k, Value.ref x)).mpr ⟨_, (mem _).mpr (.inl rfl), rfl⟩
     exact ⟨z, hz, x, by rw [ez], tup_same ho hd hs hk⟩
    ·refine hideG ?_; intro PG9 hG9
     obtain ⟨y, hy, b, e1, e2⟩ := h2 k hk'
     refine hG9 ?_; clear hG9 PG9
     obtain ⟨z, hz, ez⟩ := (hY y.1).mpr ⟨y, (mem y).mpr (.inr hy), rfl⟩
     exact ⟨z, hz, b, by rw [ez]; exact e1, tup_same ho hd hs e2⟩
  have esz : (insertAt es p (khash prog w ks, Value.ref x)).size = Z.length + 1 := by rw [T'.esz, hl']
  refine wpAny_bind (wpAny_storeSet_of ho hd ?_ (by rw [esz, sizeLine_eq]; omega))
  have ho1 : (s.heap.update a (Obj.putSet (insertAt es p (khash prog w ks, Value.ref x)) t')).get? a = some { o with data := .set (insertAt es p (khash prog w ks, Value.ref x)) (ep + 1) t' } := by
   have := Heap.get?_update_self (Obj.putSet (insertAt es p (khash prog w ks, Value.ref x)) t') ho (by rw [putSet_of _ _ hd]; rfl)
   rw [putSet_of _ _ hd] at this; exact this
  have hs1 := Heap.SameBut.update s.heap a (Obj.putSet (insertAt es p (khash prog w ks, Value.ref x)) t')
  generalize s.heap.update a (Obj.putSet (insertAt es p (khash prog w ks, Value.ref x)) t') = hp1 at ho1 hs1 ⊢
  have nd' : (ks :: KS).Nodup := List.nodup_cons.mpr ⟨hks, nd⟩
  have memK : ∀ k, k ∈ ks :: KS ↔ k = ks \/ k ∈ KS := fun k => List.mem_cons
  by_cases q : t.mask = 7 /\ Z.length = 4
  ·have hfull : t'.tooFull = true := by
    unfold SetTable.tooFull SetTable.fill
    rw [T'.dm, T'.size, hl', hmk, q.1, q.2]
    decide
   rw [hfull]
   refine wpAny_bind ?_
   have hfit' : Z'.length <= t'.mask := by rw [hl', hmk, q.1, q.2]; decide
   refine wpAny_bind (wpAny_setState_of (s := { s with heap := hp1, toks := s.toks + (ks.length + 1) }) ho1 rfl (T'.fits hfit') ?_)
   dsimp only
   have hw : sizeAbove (grown (es.size + 1)) = 32 := by rw [T.esz, q.2]; decide
   rw [hw, if_neg (by rw [sizeLine_eq]; decide)]
   refine hideG ?_; intro PG9 hG9
   obtain ⟨t2, order, Z2, e, T2, hl2, hm2, hY⟩ := T'.relay (by omega) hw
   refine hG9 ?_; clear hG9 PG9
   have es2 : (order.filterMap ((insertAt es p (khash prog w ks, Value.ref x))[·]?)).size = (insertAt es p (khash prog w ks, Value.ref x)).size := by rw [T2.esz, T'.esz, hl2]
   refine wpAny_bind (wpAny_of_eq (a := (order.filterMap ((insertAt es p (khash prog w ks, Value.ref x))[·]?), t2)) ?_ ?_)
   ·rw [e]
    exact if_neg (by rw [es2]; simp)
   ·dsimp only
    refine wpAny_storeSet_of (s := { s with heap := hp1, toks := s.toks + (ks.length + 1) }) ho1 rfl ?_ (by rw [es2, esz, sizeLine_eq]; omega)
    have ho2 : (hp1.update a (Obj.putSet (order.filterMap ((insertAt es p (khash prog w ks, Value.ref x))[·]?)) t2)).get? a = some { o with data := .set (order.filterMap ((insertAt es p (khash prog w ks, Value.ref x))[·]?)) (ep + 1 + 1) t2 } := by
     have := Heap.get?_update_self (Obj.putSet (order.filterMap ((insertAt es p (khash prog w ks, Value.ref x))[·]?)) t2) ho1 (by rw [putSet_of _ _ rfl]; rfl)
     rw [putSet_of _ _ rfl] at this; exact this
    have hs2 := hs1.trans (Heap.SameBut.update hp1 a (Obj.putSet (order.filterMap ((insertAt es p (khash prog w ks, Value.ref x))[·]?)) t2))
    obtain ⟨k1, k2⟩ := keysOf hs2 hY
    refine wpAny_pure (h _ (ks :: KS) _ _ hs2 (setJ_of ho2 hx rfl T2 (fun e => by rw [hm2] at e; cases e) (by rw [List.length_cons, hl2, hl', hl]) nd' k1 k2) memK (by rw [List.length_cons]; exact Nat.le_refl _))
  ·have hfull : t'.tooFull = false := by
    unfold SetTable.tooFull SetTable.fill
    rw [T'.dm, T'.size, hl', hmk]
    rcases T.msk with e | e
    ·have := h7 e
     rw [e]
     refine decide_eq_false ?_
     have : Z.length ≠ 4 := fun z => q ⟨e, z⟩
     simp only [Array.size_empty]
     omega
    ·rw [e]
     refine decide_eq_false ?_
     simp only [Array.size_empty]
     omega
   rw [hfull]
   obtain ⟨k1, k2⟩ := keysOf hs1 (Y := Z') (fun e => Iff.rfl)
   refine wpAny_pure (h _ (ks :: KS) _ _ hs1 (setJ_of ho1 hx rfl T' (fun e => ?_) (by rw [List.length_cons, hl', hl]) nd' k1 k2) memK (by rw [List.length_cons]; exact Nat.le_refl _))
   rw [hmk] at e
   have := h7 e
   have : Z.length ≠ 4 := fun z => q ⟨e, z⟩
   omega
end
end
section
set_option tactic.hygienic false
open PySem PySem.Spec
set_option maxHeartbeats 3200000
section
variable {P : Addr -> Prop} {prog : Program} {w : World} {A : Around} {E : Value -> Shared -> Prop} {R : Result -> Shared -> Prop} {s : Shared}
theorem SetJ.stay {h h' : Heap} {a : Addr} {KS : List (List Int)} (J : SetJ P prog w h a KS) (ka : ∀ o, h.get? a = some o -> h'.get? a = some o) (k : ∀ b o ks, P b -> IsTupleKey (intKind prog w) h ks b -> h.get? b = some o -> h'.get? b = some o) : SetJ P prog w h' a KS := by
 refine hideG ?_; intro PG9 hG9
 obtain ⟨⟨o, es, ep, t, Z, ho, hx, hd, T, h7, hZK, hl, h1, h2⟩, nd⟩ := J
 refine hG9 ?_; clear hG9 PG9
 have tk : ∀ {b ks}, P b -> IsTupleKey (intKind prog w) h ks b -> IsTupleKey (intKind prog w) h' ks b := fun {b ks} pb x => by
  have x' := x
  refine hideG ?_; intro PG9 hG9
  obtain ⟨o', items, n, ho', r⟩ := x
  refine hG9 ?_; clear hG9 PG9
  exact ⟨o', items, n, k b o' ks pb x' ho', r⟩
 have pz : ∀ z ∈ Z, ∀ b, z.1.2 = .ref b -> P b := fun z hz b e => by
  refine hideG ?_; intro PG9 hG9
  obtain ⟨b', ks, e1, _, _, e4⟩ := h1 z hz
  refine hG9 ?_; clear hG9 PG9
  rw [e] at e1; cases e1; exact e4
 exact ⟨⟨o, es, ep, t, Z, ka o ho, hx, hd, T, h7, fun z hz => let ⟨b, ks, e1, e2, e3⟩ := hZK z hz; ⟨b, ks, e1, tk (pz z hz b e1) e2, e3⟩, hl, fun z hz => let ⟨b, ks, e1, e2, e3, e4⟩ := h1 z hz; ⟨b, ks, e1, tk e4 e2, e3, e4⟩, fun ks hk => let ⟨z, hz, b, e1, e2⟩ := h2 ks hk; ⟨z, hz, b, e1, tk (pz z hz b e1) e2⟩⟩, nd⟩
theorem SetJ.kp {h h' : Heap} {a : Addr} {KS : List (List Int)} (J : SetJ P prog w h a KS) (k : ∀ b o, h.get? b = some o -> (b = a \/ ∃ ks, IsTupleKey (intKind prog w) h ks b) -> h'.get? b = some o) : SetJ P prog w h' a KS :=
 J.stay (fun o ho => k a o ho (.inl rfl)) fun b o ks _ x ho => k b o ho (.inr ⟨ks, x⟩)
theorem not_tup {h : Heap} {a : Addr} {o : Obj} {ks : List Int} (ho : h.get? a = some o) (hc : o.cls ≠ .type "tuple") : ¬ IsTupleKey (intKind prog w) h ks a := fun ⟨o', _, _, ho', hc', _⟩ => by rw [ho] at ho'; cases ho'; exact hc hc'
theorem set_loop {I S : Addr} {fp : List Addr} {n : Nat} {Pv : Nat -> Value -> Prop} {St : Nat -> Heap -> Prop} (W : Walks prog w A.in1 I fp [I] n Pv St) (hIo : ∀ i h, St i h -> ∃ o, h.get? I = some o /\ o.cls ≠ .type "tuple") (hSf : S ∉ fp) (hSI : S ≠ I) (hu : A.in1.units < cLine) (hn : n <= 18) (key : Nat -> List Int) :
  ∀ (k i : Nat) (s : Shared) (KS : List (List Int)), n - i = k -> i <= n -> St i s.heap -> SetJ P prog w s.heap S KS -> KS.length <= i -> (∀ q, q ∈ KS ↔ ∃ j, j < i /\ key j = q) ->
   (∀ j v, Pv j v -> ∃ b, v = .ref b /\ IsTupleKey (intKind prog w) s.heap (key j) b /\ P b) ->
   (∀ h' tk KS', SetJ P prog w h' S KS' -> (∀ q, q ∈ KS' ↔ ∃ j, j < n /\ key j = q) -> (∀ b o, b ≠ S -> b ≠ I -> s.heap.get? b = some o -> h'.get? b = some o) -> R (.ok (.ret .none)) { s with heap := h', toks := tk }) ->
   codeAny (model prog w) A (.builtin "set.update.loop" ⟨[.ref S, .ref I], []⟩) R s := by
 intro k
 induction k with
 | zero =>
  intro i s KS hk hi hst hJ hl hKS hT hR
  have hin : i = n := Nat.le_antisymm hi (Nat.le_of_sub_eq_zero hk)
  subst hin
  obtain ⟨oI, hoI, hcI⟩ := hIo _ _ hst
  refine codeAny_builtin PyProof.Rows.F.entry_set_update_loop ?_
  rw [Around.under_plainId PyProof.Rows.F.plain_set_update_loop _]
  show wpAny _ A.in1 (pyNext (.ref I) >>= _) _ _ s
  refine wpAny_bind (W.done s _ _ hst fun h' tk hm => ?_)
  exact wpAny_pure (hR h' tk KS (hJ.kp fun b o ho hb => hm b o (fun q => by
   rcases hb with rfl | ⟨ks, hb⟩
   ·exact hSI (List.mem_singleton.mp q)
   ·rw [List.mem_singleton.mp q] at hb
    exact not_tup hoI hcI hb) ho) hKS fun b o _ hbI ho => hm b o (fun q => hbI (List.mem_singleton.mp q)) ho)
 | succ k ih =>
  intro i s KS hk hi hst hJ hl hKS hT hR
  have hlt : i < n := Nat.lt_of_sub_eq_succ hk
  obtain ⟨oI, hoI, hcI⟩ := hIo _ _ hst
  refine hideG ?_; intro PG9 hG9
  obtain ⟨oS, _, _, _, _, hoS, hxS, hdS, _⟩ := hJ.ex
  refine hG9 ?_; clear hG9 PG9
  refine codeAny_builtin PyProof.Rows.F.entry_set_update_loop ?_
  rw [Around.under_plainId PyProof.Rows.F.plain_set_update_loop _]
  show wpAny _ A.in1 (pyNext (.ref I) >>= _) _ _ s
  refine wpAny_bind (W.item i s _ _ hlt hst fun v h1 tk1 hP hst1 hm => ?_)
  have keep1 : ∀ b o, s.heap.get? b = some o -> b ≠ I -> h1.get? b = some o := fun b o ho hb => hm b o (fun q => hb (List.mem_singleton.mp q)) ho
  have tk1' : ∀ {b ks}, IsTupleKey (intKind prog w) s.heap ks b -> IsTupleKey (intKind prog w) h1 ks b := fun {b ks} x => by
   have x' := x
   refine hideG ?_; intro PG9 hG9
   obtain ⟨o', items, n', ho', r⟩ := x
   refine hG9 ?_; clear hG9 PG9
   exact ⟨o', items, n', keep1 b o' ho' (fun q => by rw [q] at x'; exact not_tup hoI hcI x'), r⟩
  refine hideG ?_; intro PG9 hG9
  obtain ⟨b, rfl, hb, hPb⟩ := hT i v hP
  refine hG9 ?_; clear hG9 PG9
  have hJ1 : SetJ P prog w h1 S KS := hJ.kp fun b' o ho hb' => keep1 b' o ho fun q => by
   rcases hb' with rfl | ⟨ks, hb'⟩
   ·exact hSI q
   ·rw [q] at hb'; exact not_tup hoI hcI hb'
  refine wpAny_bind (wpAny_holding ?_)
  refine setAdd_T (s := { s with heap := h1, toks := tk1 }) hu hJ1 (tk1' hb) (by omega) hPb fun h2 KS2 tk2 r hs2 hJ2 hK2 hl2 => ?_
  refine wpAny_pure ⟨plainId_quiet PyProof.Rows.F.plain_set_update_loop _, ?_⟩
  have hoS1 := keep1 S oS hoS hSI
  refine ih (i + 1) { s with heap := h2, toks := tk2 } KS2 (congrArg Nat.pred hk) hlt (W.frame _ h1 h2 hst1 fun b' hb' o ho => (hs2.2 b' fun q => hSf (by rw [<- q]; exact hb')).trans ho) hJ2 (by omega) (fun q => ?_) (fun j v hv => ?_) fun h3 tk3 KS3 hJ3 hK3 hm3 => hR h3 tk3 KS3 hJ3 hK3 fun b' o h1' h2' ho => hm3 b' o h1' h2' ((hs2.2 b' h1').trans (keep1 b' o ho h2'))
  ·rw [hK2, hKS]
   constructor
   ·rintro (rfl | ⟨j, hj, e⟩)
    ·exact ⟨i, Nat.lt_succ_self _, rfl⟩
    ·exact ⟨j, Nat.lt_succ_of_lt hj, e⟩
   ·rintro ⟨j, hj, e⟩
    by_cases w : j = i
    ·subst w; exact .inl e.symm
    ·exact .inr ⟨j, by omega, e⟩
  ·refine hideG ?_; intro PG9 hG9
   obtain ⟨b', rfl, hb', hp'⟩ := hT j v hv
   refine hG9 ?_; clear hG9 PG9
   exact ⟨b', rfl, tup_same hoS1 hdS hs2 (tk1' hb'), hp'⟩
theorem setJ_nil {h : Heap} {a : Addr} {led : Bool} (ho : h.get? a = some { cls := .type "set", dict := none, data := .set #[] 0 (.fresh 0 0 led) }) : SetJ P prog w h a [] :=
 ⟨⟨_, #[], 0, _, [], ho, ⟨rfl, rfl, rfl⟩, rfl, ⟨rfl, rfl, rfl, .inl rfl, .nil, fun _ h => absurd h List.not_mem_nil, fun _ h => absurd h List.not_mem_nil⟩, fun _ => Nat.zero_le _, fun _ h => absurd h List.not_mem_nil, rfl, fun _ h => absurd h List.not_mem_nil, fun _ h => absurd h List.not_mem_nil⟩, List.nodup_nil⟩
theorem len_set_T {a : Addr} {KS : List (List Int)} {Q : Value -> Shared -> Prop} (J : SetJ P prog w s.heap a KS) (hz : KS.length <= 18) (h : Q (.int KS.length (s.toks + 1)) { s with toks := s.toks + 1 + 1 }) : wpAny (model prog w) A (call (.builtin "len") [.ref a]) Q E s := by
 refine hideG ?_; intro PG9 hG9
 obtain ⟨⟨o, es, ep, t, Z, ho, hx, hd, T, h7, hZK, hl, h1, h2⟩, nd⟩ := J
 refine hG9 ?_; clear hG9 PG9
 have e : es.size = KS.length := by rw [T.esz, hl]
 refine call_len_set ho hx hd (T.fits (fits31 T h7 (by omega))) (by rw [e]; omega) ?_
 rw [e]
 exact h
open PySem.F in
theorem call_set_T {l : Addr} {items : Array Value} (key : Nat -> List Int) {Q : Value -> Shared -> Prop} (hh : A.handled = none) (hu : A.units + 100 < cLine) (hl : s.heap.IsList l items) (hT : ∀ i v, items[i]? = some v -> ∃ b, v = .ref b /\ IsTupleKey (intKind prog w) s.heap (key i) b /\ P b) (hsz : items.size <= 18)
  (h : ∀ h' tk KS, SetJ P prog w h' s.heap.objs.size KS -> (∀ q, q ∈ KS ↔ ∃ j, j < items.size /\ key j = q) -> (∀ b o, s.heap.get? b = some o -> h'.get? b = some o) -> Q (.ref s.heap.objs.size) { s with heap := h', toks := tk }) :
  wpAny (model prog w) A (call (.type "set") [.ref l]) Q E s := by
 obtain ⟨c, tl, hmro⟩ := called_set.mro
 have hmade := called_set.made
 have hsub := called_set.sub
 have h1 := called_set.notType
 have h2 := called_set.canCreate
 have hct := typeCall_set_1 (.ref l)
 refine wpAny_call (codeAny_of_tree ?_)
 refine wpAny_pure ⟨Code.quiet_builtin _ (by decide +kernel), codeAny_builtin entry_type_call ?_⟩
 rw [Around.under_plain (weight_type_call_type "set" [.ref l] []) rfl]
 repeat (any_goals (first | assumption | wp_step))
 refine codeAny_mono (code_set_new_1 (.ref l) (E := fun _ _ => False) (Q₁ := fun obj s₁ => ∃ led : Bool, obj = .ref s.heap.objs.size /\ s₁ = { s with heap := s.heap.push { cls := .type "set", dict := none, data := .set #[] 0 (.fresh 0 0 led) } }) fun led => ⟨led, rfl, rfl⟩) fun r s₁ hr => ?_
 match r, hr with
 | .ok (.ret obj), hr =>
  obtain ⟨led, rfl, rfl⟩ := hr
  have hS : (s.heap.push { cls := .type "set", dict := none, data := .set #[] 0 (.fresh 0 0 led) }).get? s.heap.objs.size = some { cls := .type "set", dict := none, data := .set #[] 0 (.fresh 0 0 led) } := Heap.get?_push_size _ rfl
  have up : ∀ b o, s.heap.get? b = some o -> (s.heap.push { cls := .type "set", dict := none, data := .set #[] 0 (.fresh 0 0 led) }).get? b = some o := fun b o e => Heap.get?_push_of_some _ e
  have hsz1 : (s.heap.push { cls := .type "set", dict := none, data := .set #[] 0 (.fresh 0 0 led) }).objs.size = s.heap.objs.size + 1 := Heap.size_push _ _
  generalize hp1 : s.heap.push { cls := .type "set", dict := none, data := .set #[] 0 (.fresh 0 0 led) } = hp at hS up hsz1 ⊢
  have hT1 : Shared.TypeIs { s with heap := hp } (.ref s.heap.objs.size) "set" := ⟨_, hS, rfl⟩
  have hli := called_set.init.lookup
  have hbi := called_set.init.bind (.ref s.heap.objs.size)
  repeat (any_goals (first | assumption | wp_step))
  have lt : ∀ b o, s.heap.get? b = some o -> b ≠ s.heap.objs.size := fun b o e => Nat.ne_of_lt (Heap.lt_size e)
  refine codeAny_mono (codeAny_call_builtin (R := fun r s₂ => r = .ok (.ret .none) /\ ∃ h' tk KS, s₂ = { s with heap := h', toks := tk } /\ SetJ P prog w h' s.heap.objs.size KS /\ (∀ q, q ∈ KS ↔ ∃ j, j < items.size /\ key j = q) /\ ∀ b o, s.heap.get? b = some o -> h'.get? b = some o) called_set.init.plain entry_set_init (check_set_init_1 hT1 ?_)) fun r₂ s₂ hr₂ => ?_
  ·refine hideG ?_; intro PG9 hG9
   obtain ⟨⟨ocls, odict, odata, oslots⟩, hol, hcl, nl, hdl⟩ := hl
   refine hG9 ?_; clear hG9 PG9
   simp only at hcl hdl
   subst hcl
   subst hdl
   have hol' := up _ _ hol
   have hl1 : hp.IsList l items := ⟨_, hol', rfl, nl, rfl⟩
   have hsls := sub_list_set
   have hslf := sub_list_frozenset
   have hne : (Value.type "list" == Value.type "dict") = false := by decide
   delta Builtin.«set.__init__» noKeywords Builtin.Frozenset.updateFrom
   generalize hPI : pyIter = PI
   wp_walk
   subst hPI
   refine wpAny_pyIter_list hl1 ?_
   refine wpAny_bind (wpAny_runValue ?_)
   have ltl : l < s.heap.objs.size := Heap.lt_size hol
   have hneI : l ≠ hp.objs.size := by rw [hsz1]; exact Nat.ne_of_lt (Nat.lt_succ_of_lt ltl)
   refine set_loop (P := P) (Walks.list (by simp [hh]) hp.objs.size l hneI items) (fun i h st => ?_) ?_ (by rw [hsz1]; exact Nat.ne_of_lt (Nat.lt_succ_self _)) (by simp only [PyProof.Rows.units_in1]; omega) hsz key _ 0 { s with heap := hp.push { cls := .type "list_iterator", data := .fields #[.ref l, .int 0 0] } } [] rfl (Nat.zero_le _) ⟨⟨_, Heap.get?_push_size _ rfl, rfl, rfl⟩, hl1.push _⟩ (setJ_nil (Heap.get?_push_of_some _ hS)) (Nat.le_refl _)
    (fun q => ⟨fun h => absurd h List.not_mem_nil, fun ⟨j, hj, _⟩ => absurd hj (Nat.not_lt_zero _)⟩) (fun i v hv => ?_) fun h' tk KS hJ hK hm => ?_
   ·refine hideG ?_; intro PG9 hG9
    obtain ⟨o, e, c, _⟩ := st.1
    refine hG9 ?_; clear hG9 PG9
    exact ⟨o, e, by rw [c]; decide⟩
   ·rw [hsz1]
    simp only [List.mem_cons, List.not_mem_nil, or_false, not_or]
    exact ⟨Nat.ne_of_lt (Nat.lt_succ_self _), Nat.ne_of_gt ltl⟩
   ·refine hideG ?_; intro PG9 hG9
    obtain ⟨b, e, ⟨o, its, n, ho, r⟩, pb⟩ := hT i v hv
    refine hG9 ?_; clear hG9 PG9
    exact ⟨b, e, ⟨o, its, n, Heap.get?_push_of_some _ (up _ _ ho), r⟩, pb⟩
   ·skip
    refine wpAny_pure ?_
    refine wpAny_pure ⟨rfl, h', tk, KS, rfl, hJ, hK, fun b o e => ?_⟩
    exact hm b o (lt b o e) (by rw [hsz1]; exact Nat.ne_of_lt (Nat.lt_succ_of_lt (Heap.lt_size e))) (Heap.get?_push_of_some _ (up b o e))
  ·refine hideG ?_; intro PG9 hG9
   obtain ⟨rfl, h', tk, KS, rfl, hJ, hK, hk'⟩ := hr₂
   refine hG9 ?_; clear hG9 PG9
   repeat (any_goals (first | assumption | wp_step))
   exact h _ _ _ hJ hK hk'
end
end
section
set_option tactic.hygienic false
open PySem PySem.W PyProof.Rows PySem.Calls PySem.Spec
set_option maxHeartbeats 1000000
theorem items_of {w : World} {us : List Value} {ns : List Int} (h : IntsAre us ns) : ItemsAre (intKind PW w) ns us := by
 induction h with
 | nil => exact .nil
 | cons n t _ ih => exact .cons (by simp [intKind, Value.isInt]) ih
noncomputable def SetL (w : World) (own : List (Addr × Obj)) (S : Addr) (oS : Obj) (KS : List (List Int)) : Prop :=
 KS.Nodup /\ ∀ h : Heap, h.get? S = some oS -> (∀ p ∈ own, h.get? p.1 = some p.2) -> SetJ (fun b => ∃ o, (b, o) ∈ own) PW w h S KS
section
variable {w : World} {A : Around} {E : Value -> Shared -> Prop} {s : Shared} {h₀ : Heap} {L : Addr} {m : Str -> Option Value} {news : List (Addr × Obj)}
theorem set_T {D : Addr} {vs : List Value} {n : Nat} {own : List (Addr × Obj)} {Q : Value -> Shared -> Prop} (F : Fr h₀ L s.heap m) (N : News h₀ L s.heap news) (hh : A.handled = none) (hu : A.units + 100 < cLine) (hm : (D, PySem.W.listOf vs.toArray n) ∈ news) (key : Nat -> List Int) (hown : ∀ p ∈ own, p ∈ news)
  (hT : ∀ (i : Nat) v, vs[i]? = some v -> ∃ b us k, v = .ref b /\ (b, ({ cls := .type "tuple", data := .seq us.toArray k } : Obj)) ∈ own /\ IntsAre us (key i)) (hsz : vs.length <= 18)
  (h : ∀ S oS h' tk KS, SetL w own S oS KS -> (∀ q, q ∈ KS ↔ ∃ j, j < vs.length /\ key j = q) -> Fr h₀ L h' m -> News h₀ L h' ((S, oS) :: news) -> AllNe S news -> Q (.ref S) { s with heap := h', toks := tk }) :
  wpAny (model PW w) A (call (.type "set") [.ref D]) Q E s := by
 refine call_set_T (P := fun b => ∃ o, (b, o) ∈ own) key hh hu ⟨_, (N _ hm).1, rfl, n, rfl⟩ (fun i v e => ?_) (by simpa using hsz) fun h' tk KS J hK keep => ?_
 ·refine hideG ?_; intro PG9 hG9
  obtain ⟨b, us, k, e1, e2, e3⟩ := hT i v (by simpa using e)
  refine hG9 ?_; clear hG9 PG9
  exact ⟨b, e1, ⟨_, _, k, (N _ (hown _ e2)).1, rfl, rfl, by simpa using items_of e3⟩, _, e2⟩
 ·have J' := J
  refine hideG ?_; intro PG9 hG9
  obtain ⟨⟨oS, es, ep, t, Z, ho, r⟩, nd⟩ := J'
  refine hG9 ?_; clear hG9 PG9
  have z := okN (F) N (N.grown keep) rfl (Heap.get?_none_of_le (Nat.le_refl _)) ho
  refine h _ oS h' tk KS ⟨nd, fun h2 hS hO => J.stay (fun o q => by rw [ho] at q; cases q; exact hS) fun b o ks pb x q => ?_⟩ (fun q => by rw [hK]; simp) (F.keeps keep) z.1 z.2
  obtain ⟨o', hb⟩ := pb
  have := keep _ _ (N _ (hown _ hb)).1
  rw [this] at q
  cases q
  exact hO _ hb
theorem set_len {S : Addr} {oS : Obj} {own : List (Addr × Obj)} {KS : List (List Int)} {Q : Value -> Shared -> Prop} (N : News h₀ L s.heap news) (J : SetL w own S oS KS) (hm : (S, oS) ∈ news) (hown : ∀ p ∈ own, p ∈ news) (hz : KS.length <= 18)
  (h : ∀ v t tk, v = (KS.length : Int) -> Q (.int v t) { s with toks := tk }) : wpAny (model PW w) A (call (.builtin "len") [.ref S]) Q E s :=
 len_set_T (J.2 _ (N _ hm).1 fun p hp => (N _ (hown _ hp)).1) hz (h _ _ _ rfl)
end
theorem KS_le {KS : List (List Int)} {n : Nat} {key : Nat -> List Int} (hn : KS.Nodup) (h : ∀ q, q ∈ KS ↔ ∃ j, j < n /\ key j = q) : KS.length <= n := by
 have key2 : ∀ {l r : List (List Int)}, l.Nodup -> (∀ x ∈ l, x ∈ r) -> l.length <= r.length := by
  intro l
  induction l with
  | nil => intro r _ _; exact Nat.zero_le _
  | cons a l ih =>
   intro r hn hs
   obtain ⟨h1, h2⟩ := List.nodup_cons.mp hn
   have := ih (r := r.erase a) h2 fun x hx => (List.mem_erase_of_ne (fun q : x = a => h1 (by rw [<- q]; exact hx))).mpr (hs x (.tail _ hx))
   have ha := hs a (.head _)
   rw [List.length_erase_of_mem ha] at this
   have := List.length_pos_of_mem ha
   rw [List.length_cons]
   omega
 have := key2 (r := (List.range n).map key) hn fun q hq => by
  obtain ⟨j, hj, e⟩ := (h q).mp hq
  exact List.mem_map.mpr ⟨j, List.mem_range.mpr hj, e⟩
 rw [List.length_map, List.length_range] at this
 exact this
end
section
open PySem PySem.W PyProof.Rows PySem.Calls PySem.Spec
noncomputable def faultD (f : Int) : Dat := .tuple [.str "fault", .int f]
noncomputable def WorkOk (w : World) (mean : ExcName -> Option Value) (mg mb : Str -> Option Value) (Fa : Addr) (kn : List (Addr × Obj)) (P : Dat -> Prop) (Flt : Int -> Prop) : Prop :=
 ∀ (A' : Around) (base' : Heap) (outer' : List Env) (s' : Shared) (R' : Result -> Shared -> Prop), Below A' base' outer' s'.heap -> Gd w mean mg mb base' -> A'.handled = none -> A'.depth < 322 -> A'.units + 2900 < cLine -> Kn base' outer' s'.heap kn ->
  (∀ h' tk' v d out, P d -> Kp [] s'.heap h' -> DatIn out v d -> (∀ p ∈ out, h'.get? p.1 = some p.2 /\ s'.heap.get? p.1 = none) -> R' (.ok (.ret v)) { s' with heap := h', toks := tk' }) ->
  (∀ h' tk' e f t, Flt f -> FlyD base' outer' e (.int f t) ([] ++ fr outer') s'.heap h' -> R' (.error (.ref e)) { s' with heap := h', toks := tk' }) ->
  codeS (model PW w) A' (.call (.ref Fa) ⟨[], []⟩) R' s'
theorem TabOk.mono {ps : Array Value} {n k : Nat} (h : TabOk ps n) (hk : n <= k) : TabOk ps k := ⟨h.tri, fun p hp => h.no p (Nat.le_trans hk hp)⟩
theorem okCs {g h h' : Heap} {L : Addr} {m : Str -> Option Value} {news new : List (Addr × Obj)} {env : Env} (F : Fr g L h m) (N : News g L h news) (hf : env.frame = some L) (k : KpU [env] h h') (hD : ∀ p ∈ new, h'.get? p.1 = some p.2 /\ h.get? p.1 = none) : Fr g L h' m /\ News g L h' (new ++ news) /\ ∀ p ∈ new, AllNe p.1 news :=
 have z := okC F N hf k
 have z2 := okNs F N z.2 rfl hD
 ⟨z.1, z2.1, z2.2⟩
theorem kqd_mks (ms : List Mk) : kqdOk 8 (mksD ms) = true := by
 unfold mksD
 simp only [kqdOk, List.all_map, List.all_eq_true]
 intro x _
 rfl
theorem kqd_row (r : AnR) : kqdOk 7 (rowD r) = true := by
 unfold rowD
 simp only [kqdOk, List.all_map, List.all_eq_true]
 intro x _
 cases x <;> rfl
theorem kqd_rows (rs : List AnR) : kqdOk 8 (rowsD rs) = true := by
 unfold rowsD
 simp only [kqdOk, List.all_map, List.all_eq_true]
 intro x _
 exact kqd_row x
theorem er_no {α : Type} {x : Except Int α} {f : Int} {v : α} (h : x = .error f) (k : x = .ok v) : False := by rw [h] at k; cases k
noncomputable abbrev tupN (vs : List Value) (n : Nat) : Obj := { cls := .type "tuple", data := .seq vs.toArray n }
theorem d_int {own : List (Addr × Obj)} {v : Value} {i : Int} (h : DatIn own v (.int i)) : ∃ t, v = .int i t := by cases h; exact ⟨_, rfl⟩
theorem d_tup {own : List (Addr × Obj)} {v : Value} {ds : List Dat} (h : DatIn own v (.tuple ds)) : ∃ T vs n, v = .ref T /\ (T, tupN vs n) ∈ own /\ DatAll own vs ds := by
 cases h with
 | tuple hm ha => exact ⟨_, _, _, rfl, hm, ha⟩
theorem d_cons {own : List (Addr × Obj)} {vs : List Value} {d : Dat} {ds : List Dat} (h : DatAll own vs (d :: ds)) : ∃ v r, vs = v :: r /\ DatIn own v d /\ DatAll own r ds := by
 cases h with
 | cons a r => exact ⟨_, _, rfl, a, r⟩
theorem d_nil {own : List (Addr × Obj)} {vs : List Value} (h : DatAll own vs []) : vs = [] := by cases h; rfl
theorem dat_at {own : List (Addr × Obj)} : ∀ {ds : List Dat} {vs : List Value}, DatAll own vs ds -> ∀ (i : Nat) v d, vs[i]? = some v -> ds[i]? = some d -> DatIn own v d := by
 intro ds
 induction ds with
 | nil => intro vs _ i v d _ k; cases k
 | cons d0 ds ih =>
  intro vs h i v d hv k
  refine hideG ?_; intro PG9 hG9
  obtain ⟨a, r, rfl, h1, h⟩ := d_cons h
  refine hG9 ?_; clear hG9 PG9
  cases i with
  | zero => cases hv; cases k; exact h1
  | succ i => exact ih h i v d hv k
theorem pt_open {own : List (Addr × Obj)} {v : Value} {x y : Int} (h : DatIn own v (ptD x y)) : ∃ P n t1 t2, v = .ref P /\ (P, tupN [.int x t1, .int y t2] n) ∈ own := by
 refine hideG ?_; intro PG hG
 refine hideG ?_; intro PG9 hG9
 obtain ⟨T, vs, n, e, hm, h⟩ := d_tup h
 refine hG9 ?_; clear hG9 PG9
 refine hideG ?_; intro PG9 hG9
 obtain ⟨a, r, e1, h1, h⟩ := d_cons h
 refine hG9 ?_; clear hG9 PG9
 refine hideG ?_; intro PG9 hG9
 obtain ⟨b, r2, e2, h2, h⟩ := d_cons h
 refine hG9 ?_; clear hG9 PG9
 obtain ⟨t1, e3⟩ := d_int h1
 obtain ⟨t2, e4⟩ := d_int h2
 exact hG ⟨T, n, t1, t2, e, by rw [<- e3, <- e4, <- d_nil h, <- e2, <- e1]; exact hm⟩
theorem mk_open {own : List (Addr × Obj)} {v : Value} {m : Mk} (h : DatIn own v (mkD m)) : ∃ T n t1 t2 P n2 t3 t4, v = .ref T /\ (T, tupN [.int m.g t1, .int m.c t2, .ref P] n) ∈ own /\ (P, tupN [.int m.x t3, .int m.y t4] n2) ∈ own := by
 refine hideG ?_; intro PG hG
 refine hideG ?_; intro PG9 hG9
 obtain ⟨T, vs, n, e, hm, h⟩ := d_tup h
 refine hG9 ?_; clear hG9 PG9
 refine hideG ?_; intro PG9 hG9
 obtain ⟨a, r, e1, h1, h⟩ := d_cons h
 refine hG9 ?_; clear hG9 PG9
 refine hideG ?_; intro PG9 hG9
 obtain ⟨b, r2, e2, h2, h⟩ := d_cons h
 refine hG9 ?_; clear hG9 PG9
 refine hideG ?_; intro PG9 hG9
 obtain ⟨c, r3, e5, h3, h⟩ := d_cons h
 refine hG9 ?_; clear hG9 PG9
 obtain ⟨t1, e3⟩ := d_int h1
 obtain ⟨t2, e4⟩ := d_int h2
 refine hideG ?_; intro PG9 hG9
 obtain ⟨P, n2, t3, t4, e6, hp⟩ := pt_open h3
 refine hG9 ?_; clear hG9 PG9
 exact hG ⟨T, n, t1, t2, P, n2, t3, t4, e, by rw [<- e3, <- e4, <- e6, <- d_nil h, <- e5, <- e2, <- e1]; exact hm, hp⟩
theorem mks_open {own : List (Addr × Obj)} {D : Addr} {ms : List Mk} (h : DatIn own (.ref D) (mksD ms)) : ∃ vs n, (D, tupN vs n) ∈ own /\ vs.length = ms.length /\ ∀ (i : Nat) v m, vs[i]? = some v -> ms[i]? = some m -> ∃ T n t1 t2 P n2 t3 t4, v = .ref T /\ (T, tupN [.int m.g t1, .int m.c t2, .ref P] n) ∈ own /\ (P, tupN [.int m.x t3, .int m.y t4] n2) ∈ own := by
 cases h with
 | tuple hm ha =>
  refine ⟨_, _, hm, by have := ha.length; simpa using this, fun i v m hi hj => ?_⟩
  exact mk_open (dat_at ha i v (mkD m) hi (by rw [List.getElem?_map, hj, Option.map_some]))
noncomputable def KvOk (w : World) (own : List (Addr × Obj)) (kvs : List (Int × Value)) : Prop := ∀ q ∈ kvs, (0 <= q.1 /\ q.1 < 9) /\ ∃ T tc c va x y, q.2 = .ref T /\ (T, tupO [.int c tc, va]) ∈ own /\ (0 <= c /\ c < 4) /\ AncIn w own va (x, y) /\ ok16 x /\ ok16 y
theorem KvOk.nil {w : World} {own : List (Addr × Obj)} : KvOk w own [] := fun _ h => absurd h List.not_mem_nil
theorem stored_mem {kvs : List (Int × Value)} {k : Int} {v : Value} {q : Int × Value} (h : q ∈ stored kvs k v) : q = (k, v) \/ q ∈ kvs := by
 unfold stored at h
 split at h
 ·obtain ⟨p, hp, rfl⟩ := List.mem_map.mp h
  split
  ·rename_i e
   exact .inl (by rw [e])
  ·exact .inr hp
 ·rcases List.mem_append.mp h with h | h
  ·exact .inr h
  ·exact .inl (List.mem_singleton.mp h)
theorem stored_keys {kvs : List (Int × Value)} {k : Int} {v : Value} (h : (kvs.map (·.1)).Nodup) : ((stored kvs k v).map (·.1)).Nodup /\ (stored kvs k v).length <= kvs.length + 1 := by
 unfold stored
 split
 ·refine ⟨?_, by rw [List.length_map]; omega⟩
  rw [List.map_map]
  have : ((fun x : Int × Value => x.fst) ∘ fun (p : Int × Value) => if p.1 = k then (p.1, v) else p) = fun x => x.fst := by
   funext p
   simp only [Function.comp_apply]
   split <;> rfl
  rw [this]; exact h
 ·rename_i q
  refine ⟨?_, by rw [List.length_append]; exact Nat.le_refl _⟩
  rw [List.map_append]
  refine List.nodup_append.mpr ⟨h, by simp, fun a ha b hb e => q ?_⟩
  simp only [List.map_cons, List.map_nil, List.mem_singleton] at hb
  obtain ⟨p, hp, e2⟩ := List.mem_map.mp ha
  exact List.any_eq_true.mpr ⟨p, hp, by rw [decide_eq_true_eq, e2, e, hb]⟩
theorem KvOk.stored {w : World} {own own' : List (Addr × Obj)} {kvs : List (Int × Value)} {k c x y : Int} {T : Addr} {tc : Tok} {va : Value} (h : KvOk w own kvs) (hs : ∀ q ∈ own, q ∈ own') (hk : 0 <= k /\ k < 9) (hT : (T, tupO [.int c tc, va]) ∈ own') (hc : 0 <= c /\ c < 4) (ha : AncIn w own' va (x, y)) (ox : ok16 x) (oy : ok16 y) : KvOk w own' (PySem.stored kvs k (.ref T)) := fun q hq => by
 rcases stored_mem hq with rfl | hq
 ·exact ⟨hk, T, tc, c, va, x, y, rfl, hT, hc, ha, ox, oy⟩
 ·refine hideG ?_; intro PG9 hG9
  obtain ⟨a, T', tc', c', va', x', y', e, h1, h2, h3, h4, h5⟩ := h q hq
  refine hG9 ?_; clear hG9 PG9
  exact ⟨a, T', tc', c', va', x', y', e, hs _ h1, h2, h3.mono hs, h4, h5⟩
noncomputable def RowOk (r : AnR) : Prop := ∀ d ∈ r, ∀ x y, d = some (x, y) -> ok16 x /\ ok16 y
theorem RowOk.nil : RowOk [] := fun _ h => absurd h List.not_mem_nil
theorem RowOk.snoc {r : AnR} {d : Option (Int × Int)} (h : RowOk r) (hd : ∀ x y, d = some (x, y) -> ok16 x /\ ok16 y) : RowOk (r ++ [d]) := fun e he => (List.mem_append.mp he).elim (h e) fun q => by rw [List.mem_singleton.mp q]; exact hd
theorem all_of {P : Mk -> Prop} : ∀ {l : List Int}, (∀ k ∈ l, ∃ m : Mk, m.g = k /\ P m) -> ∃ ms : List Mk, ms.map (·.g) = l /\ ∀ m ∈ ms, P m
 | [], _ => ⟨[], rfl, fun _ h => absurd h List.not_mem_nil⟩
 | k :: l, h => by
  obtain ⟨m, e, hp⟩ := h k (.head _)
  obtain ⟨ms, e2, hp2⟩ := all_of fun k' hk' => h k' (.tail _ hk')
  exact ⟨m :: ms, by rw [List.map_cons, e, e2], fun m' hm' => by
   rcases List.mem_cons.mp hm' with rfl | hm'
   ·exact hp
   ·exact hp2 m' hm'⟩
theorem valueAt_mem : ∀ {kvs : List (Int × Value)}, (kvs.map (·.1)).Nodup -> ∀ {q : Int × Value}, q ∈ kvs -> valueAt kvs q.1 = some q.2
 | [], _, _, h => absurd h List.not_mem_nil
 | p :: kvs, hn, q, hq => by
  rw [List.map_cons] at hn
  obtain ⟨h1, h2⟩ := List.nodup_cons.mp hn
  unfold valueAt
  rw [List.find?_cons]
  rcases List.mem_cons.mp hq with rfl | hq'
  ·simp
  ·have : p.1 ≠ q.1 := fun e => h1 (by rw [e]; exact List.mem_map.mpr ⟨q, hq', rfl⟩)
   have e2 : decide (p.1 = q.1) = false := decide_eq_false this
   rw [e2]
   exact valueAt_mem h2 hq'
theorem sorted_of (l : List Int) : ∃ l' : List Int, l'.Perm l /\ l'.Pairwise (· <= ·) := by
 refine ⟨l.mergeSort (fun a b => decide (a <= b)), List.mergeSort_perm l _, ?_⟩
 have := List.pairwise_mergeSort (le := fun a b : Int => decide (a <= b)) (fun a b c h k => by simp only [decide_eq_true_eq] at *; omega) (fun a b => by simp only [Bool.or_eq_true, decide_eq_true_eq]; omega) l
 exact this.imp fun h => by simpa using h
noncomputable def MkOk (m : Mk) : Prop := ok16 m.x /\ ok16 m.y /\ 0 <= m.c /\ m.c < 4 /\ 0 <= m.g /\ m.g < 9
theorem marks_of {w : World} {own : List (Addr × Obj)} {kvs : List (Int × Value)} (h : KvOk w own kvs) (hn : (kvs.map (·.1)).Nodup) : ∃ ms, MarksAre w own kvs ms /\ ms.length = kvs.length /\ (∀ m ∈ ms, MkOk m) /\ (ms.map (·.g)).Nodup := by
 obtain ⟨l, hp, hs⟩ := sorted_of (kvs.map (·.1))
 obtain ⟨ms, e, hm⟩ := all_of (l := l) (P := fun m => MkOk m /\ ∃ T tc v, valueAt kvs m.g = some (.ref T) /\ (T, tupO [.int m.c tc, v]) ∈ own /\ AncIn w own v (m.x, m.y)) fun k hk => by
  obtain ⟨q, hq, rfl⟩ := List.mem_map.mp (hp.mem_iff.mp hk)
  refine hideG ?_; intro PG9 hG9
  obtain ⟨⟨a1, a2⟩, T, tc, c, va, x, y, e1, e2, ⟨e3, e3'⟩, e4, e5, e6⟩ := h q hq
  refine hG9 ?_; clear hG9 PG9
  exact ⟨⟨q.1, c, x, y⟩, rfl, ⟨e5, e6, e3, e3', a1, a2⟩, T, tc, va, by rw [valueAt_mem hn hq, e1], e2, e4⟩
 have hl : ms.length = kvs.length := by
  have := hp.length_eq
  rw [<- e, List.length_map, List.length_map] at this
  exact this
 exact ⟨ms, ⟨by rw [e]; exact hp, by rw [e]; exact hs, fun m hm' => (hm m hm').2⟩, hl, fun m hm' => (hm m hm').1, by rw [e]; exact hp.nodup_iff.mpr hn⟩
noncomputable def octB (ns : List Int) : List UInt8 := ns.map fun n => n.toNat.toUInt8
theorem oct7 (k : Nat) : Oct (List.replicate k [7]).flatten := fun n hn => by
 obtain ⟨l, hl, hn⟩ := List.mem_flatten.mp hn
 rw [(List.mem_replicate.mp hl).2] at hn
 rw [List.mem_singleton.mp hn]
 exact ⟨by decide, by decide⟩
theorem octB_len (ns : List Int) : (octB ns).length = ns.length := List.length_map ..
theorem len7 (k : Nat) : (List.replicate k [(7 : Int)]).flatten.length = k := by
 induction k with
 | zero => rfl
 | succ k ih => rw [List.replicate_succ, List.flatten_cons, List.length_append, ih]; simp; omega
theorem len3 {v : Int} (h : v < 3) : v.toNat <= 2 := by omega
noncomputable def pts (rs : List AnR) : List (Int × Int) := rs.flatMap fun r => r.filterMap id
noncomputable def pD (p : Int × Int) : Dat := ptD p.1 p.2
theorem pts_mem {rs : List AnR} {p : Int × Int} : p ∈ pts rs ↔ ∃ r ∈ rs, some p ∈ r := by
 unfold pts
 simp [List.mem_flatMap, List.mem_filterMap]
theorem row_pts {own : List (Addr × Obj)} : ∀ {r : AnR} {us : List Value}, DatAll own us (r.map ptO) -> DatAll own (us.filter notN) ((r.filterMap id).map pD) /\ (∀ u ∈ us, u = .none \/ ∃ P, u = .ref P) /\ us.length = r.length
 | [], _, h => by
  cases h
  exact ⟨.nil, fun _ h => absurd h List.not_mem_nil, rfl⟩
 | d :: r, _, h => by
  rw [List.map_cons] at h
  cases h with
  | cons a b =>
   obtain ⟨i1, i2, i3⟩ := row_pts b
   cases d with
   | none =>
    cases a
    refine ⟨i1, fun u hu => ?_, by rw [List.length_cons, List.length_cons, i3]⟩
    rcases List.mem_cons.mp hu with rfl | hu
    ·exact .inl rfl
    ·exact i2 u hu
   | some p =>
    have a' := a
    refine hideG ?_; intro PG9 hG9
    obtain ⟨P, n, t1, t2, rfl, hp⟩ := pt_open a
    refine hG9 ?_; clear hG9 PG9
    refine ⟨?_, fun u hu => ?_, by rw [List.length_cons, List.length_cons, i3]⟩
    ·show DatAll own (Value.ref P :: _) (pD p :: _)
     exact .cons a' i1
    ·rcases List.mem_cons.mp hu with rfl | hu
     ·exact .inr ⟨P, rfl⟩
     ·exact i2 u hu
theorem rows_pts {own : List (Addr × Obj)} {k : Nat} : ∀ {rs : List AnR} {vs : List Value}, (∀ r ∈ rs, r.length <= k) -> DatAll own vs (rs.map rowD) -> ∃ rws : List (List Value), vs.length = rws.length /\ rws.length = rs.length /\ DatAll own (kept rws) ((pts rs).map pD) /\ (∀ us ∈ rws, ∀ u ∈ us, u = .none \/ ∃ P, u = .ref P) /\ (∀ us ∈ rws, us.length <= k) /\
  ∀ (i : Nat) v us, vs[i]? = some v -> rws[i]? = some us -> ∃ Ti n, v = .ref Ti /\ (Ti, tupN us n) ∈ own
 | [], _, _, h => by
  cases h
  exact ⟨[], rfl, rfl, .nil, fun _ h => absurd h List.not_mem_nil, fun _ h => absurd h List.not_mem_nil, fun i v us h => by simp at h⟩
 | r :: rs, _, hk, h => by
  rw [List.map_cons] at h
  cases h with
  | cons a b =>
   refine hideG ?_; intro PG9 hG9
   obtain ⟨rws, i1, i2, i3, i4, i5, i6⟩ := rows_pts (fun r hr => hk r (.tail _ hr)) b
   refine hG9 ?_; clear hG9 PG9
   unfold rowD at a
   cases a with
   | @tuple T us n _ hm ha =>
    obtain ⟨j1, j2, j3⟩ := row_pts ha
    refine ⟨us :: rws, by rw [List.length_cons, List.length_cons, i1], by rw [List.length_cons, List.length_cons, i2], ?_, fun us' hu => ?_, fun us' hu => ?_, fun i v us' hv hu => ?_⟩
    ·show DatAll own (us.filter notN ++ kept rws) ((r.filterMap id ++ pts rs).map pD)
     rw [List.map_append]
     exact j1.append i3
    ·rcases List.mem_cons.mp hu with rfl | hu
     ·exact j2
     ·exact i4 us' hu
    ·rcases List.mem_cons.mp hu with rfl | hu
     ·rw [j3]; exact hk r (.head _)
     ·exact i5 us' hu
    ·cases i with
     | zero => simp at hv hu; subst hv; subst hu; exact ⟨T, n, rfl, hm⟩
     | succ i => exact i6 i v us' (by simpa using hv) (by simpa using hu)
theorem pts_keys {own : List (Addr × Obj)} {vs : List Value} {ps : List (Int × Int)} (h : DatAll own vs (ps.map pD)) (i : Nat) (v : Value) (hv : vs[i]? = some v) : ∃ b us k, v = .ref b /\ (b, ({ cls := .type "tuple", data := .seq us.toArray k } : Obj)) ∈ own /\ IntsAre us [(ps.getD i (0, 0)).1, (ps.getD i (0, 0)).2] := by
 have hl := h.length
 rw [List.length_map] at hl
 have hi := (List.getElem?_eq_some_iff.mp hv).1
 obtain ⟨p, hp⟩ : ∃ p, ps[i]? = some p := ⟨ps[i]'(by omega), List.getElem?_eq_getElem (by omega)⟩
 refine hideG ?_; intro PG9 hG9
 obtain ⟨P, n, t1, t2, rfl, hm⟩ := pt_open (dat_at h i v (pD p) hv (by rw [List.getElem?_map, hp, Option.map_some]))
 refine hG9 ?_; clear hG9 PG9
 have e : ps.getD i (0, 0) = p := by rw [List.getD_eq_getElem?_getD, hp]; rfl
 rw [e]
 exact ⟨P, _, n, rfl, hm, .cons _ _ (.cons _ _ .nil)⟩
theorem keys_pts {ps : List (Int × Int)} {n : Nat} (hn : n = ps.length) {KS : List (List Int)} (h : ∀ q, q ∈ KS ↔ ∃ j, j < n /\ [(ps.getD j (0, 0)).1, (ps.getD j (0, 0)).2] = q) : ∀ q, q ∈ KS ↔ ∃ p ∈ ps, q = [p.1, p.2] := fun q => by
 subst hn
 rw [h]
 constructor
 ·rintro ⟨j, hj, rfl⟩
  refine ⟨ps.getD j (0, 0), ?_, rfl⟩
  rw [List.getD_eq_getElem?_getD, List.getElem?_eq_getElem hj]
  exact List.getElem_mem hj
 ·rintro ⟨p, hp, rfl⟩
  obtain ⟨j, hj, e⟩ := List.getElem_of_mem hp
  refine ⟨j, hj, ?_⟩
  rw [List.getD_eq_getElem?_getD, List.getElem?_eq_getElem hj, e]
  rfl
theorem war_count {rs : List AnR} {n : Nat} {KS : List (List Int)} (hW : Wd n rs) (hok : ∀ r ∈ rs, ∀ x y, some (x, y) ∈ r -> ok16 x /\ ok16 y) (hk : KS.Nodup) (h : ∀ q, q ∈ KS ↔ ∃ p ∈ pts rs, q = [p.1, p.2]) : (warB rs).length = 2 + 2 * (n * rs.length) + 6 * KS.length := by
 rw [warB_len, prt_lenW hW]
 unfold warS
 rw [laid_count hk (fun b hb => ?_) fun q => ?_]
 ·refine hideG ?_; intro PG9 hG9
  obtain ⟨r, hr, x, y, hm, rfl⟩ := prt_mem.mp hb
  refine hG9 ?_; clear hG9 PG9
  obtain ⟨h1, h2⟩ := hok r hr x y hm
  exact ⟨x, y, h1, h2, rfl⟩
 ·rw [h]
  constructor
  ·rintro ⟨p, hp, rfl⟩
   obtain ⟨r, hr, hm⟩ := pts_mem.mp hp
   obtain ⟨h1, h2⟩ := hok r hr p.1 p.2 hm
   exact ⟨p.1, p.2, h1, h2, rfl, prt_mem.mpr ⟨r, hr, p.1, p.2, hm, rfl⟩⟩
  ·intro hz09
   refine hideG ?_; intro PG9 hG9
   obtain ⟨x, y, h1, h2, rfl, hm⟩ := hz09
   refine hG9 ?_; clear hG9 PG9
   refine hideG ?_; intro PG9 hG9
   obtain ⟨r, hr, x', y', hm, e⟩ := prt_mem.mp hm
   refine hG9 ?_; clear hG9 PG9
   obtain ⟨h3, h4⟩ := hok r hr x' y' hm
   obtain ⟨rfl, rfl⟩ := anc_inj h1 h2 h3 h4 e
   exact ⟨(x, y), pts_mem.mpr ⟨r, hr, hm⟩, rfl⟩
theorem wm_count {ms : List Mk} {KS : List (List Int)} (hok : ∀ m ∈ ms, ok16 m.x /\ ok16 m.y) (hk : KS.Nodup) (h : ∀ q, q ∈ KS ↔ ∃ p ∈ ms.map fun m => (m.x, m.y), q = [p.1, p.2]) : (wmB ms).length = 2 + 4 * ms.length + 6 * KS.length := by
 rw [wmB_len]
 unfold wmS
 rw [laid_count hk (fun b hb => ?_) fun q => ?_]
 ·obtain ⟨m, hm, e⟩ := List.mem_map.mp hb
  cases e
  obtain ⟨h1, h2⟩ := hok m hm
  exact ⟨m.x, m.y, h1, h2, rfl⟩
 ·rw [h]
  constructor
  ·rintro ⟨p, hp, rfl⟩
   obtain ⟨m, hm, rfl⟩ := List.mem_map.mp hp
   obtain ⟨h1, h2⟩ := hok m hm
   exact ⟨m.x, m.y, h1, h2, rfl, List.mem_map.mpr ⟨m, hm, rfl⟩⟩
  ·intro hz09
   refine hideG ?_; intro PG9 hG9
   obtain ⟨x, y, h1, h2, rfl, hm0⟩ := hz09
   refine hG9 ?_; clear hG9 PG9
   obtain ⟨m, hm, e⟩ := List.mem_map.mp hm0
   obtain ⟨h3, h4⟩ := hok m hm
   obtain ⟨rfl, rfl⟩ := anc_inj h3 h4 h1 h2 (Option.some.inj e)
   exact ⟨(m.x, m.y), List.mem_map.mpr ⟨m, hm, rfl⟩, rfl⟩
theorem er_eq {α : Type} {x : Except Int α} {f e : Int} (h : x = .error f) (k : x = .error e) : f = e := by rw [h] at k; cases k; rfl
theorem ok_eq {α : Type} {x : Except Int α} {a b : α} (h : x = .ok a) (k : x = .ok b) : a = b := by rw [h] at k; cases k; rfl
theorem kqd_fault (f : Int) : kqdOk 8 (faultD f) = true := by
 unfold faultD
 simp only [kqdOk, List.all_cons, List.all_nil, Bool.and_true]
 decide +kernel
theorem kqd_pt (x y : Int) : kqdOk 8 (.tuple [.int x, .int y]) = true := by simp [kqdOk]
theorem foldE_mem {α : Type} {f : Nat -> Except Int α} : ∀ {n : Nat} {xs : List α}, foldE f n = .ok xs -> ∀ x ∈ xs, ∃ i, f i = .ok x
 | 0, xs, h, x, hx => by cases h; exact absurd hx List.not_mem_nil
 | n + 1, xs, h, x, hx => by
  unfold foldE at h
  split at h
  ·cases h
  ·rename_i ys hy
   split at h
   ·cases h
   ·rename_i z hz
    cases h
    rcases List.mem_append.mp hx with hx | hx
    ·exact foldE_mem hy x hx
    ·rw [List.mem_singleton.mp hx]; exact ⟨n, hz⟩
theorem u16v_lt (l : List UInt8) (a : Int) : u16v l a < 65536 := by
 unfold u16v
 have h1 : (l.getD a.toNat 0).toNat < 256 := UInt8.toNat_lt _
 have h2 : (l.getD (a.toNat + 1) 0).toNat < 256 := UInt8.toNat_lt _
 omega
theorem rd_bn {l : List UInt8} {a c cl : Int} {rs : List AnR} (h : rdRows l a c cl = .ok rs) : rs.length <= 100000 := by
 unfold rdRows at h
 split at h
 ·cases h
 ·split at h
  ·cases h
  ·have := foldE_len h
   have := u16v_lt l a
   omega
theorem rd_pr {l : List UInt8} {a c cl : Int} {rs : List AnR} (h : rdRows l a c cl = .ok rs) (hc : cl <= 8) : ∀ r ∈ rs, r.length <= 8 := fun r hr => by
 unfold rdRows at h
 split at h
 ·cases h
 ·split at h
  ·cases h
  ·obtain ⟨i, hi⟩ := foldE_mem h r hr
   unfold rdRow at hi
   split at hi
   ·cases hi
   ·have := foldE_len hi
    omega
theorem kqd_read {d : Dat} {x : Except Int (List Mk)} (h : (∃ ms, x = .ok ms /\ d = mksD ms) \/ ∃ f, x = .error f /\ d = faultD f) : kqdOk 8 d = true := by
 rcases h with ⟨ms, _, rfl⟩ | ⟨f, _, rfl⟩
 ·exact kqd_mks ms
 ·exact kqd_fault f
theorem kqd_readR {d : Dat} {x : Except Int (List AnR)} (h : (∃ ms, x = .ok ms /\ d = rowsD ms) \/ ∃ f, x = .error f /\ d = faultD f) : kqdOk 8 d = true := by
 rcases h with ⟨ms, _, rfl⟩ | ⟨f, _, rfl⟩
 ·exact kqd_rows ms
 ·exact kqd_fault f
theorem read_eq {α : Type} {x : Except Int α} {D : α -> Dat} {d e : Dat} (h : (∃ ms, x = .ok ms /\ d = D ms) \/ ∃ f, x = .error f /\ d = faultD f) (k : (∃ ms, x = .ok ms /\ e = D ms) \/ ∃ f, x = .error f /\ e = faultD f) : d = e := by
 rcases h with ⟨ms, h1, rfl⟩ | ⟨f, h1, rfl⟩
 ·rcases k with ⟨ms', h2, rfl⟩ | ⟨f, h2, rfl⟩
  ·rw [ok_eq h1 h2]
  ·exact (er_no h2 h1).elim
 ·rcases k with ⟨ms', h2, rfl⟩ | ⟨f', h2, rfl⟩
  ·exact (er_no h1 h2).elim
  ·rw [er_eq h1 h2]
theorem pts_le {rs : List AnR} (hn : rs.length <= 3) (h8 : ∀ r ∈ rs, r.length <= 3) : (pts rs).length <= 9 := by
 have key : ∀ {l : List AnR}, (∀ r ∈ l, r.length <= 3) -> (pts l).length <= 3 * l.length := by
  intro l
  induction l with
  | nil => intro _; exact Nat.le_refl _
  | cons r l ih =>
   intro h
   have i1 := ih fun r hr => h r (.tail _ hr)
   have i2 := h r (.head _)
   show ((r.filterMap id) ++ pts l).length <= _
   have i3 : (r.filterMap id).length <= r.length := List.length_filterMap_le _ _
   rw [List.length_append, List.length_cons]
   omega
 exact Nat.le_trans (key h8) (by omega)
theorem oth_bnd {k : Nat} : -1000000 <= [32768, -32769, (0 : Int)].getD k 0 /\ [32768, -32769, (0 : Int)].getD k 0 <= 1000000 := by
 match k with
 | 0 => decide
 | 1 => decide
 | 2 => decide
 | k + 3 => simp
theorem take358 (j : Nat) : (List.take j [3, 5, (8 : Int)]).Nodup /\ (List.take j [3, 5, (8 : Int)]).Pairwise (· <= ·) /\ (List.take j [3, 5, (8 : Int)]).length <= 3 :=
 ⟨List.Nodup.sublist (List.take_sublist _ _) (by decide), List.Pairwise.sublist (List.take_sublist _ _) (by decide), by rw [List.length_take]; exact Nat.min_le_right _ _⟩
end
section
set_option tactic.hygienic false
open PySem PySem.W PyProof.Rows PySem.Calls PySem.Spec
structure FreeOk {w : World} (c : Cf w) (z : Zs) (env : Env) (nms : List (Str × NameKind)) : Prop where
 fe : ∀ {z1 : Led} {m l s x pos v a o} {Q : Value -> Shared -> Prop}, At c { z with led := z1 } m l s -> nms.lookup x = some .free -> env.cells.lookup x = some a -> (a, o) ∈ l -> o.data = .cell (some v) -> (x == ("__debug__" : Str)) = false -> (x == ("__classdict__" : Str)) = false -> Q v s -> wpAny (model PW w) c.A (eval (.Name x pos) env) Q c.E s
section
variable {w : World} {c : Cf w} {z : Zs} {env : Env} {nms : List (Str × NameKind)} {m : Loc} {l : Led} {dn un : Nat}
theorem freeOk_X {nm : Str} {sc : Scope} {a : Addr} {cd : Value} {cl : List (Str × Addr)} (he : env = envX nm sc c.L a cd cl) (hk : sc.kind = .function) : FreeOk c z env sc.names := ⟨fun y hn hc hm ho hb hcd h => by
 subst he
 exact nameX_F y.nw hc (List.mem_append_left _ hm) ho h hk hn hb hcd⟩
theorem free_q {y : Str} {pos : Pos} {a : Addr} {o : Obj} {v : Value} {k : Value -> Loc -> Led -> Prop} (V : FreeOk c z env nms) (hn : nms.lookup y = some .free) (hc : env.cells.lookup y = some a) (hm : (a, o) ∈ l) (ho : o.data = .cell (some v)) (h : k v m l) (hd : autoParam ((y == ("__debug__" : Str)) = false) rA) (hcd : autoParam ((y == ("__classdict__" : Str)) = false) rA) : WQ c z (eval (.Name y pos) env) k m l :=
 .any fun s y1 => V.fe (z1 := z.led) y1 hn hc hm ho hd hcd ⟨m, l, y1, h⟩
theorem cut_q {a b : List Stmt} {K : Flow -> Loc -> Led -> Prop} (h : WQ c z (execs a env) (fun f m l => f = .next /\ WQ c z (execs b env) K m l) m l) : WQ c z (execs (a ++ b) env) K m l := by
 have e : execs (a ++ b) env = (execs a env >>= fun f => match f with | .next => execs b env | f => pure f) := by
  clear h
  induction a with
  | nil => rfl
  | cons st r ih =>
   rw [List.cons_append, execs_cons, execs_cons, bind_assoc]
   refine congrArg _ (funext fun f => ?_)
   cases f <;> first | exact ih | rfl
 rw [e]
 refine .bind (h.mono fun f m l q => ?_)
 obtain ⟨rfl, q⟩ := q
 exact q
theorem WQ.nd {α : Type} {t : Sem α} {Q : α -> Loc -> Led -> Prop} (h : (l.Pairwise fun p q => p.1 ≠ q.1) -> WQ c z t Q m l) : WQ c z t Q m l := ⟨fun s y => (h (List.pairwise_append.mp y.nd).1).run s y⟩
theorem lam_q {nm : Str} {sc scope : Scope} {a cc P : Addr} {cl clos : List (Str × Addr)} {ps : Array Value} {kk : Nat} {params : Arguments} {body : Expr} {pos : Pos} {l1 : Array Value -> Led} {k : Value -> Loc -> Led -> Prop} (hC : CfOk c dn un) (he : env = envX nm sc c.L a (.ref cc) cl) (hcd : codeHdIn (hd.heap_1 w.params) cc P = true)
  (U : ∀ ps', Rp P (tabObj ps) (tabObj ps') l (l1 ps')) (hM : P ∈ c.S \/ Fre c P) (t : TabOk ps kk) (hk : kk <= pos.line) (hcl : closureFor scope env = pure clos) (hdef : defaultsOf params env = ([], []))
  (h : ∀ f c' oc vs t ctv, oc.data = .fields vs -> vs[1]? = some (.str (nm ++ ".<locals>." ++ "<lambda>") t) -> TabOk (ps ++ #[rawInt pos.line, rawInt pos.col, .ref c']) (pos.line + 1) -> codeAmong pos (ps ++ #[rawInt pos.line, rawInt pos.col, .ref c']).toList = some (.ref c') -> Fre c f -> Fre c c' ->
   k (.ref f) m ((f, kla_obj "<lambda>" (nm ++ ".<locals>." ++ "<lambda>") params body scope clos ((c.mg "__name__").getD .none) c' ctv) :: (c', oc) :: l1 (ps ++ #[rawInt pos.line, rawInt pos.col, .ref c']))) : WQ c z (eval (.Lambda params body scope pos) env) k m l := by
 subst he
 refine .any fun s y => ?_
 obtain ⟨g, UF, hg⟩ := ((U ps).zed (z := z)).updF y.nd
 refine kla_eval hdef (lamS y.fr y.nw hC.top hC.kin hcd UF t hk hcl fun f c' oc vs tt ctv h' tk F N T d1 d2 lt1 lt2 => ?_)
 have U' := U (ps ++ #[rawInt pos.line, rawInt pos.col, .ref c'])
 have N0 : News c.g c.L h' (g (tabObj (ps ++ #[rawInt pos.line, rawInt pos.col, .ref c']))) := fun p hp => N p (.tail _ (.tail _ hp))
 have y' := y.upd (tk := tk) hC U' hM F (N0 _ (hg _).1).1 fun p hp hn => (N0 p ((hg _).2 p hp hn)).1
 have ad : ∀ p ∈ l1 (ps ++ #[rawInt pos.line, rawInt pos.col, .ref c']) ++ z.led, p.1 < c' := fun p hp => by
  have e : p.1 ∈ (l ++ z.led).map (·.1) := by rw [<- (U'.zed (z := z)).addrs]; exact List.mem_map_of_mem hp
  obtain ⟨q, hq, e⟩ := List.mem_map.mp e
  rw [<- e]; exact lt1 q hq
 have N1 : News c.g c.L h' ((c', oc) :: (l1 (ps ++ #[rawInt pos.line, rawInt pos.col, .ref c']) ++ z.led)) := fun p hp => by
  rcases List.mem_cons.mp hp with rfl | hp
  ·exact N _ (.tail _ (.head _))
  ·exact y'.nw p hp
 have y1 := y'.new1 (tk := tk) F N1 ad
 have ad2 : ∀ p ∈ ((c', oc) :: l1 (ps ++ #[rawInt pos.line, rawInt pos.col, .ref c'])) ++ z.led, p.1 < f := fun p hp => by
  rcases List.mem_cons.mp hp with rfl | hp
  ·exact lt2
  ·exact Nat.lt_trans (ad p hp) lt2
 have y2 := y1.new1 (tk := tk) F (fun p hp => by
  rcases List.mem_cons.mp hp with rfl | hp
  ·exact N _ (.head _)
  ·exact N1 p hp) ad2
 refine ⟨m, _, y2, h f c' oc vs tt ctv d1 d2 T (t.new hk) ?_ ?_⟩
 ·exact hC.fre1 (r := (c', oc) :: (l1 (ps ++ #[rawInt pos.line, rawInt pos.col, .ref c']) ++ z.led)) y1 (fun p hp => by
   rcases List.mem_cons.mp hp with rfl | hp
   ·exact N _ (.head _)
   ·exact N1 p hp) ad2
 ·exact hC.fre1 y' N1 ad
theorem lamH_q {nm : Str} {sc scope : Scope} {a cc P c' : Addr} {cl clos : List (Str × Addr)} {ps : Array Value} {kk : Nat} {params : Arguments} {body : Expr} {pos : Pos} {k : Value -> Loc -> Led -> Prop} (hC : CfOk c dn un) (he : env = envX nm sc c.L a (.ref cc) cl) (hcd : codeHdIn (hd.heap_1 w.params) cc P = true)
  (hP : (P, tabObj ps) ∈ l) (t : TabOk ps kk) (hf : codeAmong pos ps.toList = some (.ref c')) (hcl : closureFor scope env = pure clos) (hdef : defaultsOf params env = ([], []))
  (h : ∀ f ctv, Fre c f -> k (.ref f) m ((f, kla_obj "<lambda>" (nm ++ ".<locals>." ++ "<lambda>") params body scope clos ((c.mg "__name__").getD .none) c' ctv) :: l)) : WQ c z (eval (.Lambda params body scope pos) env) k m l := by
 subst he
 refine .any fun s y => ?_
 refine kla_eval hdef (lamH y.fr y.nw hC.top hC.kin hcd (y.mem hP) t hf hcl fun f ctv h' tk F N lt => ?_)
 exact ⟨m, _, y.new1 F N lt, h f ctv (hC.fre1 y N lt)⟩
theorem lamB_q {nm : Str} {sc scope : Scope} {a cc P : Addr} {cl clos : List (Str × Addr)} {ps : Array Value} {params : Arguments} {body : Expr} {pos : Pos} {own r : Led} {r1 : Array Value -> Led} {k : Value -> Loc -> Led -> Prop} (hC : CfOk c dn un) (he : env = envX nm sc c.L a (.ref cc) cl) (hcd : codeHdIn (hd.heap_1 w.params) cc P = true)
  (U : ∀ ps', Rp P (tabObj ps) (tabObj ps') r (r1 ps')) (hr : r1 ps = r) (hM : P ∈ c.S \/ Fre c P) (t : TabOk ps pos.line \/ TabOk ps (pos.line + 1) /\ ∃ c' oc vs t, (c', oc) ∈ own /\ codeAmong pos ps.toList = some (.ref c') /\ oc.data = .fields vs /\ vs[1]? = some (.str (nm ++ ".<locals>." ++ "<lambda>") t)) (hcl : closureFor scope env = pure clos) (hdef : defaultsOf params env = ([], []))
  (h : ∀ f c' oc vs t ctv ps' own', oc.data = .fields vs -> vs[1]? = some (.str (nm ++ ".<locals>." ++ "<lambda>") t) -> TabOk ps' (pos.line + 1) -> codeAmong pos ps'.toList = some (.ref c') -> (c', oc) ∈ own' ->
   k (.ref f) m ((f, kla_obj "<lambda>" (nm ++ ".<locals>." ++ "<lambda>") params body scope clos ((c.mg "__name__").getD .none) c' ctv) :: (own' ++ r1 ps'))) : WQ c z (eval (.Lambda params body scope pos) env) k m (own ++ r) := by
 rcases t with t | ⟨t, c', oc, vs, tt, hm, hf, hoc, hv⟩
 ·exact lam_q hC he hcd (fun ps' => .app (U ps')) hM t (Nat.le_refl _) hcl hdef fun f c' oc vs tt ctv hoc hv hT hc _ _ => h f c' oc vs tt ctv _ ((c', oc) :: own) hoc hv hT hc (.head _)
 ·refine lamH_q hC he hcd (List.mem_append_right _ (U ps).old) t hf hcl hdef fun f ctv _ => ?_
  have := h f c' oc vs tt ctv ps own hoc hv t hf hm
  rw [hr] at this
  exact this
theorem dedup_led {h : Heap} : ∀ {out : Led}, (∀ p ∈ out, h.get? p.1 = some p.2) -> ∃ out' : Led, out'.Pairwise (fun p q => p.1 ≠ q.1) /\ (∀ p ∈ out, p ∈ out') /\ ∀ p ∈ out', p ∈ out
 | [], _ => ⟨[], .nil, fun _ h => h, fun _ h => h⟩
 | p :: out, hp => by
  refine hideG ?_; intro PG9 hG9
  obtain ⟨o, n, a, b⟩ := dedup_led (h := h) (out := out) fun q hq => hp q (.tail _ hq)
  refine hG9 ?_; clear hG9 PG9
  by_cases q : ∃ r ∈ o, r.1 = p.1
  ·obtain ⟨r, hr, e⟩ := q
   have e1 := hp r (.tail _ (b r hr))
   have e2 := hp p (.head _)
   rw [e, e2] at e1
   have : p = r := Prod.ext e.symm (Option.some.inj e1)
   subst this
   exact ⟨o, n, fun s hs => (List.mem_cons.mp hs).elim (fun e => e ▸ hr) (a s), fun s hs => .tail _ (b s hs)⟩
  ·exact ⟨p :: o, .cons (fun r hr e => q ⟨r, hr, e.symm⟩) n, fun s hs => (List.mem_cons.mp hs).elim (fun e => e ▸ .head _) fun z => .tail _ (a s z), fun s hs => (List.mem_cons.mp hs).elim (fun e => e ▸ .head _) fun z => .tail _ (b s z)⟩
end
section
variable {w : World} {mean : ExcName -> Option Value} {mg mb : Str -> Option Value}
theorem work_q {kn : Led} {P : Dat -> Prop} {Flt : Int -> Prop} {name qual : Str} {params : Arguments} {body : Expr} {scope : Scope} {cl : List (Str × Addr)} {pm ctv : Value} {c' f : Addr} {oc : Obj} {vs : Array Value} {t : Tok} (hnd : kn.Pairwise fun p q => p.1 ≠ q.1)
  (hm : (f, kla_obj name qual params body scope cl pm c' ctv) ∈ kn) (hc : (c', oc) ∈ kn) (hoc : oc.data = .fields vs) (hv : vs[1]? = some (.str qual t))
  (h : ∀ (c : Cf w) (z : Zs) (env : Env) (K : Value -> Loc -> Led -> Prop), CfOk c 323 2897 -> EnvOk c z env scope.names -> FreeOk c z env scope.names -> env.cells = cl -> (∀ f, Flt f -> c.Er f) -> (∀ v m l d out, P d -> DatIn out v d -> (∀ p ∈ out, p ∈ l /\ Fre c p.1) -> K v m l) -> (et c z env scope.names 20).1 body K [] kn)
  (hbind : bindArgs (kla_fn name qual params body scope cl pm (.ref c') ctv) ⟨[], []⟩ = pure []) (hco : scope.isCoroutine = false) (hgen : scope.isGenerator = false) (hk : scope.kind = .function) (hcell : ∀ x ∈ scope.names, x.2 ≠ .cell) (hdb : scope.names.lookup ("__debug__" : Str) = none) : WorkOk w mean mg mb f kn P Flt := by
 intro A' base' outer' s' R' Bx Gx hhx hdpx hux hknx hR hE
 refine enterLam _ Bx Gx hknx hm hc hoc hv (Nat.lt_of_lt_of_le hdpx (by decide)) (fun g L' h₁ F N B' X T hg hL => ?_) hbind hco hgen hk hcell
 refine coreG (m0 := []) (S := []) (Er := Flt) (dd := 322) (uu := 2900) (fun env => eval body env) (fun v => v) Gx hhx hdpx hux (by decide) (fun p hp => (hknx p hp).1) rfl hnd (fun _ hp => hp) (fun f hf h' tk e t x => hE h' tk e f t hf x) hk hdb F N B' X T hg hL
  fun c z env K hC V hcl hf hS hcL ho _ _ he h1 h2 h3 h4 => (et_ok V hC 20).1 _ _ _ _ (h c z env K hC V (freeOk_X (by rw [hcL]; exact he) hk) hcl h1 fun v m l d out hP hd hout => h4 v m l fun h' tk x => ?_)
 exact hR h' tk v d out hP x.kp hd fun p hp => ⟨x.at_ p (hout p hp).1, (h2 p.1).mp (hout p hp).2⟩
end
noncomputable def CaughtSpec (w : World) : Prop := ∀ {mean : ExcName -> Option Value} {mg mb : Str -> Option Value} {A : Around} {base : Heap} {outer : List Env} {s : Shared} {R : Result -> Shared -> Prop} {Fa : Addr} {fo : Obj} {fd : FuncData} {kn : List (Addr × Obj)} {P : Dat -> Prop} {Flt : Int -> Prop}, fo.data = .func fd -> (Fa, fo) ∈ kn -> Below A base outer s.heap -> Gd w mean mg mb base -> A.handled = none -> A.depth < 320 -> A.units + 3000 < cLine ->
  Kn base outer s.heap kn -> WorkOk w mean mg mb Fa kn P Flt ->
  (∀ h' tk' v d out, (P d \/ ∃ f, Flt f /\ d = faultD f) -> KpU outer s.heap h' -> DatIn out v d -> (∀ p ∈ out, h'.get? p.1 = some p.2 /\ s.heap.get? p.1 = none) -> R (.ok (.ret v)) { s with heap := h', toks := tk' }) ->
  codeS (model PW w) A (.call (.ref 489) ⟨[.ref Fa], []⟩) R s
section
variable {w : World} {c : Cf w} {z : Zs} {m : Loc} {l : Led}
theorem tup_ref {out : Led} {v : Value} {ds : List Dat} (h : DatIn out v (.tuple ds)) : ∃ T, v = .ref T := by
 cases h with
 | tuple hm _ => exact ⟨_, rfl⟩
theorem caught_q {fo : Obj} {fd : FuncData} {f : Addr} {P : Dat -> Prop} {Flt : Int -> Prop} {k : Value -> Loc -> Led -> Prop} (CS : CaughtSpec w) (hC : CfOk c 320 3000) (ho : c.outer = []) (hf : c.env0.frame = some c.L) (hfo : fo.data = .func fd) (hm : (f, fo) ∈ l)
  (hW : (l.Pairwise fun p q => p.1 ≠ q.1) -> WorkOk w c.mean c.mg c.mb f l P Flt) (hPt : ∀ d, P d -> ∃ ds, d = .tuple ds) (h : ∀ T d out, (P d \/ ∃ f, Flt f /\ d = faultD f) -> DatIn out (.ref T) d -> (∀ p ∈ out, Fre c p.1) -> k (.ref T) m (out ++ l)) : WQ c z (call (.ref 489) [.ref f] []) k m l := by
 refine codeS_q hC.bt fun s y => CS hfo hm (hC.bel y.fr) hC.G hC.hh hC.dp hC.un (fun p hp => hC.knn y.fr y.nw p (y.mem hp)) (hW (List.pairwise_append.mp y.nd).1) fun h' tk v d out hP hk hd hout => ?_
 refine hideG ?_; intro PG9 hG9
 obtain ⟨o', nd, sa, sb⟩ := dedup_led (h := h') fun p hp => (hout p hp).1
 refine hG9 ?_; clear hG9 PG9
 have hk' : KpU [c.env0] s.heap h' := by
  have : c.out = [c.env0] := by unfold Cf.out; rw [ho]
  rw [<- this]; exact hk
 obtain ⟨F, N, ne⟩ := okCs (new := o') y.fr y.nw hf hk' fun p hp => hout p (sb p hp)
 obtain ⟨T, rfl⟩ : ∃ T, v = .ref T := by
  rcases hP with hP | ⟨f, _, rfl⟩
  ·obtain ⟨ds, rfl⟩ := hPt d hP
   exact tup_ref hd
  ·exact tup_ref hd
 refine ⟨m, o' ++ l, ⟨F, by rw [List.append_assoc]; exact N, ?_, fun p hp => ?_, by have := y.st; rw [this], y.ck, y.hd⟩, h T d o' hP (hd.mono sa) fun p hp => hC.fre y (hout p (sb p hp)).2⟩
 ·rw [List.append_assoc]
  exact List.pairwise_append.mpr ⟨nd, y.nd, fun p hp q hq e => allNe_mem (ne p hp) q hq e.symm⟩
 ·rw [List.append_assoc]
  exact (y.kn p hp).imp (List.mem_append_right _) fun ⟨q, o, q2⟩ => ⟨q, o, List.mem_append_right _ q2⟩
end
end
section
set_option tactic.hygienic false
open PySem PySem.W PyProof.Rows PySem.Calls PySem.Spec
section
variable {w : World} {c : Cf w} {z : Zs} {env : Env} {nms : List (Str × NameKind)} {m : Loc} {l : Led} {dn un : Nat} {k : Value -> Loc -> Led -> Prop}
theorem bytes_q {D : Addr} {vs : List Value} {ns : List Int} {n : Nat} (hC : CfOk c dn un) (hm : (D, PySem.W.listOf vs.toArray n) ∈ l) (hi : IntsAre vs ns) (hr : Oct ns) (hn : ns.length <= 1000000) (h : ∀ t, k (.bytes (octB ns).toArray t) m l) : WQ c z (call (.type "bytes") [.ref D] []) k m l :=
 .any fun s y => KBa.make_K y.fr y.nw hC.hh (News.isList y.nw (y.mem hm)) hi hr (Nat.le_trans hn (by decide)) fun h' t' tk F N _ => ⟨m, l, ⟨F, N, y.nd, y.kn, by have := y.st; rw [this], y.ck, y.hd⟩, h t'⟩
theorem lmul_q {D : Addr} {vs : List Value} {n : Nat} {x : Int} {u : Tok} (hC : CfOk c dn un) (hm : (D, PySem.W.listOf vs.toArray n) ∈ l) (h0 : -(2 ^ 63 : Int) <= x) (h1 : x < 2 ^ 63) (hz : vs.length * x.toNat <= 256) (h : ∀ B, Fre c B -> k (.ref B) m ((B, PySem.W.listOf (List.replicate x.toNat vs).flatten.toArray 0) :: l)) : WQ c z (binaryOp .Mult (.ref D) (.int x u)) k m l :=
 .any fun s y => KMa.mul y.fr y.nw (News.isList y.nw (y.mem hm)) h0 h1 hz rfl fun B h' F N lt => ⟨m, _, y.new1 (tk := s.toks) F N lt, h B (hC.fre1 y N lt)⟩
theorem catB_q {b d : List UInt8} {t u : Tok} (hz : b.length + d.length <= 1000000) (h : ∀ t, k (.bytes (b ++ d).toArray t) m l) : WQ c z (binaryOp .Add (.bytes b.toArray t) (.bytes d.toArray u)) k m l :=
 .same fun s _ y q => bytes_add_K (d := b ++ d) (by rw [List.size_toArray, List.size_toArray]; exact Nat.le_trans hz (by decide)) rfl fun t' tk => q _ _ (h t')
theorem sortD_q {M : Addr} {o : Obj} {kvs : List (Int × Value)} {gs : List Int} (hC : CfOk c dn un) (hm : (M, o) ∈ l) (hd : o.IsDictOf (intKind PW w) kvs) (lo : (M == sysModules) = false) (hg : gs.Perm (kvs.map (·.1))) (ho : gs.Pairwise (· <= ·)) (h64 : gs.length < 64)
  (h : ∀ D vs n, IntsAre vs gs -> Fre c D -> k (.ref D) m ((D, PySem.W.listOf vs.toArray n) :: l)) : WQ c z (call (.builtin "sorted") [.ref M] []) k m l :=
 .any fun s y => sorted_dictG hC.hh y.fr y.nw (y.mem hm) hd lo hg ho rfl h64 fun D vs n h' tk F N lt hi _ => ⟨m, _, y.new1 F N lt, h D vs n hi (hC.fre1 y N lt)⟩
theorem ditem_q {D : Addr} {o : Obj} {kvs : List (Int × Value)} {i : Int} {ti : Tok} {v : Value} {ve sl : Expr} (hm : (D, o) ∈ l) (hd : o.IsDictOf (intKind PW w) kvs) (hv : valueAt kvs i = some v) (h : k v m l)
  (hs : autoParam (∀ (o i : Value), subscripted sl false o i = operate [o, i] (getItem o i)) rA) (hg : autoParam (∀ (o r : Value), letTemporaryGo ve o r = pure ()) rA) : WQ c z (subscriptTail ve sl (.ref D) (.int i ti)) k m l :=
 .same fun s _ y q => kda_item (knd := intKind PW w) y.nw (y.mem hm) hd (intKind_is _ _ _ _) hv (q _ _ h) (hs _ _) (hg _)
theorem set_q {D : Addr} {vs : List Value} {n : Nat} {own : Led} (hC : CfOk c dn un) (hu : 100 <= un) (hm : (D, PySem.W.listOf vs.toArray n) ∈ l) (key : Nat -> List Int) (hown : ∀ p ∈ own, p ∈ l)
  (hT : ∀ (i : Nat) v, vs[i]? = some v -> ∃ b us k, v = .ref b /\ (b, ({ cls := .type "tuple", data := .seq us.toArray k } : Obj)) ∈ own /\ IntsAre us (key i)) (hsz : vs.length <= 18)
  (h : ∀ S oS KS, SetL w own S oS KS -> (∀ q, q ∈ KS ↔ ∃ j, j < vs.length /\ key j = q) -> Fre c S -> k (.ref S) m ((S, oS) :: l)) : WQ c z (call (.type "set") [.ref D] []) k m l :=
 .any fun s y => set_T y.fr y.nw hC.hh (by have := hC.un; omega) (y.mem hm) key (fun p hp => y.mem (hown p hp)) hT hsz fun S oS h' tk KS J hK F N a => by
  have fS : Fre c S := by
   show c.s.heap.get? S = none
   cases q : c.s.heap.get? S with
   | none => rfl
   | some o' =>
    exfalso
    have n := (N _ (.head _)).2.2
    by_cases hk : S ∈ c.kn.map (·.1)
    ·obtain ⟨p, hp, e⟩ := List.mem_map.mp hk
     rcases y.kn p hp with x | ⟨_, o2, x⟩
     ·exact allNe_mem a p x e
     ·exact allNe_mem a (p.1, o2) x e
    ·rw [hC.hg _ _ q hk] at n; cases n
  exact ⟨m, (S, oS) :: l, ⟨F, N, .cons (fun p hp => (allNe_mem a p hp).symm) y.nd, fun p hp => (y.kn p hp).imp (.tail _) fun ⟨q, o, q2⟩ => ⟨q, o, .tail _ q2⟩, by have := y.st; rw [this], y.ck, y.hd⟩, h S oS KS J hK fS⟩
theorem lenS_q {S : Addr} {oS : Obj} {own : Led} {KS : List (List Int)} (J : SetL w own S oS KS) (hm : (S, oS) ∈ l) (hown : ∀ p ∈ own, p ∈ l) (hz : KS.length <= 18) (h : ∀ t, k (.int KS.length t) m l) : WQ c z (call (.builtin "len") [.ref S] []) k m l :=
 .same fun s _ y q => set_len y.nw J (y.mem hm) (fun p hp => y.mem (hown p hp)) hz fun v t tk e => by subst e; exact q _ _ (h t)
theorem lenTn_q {M : Addr} {vs : List Value} {n : Nat} (hm : (M, tupN vs n) ∈ l) (hz : vs.length <= 1000000) (h : ∀ t, k (.int vs.length t) m l) : WQ c z (call (.builtin "len") [.ref M] []) k m l :=
 .same fun s _ y q => PyProof.Rows.len_tuple (items := vs.toArray) ⟨_, (y.nw _ (y.mem hm)).1, rfl, _, rfl⟩ (by rw [List.size_toArray]; omega) (q _ _ (by rw [List.size_toArray]; exact h _))
theorem datNe_q {v u : Value} {d e : Dat} (hC : CfOk c dn un) (hu : 64 <= un) (Da : DatIn l v d) (Db : DatIn l u e) (ha : kqdOk 8 d = true) (he : d = e) (h : k (.bool false) m l) : WQ c z (compareOp .NotEq v u) k m l :=
 .same fun s _ y q => dat_neF y.nw Da Db (fun p hp => y.mem hp) (fun p hp => y.mem hp) ha he (by have := hC.un; omega) (q _ s.toks h)
theorem datEq_q {v u : Value} {d e : Dat} (hC : CfOk c dn un) (hu : 64 <= un) (Da : DatIn l v d) (Db : DatIn l u e) (ha : kqdOk 8 d = true) (he : d = e) (h : k (.bool true) m l) : WQ c z (compareOp .Eq v u) k m l :=
 .same fun s _ y q => dat_eqT y.nw Da Db (fun p hp => y.mem hp) (fun p hp => y.mem hp) ha he (by have := hC.un; omega) (q _ s.toks h)
theorem neB_q {b : Array UInt8} {t u : Tok} (h : k (.bool false) m l) : WQ c z (compareOp .NotEq (.bytes b t) (.bytes b u)) k m l :=
 .same fun s _ y q => ne_bytes (q _ s.toks (by rw [show (b.toList != b.toList) = false by simp]; exact h))
theorem maxL_q {D : Addr} {vs : List Value} {n : Nat} {ns : List Int} (hC : CfOk c dn un) (hm : (D, PySem.W.listOf vs.toArray n) ∈ l) (hi : IntsAre vs ns) (hne : 0 < ns.length) (h : ∀ v t, IsMx ns v -> k (.int v t) m l) : WQ c z (call (.builtin "max") [.ref D] []) k m l :=
 .any fun s y => max_list_N hC.hh y.fr y.nw (News.isList y.nw (y.mem hm)) hi hne fun h' M t tk F N h1 h2 => ⟨m, l, ⟨F, N, y.nd, y.kn, by have := y.st; rw [this], y.ck, y.hd⟩, h M t ⟨h1, h2⟩⟩
theorem max2_q {a b : Int} {t u : Tok} (hC : CfOk c dn un) (h : k (.int (if b > a then b else a) (if b > a then u else t)) m l) : WQ c z (call (.builtin "max") [.int a t, .int b u] []) k m l :=
 .any fun s y => max_two_N hC.hh y.fr y.nw fun h' tk F N => ⟨m, l, ⟨F, N, y.nd, y.kn, by have := y.st; rw [this], y.ck, y.hd⟩, h⟩
theorem catT_q {a b : Addr} {vs ws : List Value} {n1 n2 : Nat} (hC : CfOk c dn un) (ha : (a, tupN vs n1) ∈ l) (hb : (b, tupN ws n2) ∈ l) (hv : vs ≠ []) (hw : ws ≠ []) (hz : vs.length + ws.length <= 1000) (h : ∀ D, Fre c D -> k (.ref D) m ((D, tupO (vs ++ ws)) :: l)) : WQ c z (binaryOp .Add (.ref a) (.ref b)) k m l :=
 .any fun s y => kde_addT (its := vs.toArray) (its2 := ws.toArray) y.fr y.nw ⟨_, (y.nw _ (y.mem ha)).1, rfl, n1, rfl⟩ ⟨_, (y.nw _ (y.mem hb)).1, rfl, n2, rfl⟩ (by simpa using hv) (by simpa using hw) (by simpa using Nat.le_trans hz (by decide)) (by simp) fun D h' F N lt => ⟨m, _, y.new1 (tk := s.toks) F N lt, h D (hC.fre1 y N lt)⟩
theorem catL_q {a b : Addr} {vs ws : List Value} {n1 n2 : Nat} (hC : CfOk c dn un) (ha : (a, PySem.W.listOf vs.toArray n1) ∈ l) (hb : (b, PySem.W.listOf ws.toArray n2) ∈ l) (hz : vs.length + ws.length <= 1000) (h : ∀ D, Fre c D -> k (.ref D) m ((D, PySem.W.listOf (vs ++ ws).toArray 0) :: l)) : WQ c z (binaryOp .Add (.ref a) (.ref b)) k m l :=
 .any fun s y => kmk_add_lit (its := vs.toArray) (its2 := ws.toArray) y.fr y.nw (News.isList y.nw (y.mem ha)) (News.isList y.nw (y.mem hb)) (by simp) (fun D h' F N lt => ⟨m, _, y.new1 (tk := s.toks) F N lt, h D (hC.fre1 y N lt)⟩) (by rw [sizeLine_eq]; simpa using Nat.le_trans hz (by decide))
theorem truL_q {D : Addr} {vs : List Value} {n : Nat} {kb : Bool -> Loc -> Led -> Prop} (hm : (D, PySem.W.listOf vs.toArray n) ∈ l) (hz : vs.length <= 1000000) (h : kb (!vs.isEmpty) m l) : WQ c z (truthy (.ref D)) kb m l :=
 .same fun s _ y q => wpAny_truthy_list (News.isList y.nw (y.mem hm)) (by rw [List.size_toArray]; omega) (q _ _ (by rw [show vs.toArray.isEmpty = vs.isEmpty by simp]; exact h))
theorem callM_q {o : Expr} {name : Str} {apos pos : Pos} {es : List Expr} {pl : Sem Bool} (hC : CfOk c dn un) (V : EnvOk c z env nms)
  (h : (et c z env nms 20).1 o (fun ov => WQ c z (getMethod ov name pl) (fun fx => callF c z env (et c z env nms 20).1 pos fx.1 fx.2 es k)) m l)
  (he : eval (.Call (.Attribute o name apos) es [] pos) env = (do
   let ov <- eval o env
   standAt apos.atName
   let (f, first) <- holding [ov] (getMethod ov name pl)
   callWith pos f first (backTo pos (starEach es env)) [])) : WQ c z (eval (.Call (.Attribute o name apos) es [] pos) env) k m l := by
 rw [he]
 refine .bind (((et_ok V hC 20).1 _ _ _ _ h).mono fun ov m l q => .at_ (.bind (.holding (q.mono fun fx m l q => ?_))))
 exact callF_ok hC (fun x m l k h => (et_ok V hC 20).1 _ _ _ _ h) q
theorem comp2_q {elt ct : PySem.Expr} {x y id : Str} {px py p2 pi : Pos} {scope : Scope} {cl : List (Str × Addr)} {pos : Pos} {T : Addr} {vs : List Value} {nT : Nat} {rws : List (List Value)} (hC : CfOk c dn un) (V : EnvOk c z env nms)
  (hclos : closureFor scope env = pure cl) (hcell : ∀ y ∈ scope.names, y.2 ≠ .cell) (hkind : scope.kind = .function)
  (hnames : ∀ y ∈ scope.names, y.2 = .local -> scope.names.lookup y.1 = some .local) (hx : scope.names.lookup x = some .local) (hy : scope.names.lookup y = some .local)
  (hfs : ∀ C v, foldedSetIterable (.Name x p2) (compEnvC scope cl C env) v = pure v)
  (hct : ∀ C (A : Around) (s' : Shared) m' v E' (Q : Bool -> Shared -> Prop), s'.heap.Ns C m' -> m' y = some v -> (v = .none \/ ∃ P, v = .ref P) -> Q (notN v) s' -> wpAny (model PW w) A (isTrue ct (compEnvC scope cl C env) (eval ct (compEnvC scope cl C env))) Q E' s')
  (helt : ∀ C (A : Around) (s' : Shared) m' v E' (Q : Value -> Shared -> Prop), s'.heap.Ns C m' -> m' y = some v -> Q v s' -> wpAny (model PW w) A (eval elt (compEnvC scope cl C env)) Q E' s')
  (hi1 : ∀ C (A : Around) (s' : Shared) m' v E' (Q : Value -> Shared -> Prop), s'.heap.Ns C m' -> m' x = some v -> Q v s' -> wpAny (model PW w) A (eval (.Name x p2) (compEnvC scope cl C env)) Q E' s')
  (hid : nms.lookup id = some .local) (hiv : fm m id = some (.ref T)) (mT : (T, tupN vs nT) ∈ l)
  (hvl : vs.length = rws.length) (hus : ∀ us ∈ rws, ∀ u ∈ us, u = .none \/ ∃ P, u = .ref P) (hsz : (kept rws).length <= 50000) (hsz2 : ∀ us ∈ rws, us.length <= 50000)
  (hTs : ∀ (i : Nat) v us, vs[i]? = some v -> rws[i]? = some us -> ∃ Ti n, v = .ref Ti /\ (Ti, tupN us n) ∈ l)
  (h : ∀ D, Fre c D -> k (.ref D) m ((D, LCg.lst (kept rws)) :: l)) (hdb : autoParam ((id == ("__debug__" : Str)) = false) rA) :
  WQ c z (eval (.ListComp elt [⟨.Name x px, .Name id pi, [], 0⟩, ⟨.Name y py, .Name x p2, [ct], 0⟩] scope pos) env) k m l :=
 .any fun s a => listComp2 hclos hcell hkind hnames hx hy (fun _ => rfl) hfs hct helt hi1 hC.hh (a.mem mT) hvl hus hsz hsz2 (fun i v us e1 e2 => let ⟨Ti, n, e3, e4⟩ := hTs i v us e1 e2; ⟨Ti, n, e3, a.mem e4⟩)
  (V.ld (z1 := z.led) (fun _ h => h) a hid hiv hdb ⟨rfl, s.heap, s.toks, rfl, a.fr, a.nw⟩) fun D h' tk F N o => by
   have fD : Fre c D := by
    show c.s.heap.get? D = none
    cases q : c.s.heap.get? D with
    | none => rfl
    | some o' =>
     exfalso
     have n := (N _ (.head _)).2.2
     by_cases hk : D ∈ c.kn.map (·.1)
     ·obtain ⟨p, hp, e⟩ := List.mem_map.mp hk
      rcases a.kn p hp with x | ⟨_, o2, x⟩
      ·exact allNe_mem o p x e
      ·exact allNe_mem o (p.1, o2) x e
     ·rw [hC.hg _ _ q hk] at n; cases n
   exact ⟨m, _, ⟨F, N, .cons (fun p hp => (allNe_mem o p hp).symm) a.nd, fun p hp => (a.kn p hp).imp (.tail _) fun ⟨q, o, q2⟩ => ⟨q, o, .tail _ q2⟩, by have := a.st; rw [this], a.ck, a.hd⟩, h D fD⟩
theorem sliceIT_q {a : Addr} {vs : List Value} {ms : List Int} {n : Nat} {p : Pos} {ve sl : Expr} {vl vu : Value} {lo hi : Option Int} (hC : CfOk c dn un) (ha : (a, PySem.W.listOf vs.toArray n) ∈ l) (hi1 : IsPart vl lo) (hi2 : IsPart vu hi) (hm : IntsAre (slicePick vs.toArray lo hi none).toList ms) (hz : vs.length <= 1000000)
  (h : ∀ D ws, IntsAre ws ms -> Fre c D -> k (.ref D) m ((D, PySem.W.listOf ws.toArray 0) :: l))
  (hs : autoParam (∀ (o i : Value), subscripted sl false o i = operate [i, o] (getItem o i)) rA) : WQ c z (sliceT p ve sl (.ref a) vl vu) k m l :=
 .any fun s y => by
  unfold sliceT newFields
  have hl : s.heap.IsList a vs.toArray := News.isList y.nw (y.mem ha)
  refine wpAny_bind (wpAny_newObj_type (wpAny_bind (wpAny_standAt ?_)) ?_)
  ·refine tail_any (Heap.IsList.typeIs (s := { s with heap := s.heap.push { cls := .type "slice", data := .fields #[vl, vu, .none] } }) (hl.push _)) list_getitem_lookup
    (wpAny_getItem_list_slice (hl.push _) (Heap.IsSliceOf.new ..) hi1 hi2 .none (by simp) ?_ (by rw [List.size_toArray, sizeLine_eq]; exact Nat.le_trans hz (by decide))) (hs _ _)
   have N1 := News.push (y.fr.push { cls := .type "slice", data := .fields #[vl, vu, .none] }) (y.nw.grown fun _ _ e => Heap.get?_push_of_some _ e) { cls := .type "list", data := .seq (slicePick vs.toArray lo hi none) }
   rw [Heap.size_push] at N1
   show ∃ m' l', _ /\ k (.ref (s.heap.push _).objs.size) m' l'
   rw [Heap.size_push]
   rw [<- Array.toArray_toList (xs := slicePick vs.toArray lo hi none)] at N1 ⊢
   have lt : ∀ p ∈ l ++ z.led, p.1 < s.heap.objs.size + 1 := fun p hp => Nat.lt_succ_of_lt (Heap.lt_size (y.nw p hp).1)
   exact ⟨m, _, y.new1 (tk := s.toks) ((y.fr.push _).push _) N1 lt, h _ _ hm (hC.fre1 y N1 lt)⟩
  ·first | decide | trivial | (unfold sizeOk; trivial) | (unfold sizeOk; dsimp only; rw [sizeLine_eq]; exact Nat.le_of_ble_eq_true rfl)
noncomputable def ItCQ {w : World} (c : Cf w) (z : Zs) (env : Env) (xn : Str) (px : Pos) (body : List Stmt) (K : Flow -> Loc -> Led -> Prop) (xv : Value) (m : Loc) (l : Led) : Prop := ∀ s, At c z m l s -> wpAny (model PW w) c.A (pyIter xv) (fun it s₂ => LoopC w c.A c.g env (.Name xn px) body (QK c z K) c.E it s₂) c.E s
theorem forC_q {iter : Expr} {xn : Str} {px pos : Pos} {body : List Stmt} {K : Flow -> Loc -> Led -> Prop} (hC : CfOk c dn un) (V : EnvOk c z env nms) (hf : ForOk c z env nms)
  (h : (et c z env nms 20).1 iter (ItCQ c z env xn px body K) m l) (hs : autoParam (∀ x, foldedSetIterable iter env x = pure x) rA) : WQ c z (exec (.For (.Name xn px) iter body [] pos) env) K m l := by
 rw [arm_exec_For]
 refine .at_ (.bind (((et_ok V hC 20).1 _ _ _ _ h).mono fun xv m l q => ?_))
 rw [hs]
 refine .bind (.pure (.at_ ⟨fun s y => ?_⟩))
 refine wpG_bind (wpG_any (wpAny_holding (wpAny_mono (q s y) (fun it s₂ h₂ => ?_) fun _ _ e => e)))
 refine hideG ?_; intro PG9 hG9
 obtain ⟨I, src, n, P, St, m, news, J, rfl, X⟩ := h₂
 refine hG9 ?_; clear hG9 PG9
 exact wpG_S hC.bt (wpS_runOwn (loopC_run X (fun _ => rfl) hf.po) (mark_none hC.hh))
theorem itTupC_q {xn : Str} {px : Pos} {body : List Stmt} {K : Flow -> Loc -> Led -> Prop} {X : Type} {ca ax : Addr} {vs : List Value} {nn : Nat} (hC : CfOk c dn un) (hf : ForOk c z env nms) (hx : nms.lookup xn = some .cell) (hcx : env.cells.lookup xn = some ca) (hM : ca ∈ c.S \/ Fre c ca)
  (mm : X -> Loc) (ll : X -> Led) (oc : X -> Obj) (lu : X -> Obj -> Led) (ok : Nat -> X -> Prop) (U : ∀ x o', Rp ca (oc x) o' (ll x) (lu x o')) (hcd : ∀ i x, ok i x -> ∃ v0, (oc x).data = .cell v0)
  (x0 : X) (hm : m = mm x0) (hl : l = ll x0) (h0 : ok 0 x0) (hsrc : ∀ x, (ax, tupQ vs nn) ∈ ll x)
  (step : ∀ i v x o' z1, vs[i]? = some v -> (∀ p ∈ z.led, p ∈ z1) -> ok i x -> o'.data = .cell (some v) -> WQ c { z with led := z1 } (execs body env) (TurnQ K mm ll (ok (i + 1))) (mm x) (lu x o')) (done : ∀ x, ok vs.length x -> K .next (mm x) (ll x)) : ItCQ c z env xn px body K (.ref ax) m l := fun s y => by
 have F := y.fr
 have N := y.nw
 rw [<- hf.lo] at F N
 refine loop_tupC hC.hh (y.mem (hl ▸ hsrc x0)) rfl rfl F N (JQ c z mm ll ok) (fun i m nw ⟨x, _, _, e, _⟩ => by rw [e]; exact List.mem_append_left _ (hsrc x)) (j0Q hf y hm hl h0) (fun i v m₁ nw I h9 tk9 oI hi hP hJ hI F9 N9 => ?_) (doneQ hf y done)
 refine hideG ?_; intro PG9 hG9
 obtain ⟨x, hok, rfl, rfl, nd, kn⟩ := hJ
 refine hG9 ?_; clear hG9 PG9
 rw [hf.lo] at F9 N9 ⊢
 have hkI : ∀ p ∈ c.kn, p.1 ≠ I := fun p hp => by
  rcases kn p hp with q | ⟨_, o, q⟩
  ·exact allNe_mem hI p q
  ·exact allNe_mem hI (p.1, o) q
 have yA : At c { z with led := (I, oI) :: z.led } (mm x) (ll x) { s with heap := h9, toks := tk9 } := At.hide (by rw [hf.mf]) (hf.ck _) y.hd y.st F9 N9 hI nd kn
 obtain ⟨g, UF, hg⟩ := ((U x (oc x)).zed (z := { z with led := (I, oI) :: z.led })).updF yA.nd
 show wpAny _ c.A (assign (.Name xn px) env v) _ _ _
 refine wpAny_bind (wpAny_standAt (hf.sc (z1 := (I, oI) :: z.led) yA hx hcx UF (hcd i x hok) fun h' o' F' N' e => ?_))
 have y2 : At c { z with led := (I, oI) :: z.led } (mm x) (lu x o') { s with heap := h', toks := tk9 } := yA.upd hC (U x o') hM F' (N' _ (hg _).1).1 fun p hp hn => (N' p ((hg _).2 p hp hn)).1
 refine wpS_mono (toS ((step i v x o' ((I, oI) :: z.led) hP (fun _ h => .tail _ h) hok e).run _ y2)) (fun f s' ⟨m', l', y', t⟩ => ?_) fun _ _ e => e
 have fin : (∃ x, m' = mm x /\ l' = ll x /\ ok (i + 1) x) -> TurnEnd c.g c.L I oI (JQ c z mm ll ok (i + 1)) { s with heap := h9, toks := tk9 } s' := by
  intro hz09
  refine hideG ?_; intro PG9 hG9
  obtain ⟨x', rfl, rfl, hok'⟩ := hz09
  refine hG9 ?_; clear hG9 PG9
  have pm : (ll x' ++ (I, oI) :: z.led).Perm ((I, oI) :: (ll x' ++ z.led)) := List.perm_middle
  have y3 := y'.unhide hkI y.hd
  refine ⟨s'.heap, s'.toks, fm (mm x'), ll x' ++ z.led, ?_, ?_, fun p hp => y'.nw p (pm.mem_iff.mpr hp), y'.off, x', hok', rfl, rfl, y3.nd, y3.kn⟩
  ·have e1 := y'.st
   have e2 := y.st
   rw [e1, e2]
  ·have := y'.fr
   have e : z.mf (mm x') = fm (mm x') := by rw [hf.mf]
   rw [<- e]; exact this
 cases f with
 | ret v => exact ⟨m', l', y'.unhide hkI y.hd, t⟩
 | brk => exact ⟨m', l', y'.unhide hkI y.hd, t⟩
 | next => exact fin t
 | cont => exact fin t
end
end
section
set_option tactic.hygienic false
open PySem PySem.W PyProof.Rows PySem.Calls PySem.Spec
theorem MarksAre.mono {w : World} {own own' : Led} {kvs : List (Int × Value)} {ms : List Mk} (h : MarksAre w own kvs ms) (hs : ∀ q ∈ own, q ∈ own') : MarksAre w own' kvs ms := ⟨h.perm, h.ord, fun m hm => let ⟨T, tc, v, a, b, c⟩ := h.at_ m hm; ⟨T, tc, v, a, hs _ b, c.mono hs⟩⟩
section
variable {w : World} {c : Cf w} {z : Zs} {m : Loc} {l : Led} {dn un : Nat} {s : Shared}
theorem kn_sub {kn : Led} (hC : CfOk c dn un) (y : At c z m l s) (h : ∀ p ∈ kn, p ∈ l) : Kn c.base c.out s.heap kn := fun p hp => hC.knn y.fr y.nw p (y.mem (h p hp))
theorem all3 {P : Addr × Obj -> Prop} {a b d : Addr × Obj} (h1 : P a) (h2 : P b) (h3 : P d) : ∀ p ∈ [a, b, d], P p := fun p hp => (List.mem_cons.mp hp).elim (fun e => e ▸ h1) (nn4 h2 h3 p)
theorem At.outs {out : Led} {h' : Heap} {tk : Nat} (hC : CfOk c dn un) (y : At c z m l s) (k : Kp [] s.heap h') (ho : ∀ p ∈ out, h'.get? p.1 = some p.2 /\ s.heap.get? p.1 = none) : ∃ o', (∀ p ∈ out, p ∈ o') /\ (∀ p ∈ o', p ∈ out) /\ (∀ p ∈ o', Fre c p.1) /\ At c z m (o' ++ l) { s with heap := h', toks := tk } := by
 refine hideG ?_; intro PG9 hG9
 obtain ⟨o', nd, sa, sb⟩ := dedup_led (h := h') fun p hp => (ho p hp).1
 refine hG9 ?_; clear hG9 PG9
 exact ⟨o', sa, sb, fun p hp => hC.fre y (ho p (sb p hp)).2, y.more k (fun p hp => ho p (sb p hp)) nd⟩
end
section
variable {w : World} {c : Cf w} {z : Zs} {m : Loc} {l : Led} {k : Value -> Loc -> Led -> Prop}
theorem rmarks_q {bs : List UInt8} {at_ cl : Int} {tb ta tcl t1 : Tok} {Cv dc Gl : Addr} {us : List Value} {gs : List Int} {vs : List Value} (hC : CfOk c 800 1000) (hargs : (⟨vs, []⟩ : Args) = ⟨[.bytes bs.toArray tb, .int at_ ta, .ref Cv, .int cl tcl], []⟩ \/ ((⟨vs, []⟩ : Args) = ⟨[.bytes bs.toArray tb, .int at_ ta, .ref Cv], []⟩ /\ cl = 65536 /\ tcl = 520))
  (hb : bs.length <= 1000000) (hat : 0 <= at_) (hus : IntsAre us gs) (hnd : gs.Nodup) (hord : gs.Pairwise (· <= ·)) (hn : gs.length <= 8) (hlt : @LT.lt Nat _ dc Cv)
  (h1 : (Cv, instObj 426 dc) ∈ l) (h2 : (dc, covD w Gl t1) ∈ l) (h3 : (Gl, tupO us) ∈ l)
  (h : ∀ ms, rdM bs at_ cl gs = .ok ms -> ∀ M o kvs own, o.IsDictOf (intKind PW w) kvs -> (M == sysModules) = false -> MarksAre w own kvs ms -> ms.map (·.g) = gs -> (M, o) ∈ own -> (∀ p ∈ own, Fre c p.1) -> k (.ref M) m (own ++ l)) (hE : ∀ f, rdM bs at_ cl gs = .error f -> c.Er f) : WQ c z (call (.ref 356) vs []) k m l :=
 codeS_q hC.bt fun s y => rmarks_spec hargs hb hat hus hnd hord hn (hC.bel y.fr) hC.G hC.hh hC.dp hC.un hlt (nd_ne (List.pairwise_append.mp y.nd).1 h3 h1 fun e => absurd (show Value.type "tuple" = Value.ref 426 from congrArg Obj.cls e) (fun q => by cases q)) (nd_ne (List.pairwise_append.mp y.nd).1 h3 h2 fun e => absurd (show Value.type "tuple" = Value.type "dict" from congrArg Obj.cls e) (by decide)) (kn_sub hC y (all3 h1 h2 h3))
  (fun ms e h' tk M o own kvs kp ho hd lo hM _ hg => by
   refine hideG ?_; intro PG9 hG9
   obtain ⟨o', sa, _, f, y'⟩ := y.outs hC (tk := tk) kp ho
   refine hG9 ?_; clear hG9 PG9
   exact ⟨m, _, y', h ms e M o kvs o' hd lo (hM.mono fun q hq => sa _ (.tail _ hq)) hg (sa _ (.head _)) f⟩)
  fun f e h' tk ex t x => hC.er (hE f e) y nn0 x
theorem rrows_q {bs : List UInt8} {at_ cnt cl : Int} {tb ta tc tcl : Tok} (hC : CfOk c 800 1000) (hb : bs.length <= 1000000) (hat : 0 <= at_) (hcl : 1 <= cl) (hcl8 : cl <= 8)
  (h : ∀ rs, rdRows bs at_ cnt cl = .ok rs -> ∀ P vs n own, RowsAre w own vs rs -> (P, PySem.W.listOf vs.toArray n) ∈ own -> (∀ p ∈ own, Fre c p.1) -> k (.ref P) m (own ++ l)) (hE : ∀ f, rdRows bs at_ cnt cl = .error f -> c.Er f) : WQ c z (call (.ref 378) [.bytes bs.toArray tb, .int at_ ta, .int cnt tc, .int cl tcl] []) k m l :=
 codeS_q hC.bt fun s y => rrows_spec hb hat hcl hcl8 (hC.bel y.fr) hC.G hC.hh hC.dp hC.un
  (fun rs e h' tk P vs n own kp ho hM _ => by
   refine hideG ?_; intro PG9 hG9
   obtain ⟨o', sa, _, f, y'⟩ := y.outs hC (tk := tk) kp ho
   refine hG9 ?_; clear hG9 PG9
   exact ⟨m, _, y', h rs e P vs n o' (hM.mono fun q hq => sa _ (.tail _ hq)) (sa _ (.head _)) f⟩)
  fun f e h' tk ex t x => hC.er (hE f e) y nn0 x
theorem lmarks_q {bs : List UInt8} {at_ cl : Int} {tb ta tcl : Tok} {Gl : Addr} {us : List Value} {gs : List Int} {n0 : Nat} (hC : CfOk c 840 1000) (hb : bs.length <= 1000000) (hat : 0 <= at_) (hus : IntsAre us gs) (hn : gs.length <= 1000) (hG : (Gl, PySem.W.listOf us.toArray n0) ∈ l)
  (h : ∀ ms, rdM bs at_ cl gs = .ok ms -> ∀ v out, DatIn out v (mksD ms) -> (∀ p ∈ out, Fre c p.1) -> k v m (out ++ l)) (hE : ∀ f, rdM bs at_ cl gs = .error f -> c.Er f) : WQ c z (call (.ref 477) [.bytes bs.toArray tb, .int at_ ta, .ref Gl, .int cl tcl] []) k m l :=
 codeS_q hC.bt fun s y => lmarks_spec hb hat hus hn (hC.bel y.fr) hC.G hC.hh hC.dp hC.un (kn_sub hC y (nn3 hG))
  (fun ms e h' tk v out kp hd ho => by
   refine hideG ?_; intro PG9 hG9
   obtain ⟨o', sa, _, f, y'⟩ := y.outs hC (tk := tk) kp ho
   refine hG9 ?_; clear hG9 PG9
   exact ⟨m, _, y', h ms e v o' (hd.mono sa) f⟩)
  fun f e h' tk ex t x => hC.er (hE f e) y nn0 x
theorem lrows_q {bs : List UInt8} {at_ cnt cl : Int} {tb ta tc tcl : Tok} (hC : CfOk c 800 1000) (hb : bs.length <= 1000000) (hat : 0 <= at_) (hcn : cnt < 0) (hcl : 1 <= cl) (hcl8 : cl <= 1000)
  (h : ∀ rs, rdRows bs at_ cnt cl = .ok rs -> ∀ v out, DatIn out v (rowsD rs) -> (∀ p ∈ out, Fre c p.1) -> k v m (out ++ l)) (hE : ∀ f, rdRows bs at_ cnt cl = .error f -> c.Er f) : WQ c z (call (.ref 482) [.bytes bs.toArray tb, .int at_ ta, .int cnt tc, .int cl tcl] []) k m l :=
 codeS_q hC.bt fun s y => lrows_spec hb hat hcn hcl hcl8 (hC.bel y.fr) hC.G hC.hh hC.dp hC.un
  (fun rs e h' tk v out kp hd ho => by
   refine hideG ?_; intro PG9 hG9
   obtain ⟨o', sa, _, f, y'⟩ := y.outs hC (tk := tk) kp ho
   refine hG9 ?_; clear hG9 PG9
   exact ⟨m, _, y', h rs e v o' (hd.mono sa) f⟩)
  fun f e h' tk ex t x => hC.er (hE f e) y nn0 x
theorem src_ne {C : Addr} {cs : List Value} {xs : List Int} {p : Int} {tp : Tok} {n1 n2 : Nat} (hx : IntsAre cs xs) (e : PySem.W.listOf cs.toArray n2 = PySem.W.listOf #[.ref C, .int p tp] n1) : False := by
 have e1 : cs.toArray = #[Value.ref C, Value.int p tp] := by injection e with _ _ e1; injection e1
 have e2 : cs = [.ref C, .int p tp] := by have := congrArg Array.toList e1; simpa using this
 subst e2
 cases hx
theorem llaid_q {S C : Addr} {n1 n2 : Nat} {cs : List Value} {xs : List Int} {p cnt : Int} {tp tc t2 : Tok} {l1 : Int -> Tok -> Nat -> Led} (hC : CfOk c 860 900) (hx : IntsAre cs xs) (hne : xs ≠ []) (hlen : xs.length <= 60) (hp : 0 <= p) (hc0 : 0 <= cnt) (hc3 : cnt < 4) (hCm : (C, PySem.W.listOf cs.toArray n2) ∈ l)
  (U : ∀ q t n, Rp S (PySem.W.listOf #[.ref C, .int p tp] n1) (PySem.W.listOf #[.ref C, .int q t] n) l (l1 q t n)) (hM : S ∈ c.S \/ Fre c S)
  (h : ∀ q t n P us ns nn, 0 <= q -> IntsAre us ns -> ns.length <= 100 -> Oct ns -> Fre c P -> k (.ref P) m ((P, PySem.W.listOf us.toArray nn) :: l1 q t n)) : WQ c z (call (.ref 494) [.ref S, .int cnt tc, .int 2 t2] []) k m l :=
 codeS_q hC.bt fun s y => llaid_spec hx hne hlen hp hc0 hc3 (hC.bel y.fr) hC.G hC.hh hC.dp hC.un (nd_ne (List.pairwise_append.mp y.nd).1 hCm (U 0 0 0).old fun e => src_ne hx e) (kn_sub hC y (nn4 (U 0 0 0).old hCm))
  fun h' tk p' t' n' P us ns nn hp' kp hS hP fP hi hl ho => ⟨m, _, y.put (new := [(P, PySem.W.listOf us.toArray nn)]) (U p' t' n') hM hC.nof kp hS (nn3 ⟨hP, fP⟩) (.cons nn1 .nil), h p' t' n' P us ns nn hp' hi hl ho (hC.fre y fP)⟩
end
end
section
set_option tactic.hygienic false
open PySem PySem.W PyProof.Rows PySem.Calls PySem.Spec
section
variable {w : World} {c : Cf w} {z : Zs} {m : Loc} {l l1 : Led} {dn un : Nat}
variable {name qual : Str} {params : Arguments} {body : List Stmt} {scope : Scope} {dV kV doc pm cdv ct oc : Value} {an od : Option Addr} {osl : Array (Option Value)} {f : Addr} {binds : List (Str × Value)} {vs : List Value} {k : Value -> Loc -> Led -> Prop}
theorem enter0C (n : Nat) (kn : Led) (hC : CfOk c dn un) (hdd : dn + 1 <= 880) (huu : 303 <= un) (hkn : ∀ p ∈ kn, p ∈ l)
  (ho : (hd.heap_1 w.params).lookup f = some ⟨oc, od, .func (fnOf name qual params body scope dV kV doc pm an cdv ct), osl⟩)
  (hcd : codeIn (hd.heap_1 w.params) cdv qual = true)
  (hbind : ∀ s, (hd.heap_1 w.params).In s.heap -> BindsTo s (fnOf name qual params body scope dV kV doc pm an cdv ct) ⟨vs, []⟩ binds) (hkind : (binds.all fun y => scope.names.lookup y.1 == some .local || scope.names.lookup y.1 == some .cell) = true)
  (hnc : ((cellsFrom 0 scope.names []).map (·.1)).Nodup) (hnd : (l.Pairwise fun p q => p.1 ≠ q.1) -> kn.Pairwise fun p q => p.1 ≠ q.1)
  (h : ∀ (c' : Cf w) (z' : Zs) (env : Env) (K : Flow -> Loc -> Led -> Prop) (L : Addr) (cells : Led), CellsAre (bindC (fun y => scope.names.lookup y) binds fun _ => none) (cellsFrom (L + 1) scope.names []) cells -> env.cells = cellsFrom (L + 1) scope.names [] -> (∀ p ∈ cells, Fre c' p.1) -> CfOk c' (dn + 1) (un - 3) -> EnvOk c' z' env scope.names -> ForOk c' z' env scope.names -> c'.S = [] -> (∀ f, c.Er f -> c'.Er f) -> (∀ a, Fre c' a -> Fre c a) ->
   (∀ f m' l' new, (∀ p ∈ new, p ∈ l' /\ Fre c' p.1) -> (l'.Pairwise (fun p q => p.1 ≠ q.1) -> new.Pairwise fun p q => p.1 ≠ q.1) -> k (rv f) m (new ++ l) -> K f m' l') -> run c' z' env scope.names n body K ((lnames scope).map fun x => (x, bindL (fun y => scope.names.lookup y) binds (fun _ => none) x)) (cells ++ kn))
  (hco : scope.isCoroutine = false) (hgen : scope.isGenerator = false) (hk : scope.kind = .function) (hdb : scope.names.lookup ("__debug__" : Str) = none) : WQ c z (call (.ref f) vs []) k m l := by
 refine codeS_q hC.bt fun s y => ?_
 have ndl : l.Pairwise fun p q => p.1 ≠ q.1 := (List.pairwise_append.mp y.nd).1
 refine enterQC n [] c.Er (hC.bel y.fr) hC.G hC.hh hC.dp hC.un (kn := kn) (fun p hp => hC.knn y.fr y.nw p (List.mem_append_left _ (hkn p hp))) ho hcd hdd huu (hbind s (hC.kin.keeps y.fr.keep)) hkind hnc (hnd ndl)
  (fun f hf h' tk e t x => hC.er hf y (fun a ha => absurd ha List.not_mem_nil) x) (fun c' z' env K L cells Y hcl hfc hC' V hf hS h1 h2 h3 hK => ?_) hco hgen hk hdb
 refine h c' z' env K L cells Y hcl hfc hC' V hf hS h1 (fun a ha => hC.fre y (h2 a ha)) fun fl m' l' new hn hnd2 hk => hK _ _ _ fun h' tk x => ?_
 exact ⟨m, _, y.more x.kp (fun p hp => ⟨x.at_ p (hn p hp).1, h2 _ (hn p hp).2⟩) (hnd2 x.nd), hk⟩
end
section
variable {w : World} {c : Cf w} {z : Zs} {m : Loc} {l : Led} {k : Value -> Loc -> Led -> Prop}
theorem told_q {a da : Addr} {px py : Int} {t1 t2 t3 t4 : Tok} (hC : CfOk c 870 330) (h1 : (a, instObj 302 da) ∈ l) (h2 : (da, ancD w px py t1 t2 t3 t4) ∈ l) (h : ∀ T, Fre c T -> k (.ref T) m ((T, tupO [.int px t2, .int py t4]) :: l)) : WQ c z (call (.ref 299) [.ref a] []) k m l := by
 refine enter0 20 l hC (by decide) (by decide) (fun _ h => h) (binds := [("self", .ref a)]) (by k_is) (by k_is) (fun s _ => BindsTo.of_eq rfl) (locs rfl) (fun nd => nd) ?_ rfl rfl rfl (by decide) (by decide)
 intro c' z' env K hC' V hf hS e1 e2 hK
 refine attr_q hC' h1 h2 (.tail _ (.tail _ (.tail _ (.head _)))) rfl rfl ?_
 refine attr_q hC' h1 h2 (.tail _ (.tail _ (.tail _ (.tail _ (.head _))))) rfl rfl ?_
 refine newTup_q hC' (szl rfl) fun T fT => ?_
 exact hK _ _ _ [(T, _)] (nn3 ⟨.head _, fT⟩) (fun _ => .cons nn1 .nil) (h T (e2 _ fT))
theorem tanc0_q (hC : CfOk c 860 640) (h : k .none m l) : WQ c z (call (.ref 313) [.none] []) k m l := by
 refine enter0 20 [] hC (by decide) (by decide) nn1 (binds := [("anchor", .none)]) (by k_is) (by k_is) (fun s _ => BindsTo.of_eq rfl) (locs rfl) (fun _ => .nil) ?_ rfl rfl rfl (by decide) (by decide)
 intro c' z' env K hC' V hf hS e1 e2 hK
 exact hK _ _ _ [] nn1 nn2 h
theorem tanc1_q {a da : Addr} {px py : Int} {t1 t2 t3 t4 : Tok} (hC : CfOk c 860 640) (h1 : (a, instObj 302 da) ∈ l) (h2 : (da, ancD w px py t1 t2 t3 t4) ∈ l) (h : ∀ T, Fre c T -> k (.ref T) m ((T, tupO [.int px t2, .int py t4]) :: l)) : WQ c z (call (.ref 313) [.ref a] []) k m l := by
 refine enter0 20 l hC (by decide) (by decide) (fun _ h => h) (binds := [("anchor", .ref a)]) (by k_is) (by k_is) (fun s _ => BindsTo.of_eq rfl) (locs rfl) (fun nd => nd) ?_ rfl rfl rfl (by decide) (by decide)
 intro c' z' env K hC' V hf hS e1 e2 hK
 refine meth_q hC' h1 h2 rfl rfl ?_
 refine told_q (hC'.mo rfl) h1 h2 fun T fT => ?_
 exact hK _ _ _ [(T, _)] (nn3 ⟨.head _, fT⟩) (fun _ => .cons nn1 .nil) (h T (e2 _ fT))
theorem diff_q {a da b db : Addr} {px py qx qy : Int} {t1 t2 t3 t4 u1 u2 u3 u4 : Tok} (hC : CfOk c 870 330) (h1 : (a, instObj 302 da) ∈ l) (h2 : (da, ancD w px py t1 t2 t3 t4) ∈ l) (h3 : (b, instObj 302 db) ∈ l) (h4 : (db, ancD w qx qy u1 u2 u3 u4) ∈ l)
  (h : ∀ T t u, Fre c T -> k (.ref T) m ((T, tupO [.int (px - qx) t, .int (py - qy) u]) :: l)) : WQ c z (call (.ref 320) [.ref a, .ref b] []) k m l := by
 refine enter0 20 l hC (by decide) (by decide) (fun _ h => h) (binds := [("one", .ref a), ("other", .ref b)]) (by k_is) (by k_is) (fun s _ => BindsTo.of_eq rfl) (locs rfl) (fun nd => nd) ?_ rfl rfl rfl (by decide) (by decide)
 intro c' z' env K hC' V hf hS e1 e2 hK
 refine attr_q hC' h1 h2 (.tail _ (.tail _ (.tail _ (.head _)))) rfl rfl ?_
 refine attr_q hC' h3 h4 (.tail _ (.tail _ (.tail _ (.head _)))) rfl rfl ?_
 intro t5
 refine attr_q hC' h1 h2 (.tail _ (.tail _ (.tail _ (.tail _ (.head _))))) rfl rfl ?_
 refine attr_q hC' h3 h4 (.tail _ (.tail _ (.tail _ (.tail _ (.head _))))) rfl rfl ?_
 intro t6
 refine newTup_q hC' (szl rfl) fun T fT => ?_
 exact hK _ _ _ [(T, _)] (nn3 ⟨.head _, fT⟩) (fun _ => .cons nn1 .nil) (h T t5 t6 (e2 _ fT))
theorem lnum_q {S C : Addr} {n1 n2 : Nat} {cs : List Value} {xs : List Int} {p : Int} {tp : Tok} {l1 : Int -> Tok -> Led} (hC : CfOk c 860 700) (hx : IntsAre cs xs) (hne : xs ≠ []) (hlen : xs.length <= 60) (hCm : (C, PySem.W.listOf cs.toArray n2) ∈ l)
  (U : ∀ q t, Rp S (PySem.W.listOf #[.ref C, .int p tp] n1) (PySem.W.listOf #[.ref C, .int q t] n1) l (l1 q t)) (hM : S ∈ c.S \/ Fre c S)
  (h : ∀ v t t', ok16 v -> k (.int v t) m (l1 (p + 1 + 1) t')) : WQ c z (call (.ref 456) [.ref S] []) k m l := by
 refine enter1 (d := S) (o := PySem.W.listOf #[.ref C, .int p tp] n1) 20 [(S, PySem.W.listOf #[.ref C, .int p tp] n1), (C, PySem.W.listOf cs.toArray n2)] hC (by decide) (by decide) (nn4 (U 0 0).old hCm) hM (U 0 0).old (binds := [("source", .ref S)]) (by k_is) (by k_is) (fun s _ => BindsTo.of_eq rfl) (locs rfl) (fun nd => .cons (nn3 (nd_ne nd hCm (U 0 0).old fun e => src_ne hx e).symm) (.cons nn1 .nil)) ?_ rfl rfl rfl (by decide) (by decide)
 intro c' z' env K hC' V hf hS h1 h2 hK
 intro t1
 refine draw_q (hC'.mo rfl) hx hne hlen (by decide) (.tail _ (.head _)) (fun q t => .head) (.inl hS) fun v t2 t3 v0 v1 => ?_
 intro t4
 refine Two.mk (fun q => ?_) fun q => ?_
 ·intro t5 t6 t7 t8 t9 t10
  refine newTup_q hC' (szl rfl) fun T fT => ?_
  intro t11
  refine draw_q (hC'.mo rfl) hx hne hlen (by decide) (.tail _ (.tail _ (.head _))) (fun q t => .tail .head) (.inl hS) fun v2 t12 t13 v20 v21 => ?_
  refine itemTI_q (ns := [-32768, 32767, -1, 0]) (.head _) (.cons _ _ (.cons _ _ (.cons _ _ (.cons _ _ .nil)))) v20 v21 (by omega) fun t14 => ?_
  exact hK _ _ _ [] _ (l1 (p + 1 + 1) t13) nn1 nn2 (.tail _ (.head _)) (U _ _) (h _ _ _ (menu_of (P := ok16) (by simp only [List.length_cons, List.length_nil]; omega) (by unfold ok16; decide)))
 ·intro t5 t6 t7 t8
  refine newTup_q hC' (szl rfl) fun T fT => ?_
  intro t9 t10
  have b0 : 0 <= v - 1 := by omega
  have b1 : v - 1 < 4 := by omega
  refine itemTI_q (ns := [4, 2000, 65536, 40]) (.head _) (.cons _ _ (.cons _ _ (.cons _ _ (.cons _ _ .nil)))) b0 b1 (by omega) fun t11 => ?_
  refine draw_q (hC'.mo rfl) hx hne hlen (menu_of (P := fun x => 0 < x) (by simp only [List.length_cons, List.length_nil]; omega) (by decide)) (.tail _ (.tail _ (.head _))) (fun q t => .tail .head) (.inl hS) fun v2 t12 t13 v20 v21 => ?_
  intro t14 t15 t16 t17
  refine newTup_q hC' (szl rfl) fun T2 fT2 => ?_
  intro t18 t19
  refine itemTI_q (ns := [0, 1000, 32768, 20]) (.head _) (.cons _ _ (.cons _ _ (.cons _ _ (.cons _ _ .nil)))) b0 b1 (by omega) fun t20 => ?_
  intro t21
  exact hK _ _ _ [] _ (l1 (p + 1 + 1) t13) nn1 nn2 (.tail _ (.tail _ (.head _))) (U _ _) (h _ _ _ (way_ok (by omega) (by omega) v20 v21))
theorem trows_q {P : Addr} {nn : Nat} {vs : List Value} {rs : List AnR} (hC : CfOk c 840 1000) (hm : (P, PySem.W.listOf vs.toArray nn) ∈ l) (hM : RowsAre w l vs rs) (hn : rs.length <= 100000) (h8 : ∀ r ∈ rs, r.length <= 8)
  (h : ∀ T out, DatIn out (.ref T) (rowsD rs) -> (∀ p ∈ out, Fre c p.1) -> k (.ref T) m (out ++ l)) : WQ c z (call (.ref 388) [.ref P] []) k m l := by
 have hvl := hM.len
 refine enter0 20 l hC (by decide) (by decide) (fun _ h => h) (binds := [("rows", .ref P)]) (by k_is) (by k_is) (fun s _ => BindsTo.of_eq rfl) (locs rfl) (fun nd => nd) ?_ rfl rfl rfl (by decide) (by decide)
 intro c1 z1 env K hC1 V hf hS e1 e2 hK
 refine comp0_q hC1 V rfl (by decide) rfl (by decide) rfl ?_
 refine itcList_q (vs := vs) (X := Led) (b := false) hC1 V (fun a => a ++ l) (fun i a us => DatAll a us ((rs.take i).map rowD) /\ ∀ p ∈ a, Fre c1 p.1) [] rfl ⟨.nil, nn1⟩ (fun a => List.mem_append_right _ hm) (by omega) ?_ ?_
 ·intro i v own us c' z' env' hi hv hx9 hyl hC' V' hcl' hEr hS' hF1 hF2
  refine el_e0 V' hC' fun T0 hT0 => ?_
  obtain ⟨hus, hfr⟩ := hx9
  refine hideG ?_; intro PG9 hG9
  obtain ⟨T, us2, r2, rfl, hr, hT, hrow⟩ := hM.at_ i v hv
  refine hG9 ?_; clear hG9 PG9
  have hr8 := h8 r2 (List.mem_of_getElem? hr)
  have hul := hrow.len
  refine comp0_q hC' V' rfl (by decide) rfl (by decide) rfl ?_
  refine itcTup_q (vs := us2) (nn := 0) (X := Led) (b := false) hC' V' (fun b => b ++ (own ++ l)) (fun j b zs => DatAll b zs ((r2.take j).map ptO) /\ ∀ p ∈ b, Fre c1 p.1) [] rfl ⟨.nil, nn1⟩ (fun b => List.mem_append_right _ (List.mem_append_right _ hT)) (by omega) ?_ ?_
  ·intro j v2 inn zs c2 z2 env2 hj hv2 hx9 hzl hC2 V2 hcl2 hEr2 hS2 hF3 hF4
   refine el_e V2 hC2 fun T1 hT1 => ?_
   obtain ⟨hzs, hfr2⟩ := hx9
   obtain ⟨d2, hd2, hel⟩ := hrow.at_ j v2 hv2
   cases d2 with
   | none =>
    obtain rfl := hel
    refine tanc0_q (hC2.mo rfl) ?_
    refine hT1 inn _ _ ⟨?_, hfr2⟩
    rw [List.take_add_one, hd2, Option.toList_some, List.map_append]
    exact hzs.append (.one .none)
   | some p =>
    refine hideG ?_; intro PG9 hG9
    obtain ⟨a, da, t1, t2, t3, t4, rfl, ha, hda, hlt⟩ := hel
    refine hG9 ?_; clear hG9 PG9
    refine tanc1_q (hC2.mo rfl) (mR (List.mem_append_right _ ha)) (mR (List.mem_append_right _ hda)) fun U fU => ?_
    refine hT1 ((U, tupO [.int p.1 t2, .int p.2 t4]) :: inn) _ _ ⟨?_, List.forall_mem_cons.mpr ⟨hF1 _ (hF3 _ fU), hfr2⟩⟩
    rw [List.take_add_one, hd2, Option.toList_some, List.map_append]
    exact (hzs.mono fun p hp => .tail _ hp).append (.one (.tuple (n := 0) (.head _) (.cons (.int _ _) (.cons (.int _ _) .nil))))
  ·rintro inn zs ⟨hzs, hfr2⟩ hzl D2 fD2
   rw [hul, List.take_length] at hzs
   refine tupL_q hC' (.head _) (by omega) fun T2 fT2 => ?_
   refine hT0 _ _ _ ?_
   refine ⟨(T2, tupO zs) :: (D2, LCg.lst zs) :: (inn ++ own), ?_, ?_, List.forall_mem_cons.mpr ⟨hF1 _ fT2, List.forall_mem_cons.mpr ⟨hF1 _ fD2, fun p hp => (List.mem_append.mp hp).elim (hfr2 p) (hfr p)⟩⟩⟩
   ·show _ :: _ :: (inn ++ (own ++ l)) = _ :: _ :: ((inn ++ own) ++ l)
    rw [List.append_assoc]
   ·rw [List.take_add_one, hr, Option.toList_some, List.map_append]
    exact (hus.mono fun p hp => .tail _ (.tail _ (List.mem_append_right _ hp))).append (.one (.tuple (n := 0) (.head _) (hzs.mono fun p hp => .tail _ (.tail _ (mL hp)))))
 ·rintro own us ⟨hus, hfr⟩ hyl D fD
  refine tupL_q hC1 (.head _) (by omega) fun T fT => ?_
  rw [hvl, List.take_length] at hus
  have hfa : ∀ p ∈ (T, tupO us) :: (D, LCg.lst us) :: own, Fre c1 p.1 := List.forall_mem_cons.mpr ⟨fT, List.forall_mem_cons.mpr ⟨fD, hfr⟩⟩
  exact hK _ _ _ ((T, tupO us) :: (D, LCg.lst us) :: own) (fun p hp => ⟨List.mem_append_left l hp, hfa p hp⟩) (nd_pre (new := (T, tupO us) :: (D, LCg.lst us) :: own) (r := l)) (h T _ (.tuple (n := 0) (.head _) (hus.mono fun p hp => .tail _ (.tail _ hp))) fun p hp => e2 _ (hfa p hp))
theorem tmarks_q {M : Addr} {o : Obj} {kvs : List (Int × Value)} {ms : List Mk} (hC : CfOk c 840 1000) (hm : (M, o) ∈ l) (hd : o.IsDictOf (intKind PW w) kvs) (lo : (M == sysModules) = false) (hM : MarksAre w l kvs ms) (hn : ms.length <= 8)
  (h : ∀ T out, DatIn out (.ref T) (mksD ms) -> (∀ p ∈ out, Fre c p.1) -> k (.ref T) m (out ++ l)) : WQ c z (call (.ref 366) [.ref M] []) k m l := by
 have hgl : (ms.map (·.g)).length = ms.length := List.length_map ..
 refine enter0C 20 l hC (by decide) (by decide) (fun _ h => h) (binds := [("marks", .ref M)]) (by k_is) (by k_is) (fun s _ => BindsTo.of_eq rfl) rfl (by decide +kernel) (fun nd => nd) ?_ rfl rfl rfl (by decide)
 intro c1 z1 env K L cells Y hcl hfc hC1 V hf hS e1 e2 hK
 obtain ⟨oc, rfl, dc⟩ := CellsAre.one Y
 clear Y
 have hcl2 : env.cells = [(("marks" : Str), L + 1)] := hcl
 refine comp_q hC1 V hf (clos_q hcl2 rfl) (by decide) rfl (by decide) rfl ?_
 refine cell_q V rfl (lkc hcl2 rfl) (.head _) dc ?_
 refine sortD_q hC1 (.tail _ hm) hd lo hM.perm hM.ord (by omega) fun Ds us1 n1 hus1 fDs => ?_
 have hul := hus1.length
 refine itcList_q (vs := us1) (X := Led) (b := true) hC1 V (fun a => a ++ (Ds, PySem.W.listOf us1.toArray n1) :: (L + 1, oc) :: l) (fun i a us => DatAll a us ((ms.take i).map mkD) /\ ∀ p ∈ a, Fre c1 p.1) [] rfl ⟨.nil, nn1⟩ (fun a => List.mem_append_right _ (.head _)) (by omega) ?_ ?_
 ·intro i v own us c' z' env' hi hv hx9 hyl hC' V' hcl' hEr hS' hF1 hF2
  refine el_e V' hC' fun T0 hT0 => ?_
  obtain ⟨hus, hfr⟩ := hx9
  refine hideG ?_; intro PG9 hG9
  obtain ⟨g0, tg, rfl, hg0⟩ := hus1.at i v hv
  refine hG9 ?_; clear hG9 PG9
  obtain ⟨mk, hmk⟩ : ∃ mk, ms[i]? = some mk := ⟨ms[i]'(by omega), List.getElem?_eq_getElem (by omega)⟩
  rw [List.getElem?_map, hmk] at hg0
  cases hg0
  refine hideG ?_; intro PG9 hG9
  obtain ⟨T, tc, va, hval, hT, a, da, t1, t2, t3, t4, rfl, ha, hda, hlt⟩ := hM.at_ mk (List.mem_of_getElem? hmk)
  refine hG9 ?_; clear hG9 PG9
  have mM : (M, o) ∈ own ++ (Ds, PySem.W.listOf us1.toArray n1) :: (L + 1, oc) :: l := List.mem_append_right _ (.tail _ (.tail _ hm))
  have mT : (T, tupQ [.int mk.c tc, .ref a] 0) ∈ own ++ (Ds, PySem.W.listOf us1.toArray n1) :: (L + 1, oc) :: l := List.mem_append_right _ (.tail _ (.tail _ hT))
  have mc : (L + 1, oc) ∈ own ++ (Ds, PySem.W.listOf us1.toArray n1) :: (L + 1, oc) :: l := List.mem_append_right _ (.tail _ (.head _))
  refine cell_q V' rfl (lkc hcl' rfl) mc dc ?_
  refine ditem_q mM hd hval ?_
  intro t5
  refine itemT_q mT (by decide) (by decide) (j := 0) rfl rfl ?_
  refine cell_q V' rfl (lkc hcl' rfl) mc dc ?_
  refine ditem_q mM hd hval ?_
  intro t6
  refine itemT_q mT (by decide) (by decide) (j := 1) rfl rfl ?_
  refine meth_q hC' (mR (.tail _ (.tail _ ha))) (mR (.tail _ (.tail _ hda))) rfl rfl ?_
  refine told_q (hC'.mo rfl) (mR (.tail _ (.tail _ ha))) (mR (.tail _ (.tail _ hda))) fun U fU => ?_
  refine newTup_q hC' (szl rfl) fun T2 fT2 => ?_
  refine hT0 ((T2, tupQ [.int mk.g tg, .int mk.c tc, .ref U] 0) :: (U, tupQ [.int mk.x t2, .int mk.y t4] 0) :: own) _ _ ⟨?_, List.forall_mem_cons.mpr ⟨hF1 _ fT2, List.forall_mem_cons.mpr ⟨hF1 _ fU, hfr⟩⟩⟩
  rw [List.take_add_one, hmk, Option.toList_some, List.map_append]
  exact (hus.mono fun p hp => .tail _ (.tail _ hp)).append (.one (.tuple (n := 0) (.head _) (.cons (.int _ _) (.cons (.int _ _) (.cons (.tuple (n := 0) (.tail _ (.head _)) (.cons (.int _ _) (.cons (.int _ _) .nil))) .nil)))))
 ·rintro own us ⟨hus, hfr⟩ hyl D fD
  refine tupL_q hC1 (.head _) (by omega) fun T fT => ?_
  rw [show us1.length = ms.length by omega, List.take_length] at hus
  have hfa : ∀ p ∈ (T, tupO us) :: (D, LCg.lst us) :: own, Fre c1 p.1 := List.forall_mem_cons.mpr ⟨fT, List.forall_mem_cons.mpr ⟨fD, hfr⟩⟩
  exact hK _ _ _ ((T, tupO us) :: (D, LCg.lst us) :: own) (fun p hp => ⟨List.mem_append_left ((Ds, PySem.W.listOf us1.toArray n1) :: (L + 1, oc) :: l) hp, hfa p hp⟩) (nd_pre (new := (T, tupO us) :: (D, LCg.lst us) :: own) (r := (Ds, PySem.W.listOf us1.toArray n1) :: (L + 1, oc) :: l)) (h T _ (.tuple (n := 0) (.head _) (hus.mono fun p hp => .tail _ (.tail _ hp))) fun p hp => e2 _ (hfa p hp))
end
end
section
set_option tactic.hygienic false
open PySem PySem.W PyProof.Rows PySem.Calls PySem.Spec
theorem nd_eq {a : Addr} {oa ob : Obj} {l : Led} (nd : l.Pairwise fun p q => p.1 ≠ q.1) (ha : (a, oa) ∈ l) (hb : (a, ob) ∈ l) : oa = ob := Classical.byContradiction fun h => nd_ne nd ha hb h rfl
section
variable {w : World} {A : Around} {E : Value -> Shared -> Prop} {s : Shared} {env : Env} {h₀ : Heap} {x : Str} {body : List Stmt} {Q : Flow -> Shared -> Prop} {m : Str -> Option Value} {news : List (Addr × Obj)}
theorem loop_dictS {M : Addr} {o : Obj} {kvs : List (Int × Value)} (hh : A.handled = none) (hm : (M, o) ∈ news) (hd : o.IsDictOf (intKind PW w) kvs) (lo : (M == sysModules) = false)
  (F : Fr h₀ env.locals s.heap m) (N : News h₀ env.locals s.heap news) (J : Nat -> (Str -> Option Value) -> List (Addr × Obj) -> Prop) (hsrc : ∀ i m nw, J i m nw -> (M, o) ∈ nw) (h0 : J 0 m news)
  (step : LStep w A h₀ env x body Q E s kvs.length (fun i v => ∃ k u t, kvs[i]? = some (k, u) /\ v = .int k t) J)
  (done : ∀ h' tk m' nw, J kvs.length m' nw -> Fr h₀ env.locals h' m' -> News h₀ env.locals h' nw -> Q .next { s with heap := h', toks := tk }) :
  wpAny (model PW w) A (pyIter (.ref M)) (fun it s₂ => LoopS w A h₀ env x body Q E it s₂) E s := by
 obtain ⟨ep, hat⟩ := (Heap.dictOf_iff.mpr ⟨o, (N _ hm).1, hd⟩ : s.heap.DictOf (intKind PW w) M kvs).dictAt
 refine wpAny_pyIter_dict lo hat ?_
 have hlt : M < s.heap.objs.size := Heap.lt_size (N _ hm).1
 have up : ∀ b o, s.heap.get? b = some o -> (s.heap.push { cls := .type "dict_keyiterator", data := .fields #[.ref M, .int 0 0, .int kvs.length 0, .int ep 0] }).get? b = some o := fun b o e => Heap.get?_push_of_some _ e
 refine ⟨_, [(M, o)], kvs.length, _, _, m, news, J, rfl, Walks.dictKeys (knd := intKind PW w) hh s.heap.objs.size M (Nat.ne_of_lt hlt) kvs ep, (fun i h st => by obtain ⟨o, e, _⟩ := st.1; exact ⟨o, e⟩), ?_, ⟨⟨_, Heap.get?_push_size _ rfl, rfl, rfl⟩, hat.push _⟩,
  F.keeps up, N.grown up, fun p hp => Nat.ne_of_lt (Heap.lt_size (N p hp).1), Nat.ne_of_lt F.ns.lt, next_is_new F, fun i ys nw hj p hp => by rw [List.mem_singleton.mp hp]; exact hsrc i ys nw hj, h0, ?_, ?_⟩
 ·intro i h h' o' nw st e e' N' hs
  exact ⟨st.1.at fun o2 q => by rw [e] at q; cases q; exact e', hat.at' fun o2 q => by rw [(N _ hm).1] at q; cases q; exact (N' _ (hs _ (.head _))).1⟩
 ·intro i v m₁ nw h tk oI a1 hz89 a3 a4 a5 a6
  refine hideG ?_; intro PG9 hG9
  obtain ⟨k, u, e, hk⟩ := hz89
  refine hG9 ?_; clear hG9 PG9
  obtain ⟨t, rfl⟩ := Value.isInt_shape hk
  exact step i _ m₁ nw _ h tk oI a1 ⟨k, u, t, e, rfl⟩ a3 a4 a5 a6
 ·intro h' tk m' nw; exact done h' tk m' nw
end
section
variable {w : World} {c : Cf w} {z : Zs} {env : Env} {nms : List (Str × NameKind)} {xn : Str} {body : List Stmt} {K : Flow -> Loc -> Led -> Prop} {m : Loc} {l : Led} {d u : Nat}
theorem itDict_q {X : Type} (hC : CfOk c d u) (hf : ForOk c z env nms) {M : Addr} {o : Obj} {kvs : List (Int × Value)} (hd : o.IsDictOf (intKind PW w) kvs) (lo : (M == sysModules) = false) (mm : X -> Loc) (ll : X -> Led) (ok : Nat -> X -> Prop) (x0 : X) (hm : m = mm x0) (hl : l = ll x0) (h0 : ok 0 x0) (hsrc : ∀ x, (M, o) ∈ ll x)
  (step : ∀ i k u t x z1, kvs[i]? = some (k, u) -> (∀ p ∈ z.led, p ∈ z1) -> ok i x -> WQ c { z with led := z1 } (execs body env) (TurnQ K mm ll (ok (i + 1))) (up (mm x) xn (.int k t)) (ll x)) (done : ∀ x, ok kvs.length x -> K .next (mm x) (ll x)) : ItQ c z env xn body K (.ref M) m l := fun s y => by
 have F := y.fr
 have N := y.nw
 rw [<- hf.lo] at F N
 exact loop_dictS hC.hh (y.mem (hl ▸ hsrc x0)) hd lo F N (JQ c z mm ll ok) (fun i m nw ⟨x, _, _, e, _⟩ => by rw [e]; exact List.mem_append_left _ (hsrc x)) (j0Q hf y hm hl h0)
  (stepQ hC hf y fun i v x z1 _ ⟨k, u, t, e, ev⟩ => by subst ev; exact step i k u t x z1 e) (doneQ hf y done)
end
section
variable {w : World} {c : Cf w} {z : Zs} {m : Loc} {l : Led} {k : Value -> Loc -> Led -> Prop}
theorem int_q {n : Int} {t : Tok} (h : k (.int n t) m l) : WQ c z (call (.type "int") [.int n t] []) k m l := .same fun s _ y q => call_int_int (q _ s.toks h)
structure CcX where
 cv : Int
 tc : Tok
 vg : Option Value
structure CcOk (kvs : List (Int × Value)) (ms : List Mk) (i : Nat) (x : CcX) : Prop where
 c1 : x.cv = 0 \/ ∃ mk ∈ ms, x.cv = mk.c + 1
 c0 : 0 <= x.cv
 c2 : x.cv <= 65536
 c3 : ∀ mk ∈ ms, mk.g ∈ (kvs.take i).map (·.1) -> mk.c + 1 <= x.cv
theorem ccount_q {M : Addr} {o : Obj} {kvs : List (Int × Value)} {ms : List Mk} (hC : CfOk c 840 1000) (hm : (M, o) ∈ l) (hd : o.IsDictOf (intKind PW w) kvs) (lo : (M == sysModules) = false) (hM : MarksAre w l kvs ms) (hn : ms.length <= 8) (hok : ∀ m ∈ ms, 0 <= m.c /\ m.c < 65536)
  (h : ∀ v t, IsMx (0 :: ms.map fun m => m.c + 1) v -> k (.int v t) m l) : WQ c z (call (.ref 373) [.ref M] []) k m l := by
 refine WQ.nd fun nd => ?_
 refine enter0 20 l hC (by decide) (by decide) (fun _ h => h) (binds := [("marks", .ref M)]) (by k_is) (by k_is) (fun s _ => BindsTo.of_eq rfl) (locs rfl) (fun nd => nd) ?_ rfl rfl rfl (by decide) (by decide)
 intro c1 z1 env K hC1 V hf hS e1 e2 hK
 intro t0
 refine for_e hC1 V hf rfl ?_
 refine itDict_q (X := CcX) hC1 hf hd lo (fun x => [("marks", some (.ref M)), ("count", some (.int x.cv x.tc)), ("glyph", x.vg)]) (fun _ => l) (CcOk kvs ms) ⟨0, t0, none⟩ rfl rfl ⟨.inl rfl, Int.le_refl _, by show (0 : Int) <= _; decide, fun mk _ h => absurd h List.not_mem_nil⟩ (fun _ => hm) ?_ ?_
 ·intro i g u t x z2 hkv hz hok2
  obtain ⟨mk, hmem, rfl⟩ : ∃ mk ∈ ms, mk.g = g := by
   have : g ∈ kvs.map (·.1) := List.mem_map.mpr ⟨_, List.mem_of_getElem? hkv, rfl⟩
   exact List.mem_map.mp (hM.perm.mem_iff.mpr this)
  refine hideG ?_; intro PG9 hG9
  obtain ⟨T, tc, va, hval, hT, -⟩ := hM.at_ mk hmem
  refine hG9 ?_; clear hG9 PG9
  obtain ⟨oc1, oc2⟩ := hok mk hmem
  refine body_e 20 hC1 (by decide) (by decide) V hf hz fun T0 hT0 => ?_
  refine ditem_q hm hd hval ?_
  intro t1
  refine itemT_q hT (by decide) (by decide) (j := 0) rfl rfl ?_
  intro t2 t3
  refine max2_q hC1 ?_
  obtain ⟨c', hc', hcA, hcB, hcC⟩ : ∃ c', c' = (if mk.c + 1 > x.cv then mk.c + 1 else x.cv) /\ x.cv <= c' /\ mk.c + 1 <= c' /\ (c' = x.cv \/ c' = mk.c + 1) := by
   refine ⟨_, rfl, ?_, ?_, ?_⟩ <;> split <;> omega
  rw [<- hc']
  have h2 := hok2.c2
  have h0 := hok2.c0
  refine hT0 ⟨c', _, some _⟩ ⟨?_, Int.le_trans h0 hcA, by show c' <= 65536; omega, ?_⟩
  ·rcases hcC with e | e
   ·rcases hok2.c1 with q | ⟨mk', q1, q2⟩
    ·exact .inl (e.trans q)
    ·exact .inr ⟨mk', q1, e.trans q2⟩
   ·exact .inr ⟨mk, hmem, e⟩
  ·intro mk' hm' hg'
   rw [List.take_add_one, hkv, Option.toList_some, List.map_append] at hg'
   rcases List.mem_append.mp hg' with hg' | hg'
   ·exact Int.le_trans (hok2.c3 mk' hm' hg') hcA
   ·have e : mk'.g = mk.g := by simpa using hg'
    refine hideG ?_; intro PG9 hG9
    obtain ⟨T', tc', va', hval', hT', -⟩ := hM.at_ mk' hm'
    refine hG9 ?_; clear hG9 PG9
    rw [e, hval] at hval'
    cases hval'
    have ec : mk.c = mk'.c := by
     have z3 := tupO_inj (nd_eq nd hT hT')
     injection z3 with z4 _
     injection z4 with z5 _
    show mk'.c + 1 <= c'
    omega
 ·intro x hok2
  refine hK _ _ _ [] nn1 nn2 (h _ _ ⟨?_, fun a ha => ?_⟩)
  ·rcases hok2.c1 with e | ⟨mk, hmk, e⟩
   ·rw [e]; exact .head _
   ·rw [e]; exact .tail _ (List.mem_map.mpr ⟨mk, hmk, rfl⟩)
  ·rcases List.mem_cons.mp ha with rfl | ha
   ·exact hok2.c0
   ·obtain ⟨mk, hmk, rfl⟩ := List.mem_map.mp ha
    refine hok2.c3 mk hmk ?_
    rw [List.take_length]
    exact hM.perm.mem_iff.mp (List.mem_map.mpr ⟨mk, hmk, rfl⟩)
theorem lsrc_q {P : Addr} {nn : Nat} {vs : List Value} {xs : List Int} (hC : CfOk c 860 800) (hm : (P, PySem.W.listOf vs.toArray nn) ∈ l) (hx : IntsAre vs xs) (hlen : xs.length <= 100)
  (h : ∀ S C cs ys t n n', ys ≠ [] -> ys.length <= 60 -> IntsAre cs ys -> Fre c S -> Fre c C -> k (.ref S) m ((S, PySem.W.listOf #[.ref C, .int 0 t] n) :: (C, PySem.W.listOf cs.toArray n') :: l)) : WQ c z (call (.ref 449) [.ref P] []) k m l := by
 have hvl := hx.length
 refine enter0 20 l hC (by decide) (by decide) (fun _ h => h) (binds := [("script", .ref P)]) (by k_is) (by k_is) (fun s _ => BindsTo.of_eq rfl) (locs rfl) (fun nd => nd) ?_ rfl rfl rfl (by decide) (by decide)
 intro c1 z1 env K hC1 V hf hS e1 e2 hK
 refine assign_comp_q hC1 V hf rfl (by decide) rfl (by decide) rfl rfl (swaps_yes V rfl rfl) ?_
 intro t0
 refine sliceI_q hC1 hm .none (.int _ _) hx (ms := xs.take 60) (kmk_upto (y := 60) hx (by decide)) (by omega) fun D1 ws hws fD1 => ?_
 have hwl := hws.length
 have hle : (xs.take 60).length <= 60 := by rw [List.length_take]; omega
 refine itcList_q (vs := ws) (nn := 0) (X := Unit) (b := true) hC1 V (fun _ => (D1, PySem.W.listOf ws.toArray 0) :: l) (fun i _ us => IntsAre us ((xs.take 60).take i)) () rfl .nil (fun _ => .head _) (by omega) ?_ ?_
 ·intro i v hx2 us c' z' env' hi hv hus hyl hC' V' hcl' hEr hS' hF1 hF2
  refine el_e V' hC' fun T0 hT0 => ?_
  obtain ⟨⟩ := hx2
  refine hideG ?_; intro PG9 hG9
  obtain ⟨n, t, rfl, hn⟩ := hws.at i v hv
  refine hG9 ?_; clear hG9 PG9
  refine int_q ?_
  refine hT0 () _ _ ?_
  have hn : (xs.take 60)[i]? = some n := hn
  show IntsAre _ ((xs.take 60).take (i + 1))
  rw [List.take_add_one, hn, Option.toList_some]
  exact hus.append (.cons _ _ .nil)
 ·intro _ us hus hyl D fD
  have hus : IntsAre us ((xs.take 60).take ws.length) := hus
  rw [show ws.length = (xs.take 60).length from hwl, List.take_length] at hus
  have hul := hus.length
  refine truL_q (.head _) (by omega) ?_
  by_cases hu : us = []
  ·rw [show (!us.isEmpty) = false by rw [hu]; rfl]
   intro t1
   refine newList_q hC1 (szl rfl) fun C fC => ?_
   intro t2
   refine newList_q hC1 (szl rfl) fun S fS => ?_
   exact hK _ _ _ [(S, _), (C, _)] (nn4 ⟨.head _, fS⟩ ⟨.tail _ (.head _), fC⟩) (nd_pre (new := [_, _]) (r := (D, LCg.lst us) :: (D1, PySem.W.listOf ws.toArray 0) :: l)) (h S C [.int 0 t1] [0] t2 0 0 (List.cons_ne_nil _ _) (by decide) (.cons _ _ .nil) (e2 _ fS) (e2 _ fC))
  ·rw [show (!us.isEmpty) = true by cases us with
    | nil => exact absurd rfl hu
    | cons a b => rfl]
   intro t2
   refine newList_q hC1 (szl rfl) fun S fS => ?_
   exact hK _ _ _ [(S, _), (D, LCg.lst us)] (nn4 ⟨.head _, fS⟩ ⟨.tail _ (.head _), fD⟩) (nd_pre (new := [_, _]) (r := (D1, PySem.W.listOf ws.toArray 0) :: l)) (h S D us (xs.take 60) t2 0 _ (fun q => hu (by rw [q] at hul; exact List.eq_nil_of_length_eq_zero hul)) hle hus (e2 _ fS) (e2 _ fD))
end
section
variable {w : World} {mean : ExcName -> Option Value} {mg mb : Str -> Option Value} {A : Around} {base : Heap} {outer : List Env} {s : Shared} {R : Result -> Shared -> Prop}
theorem cov_init {x d G : Addr} (hdx : @LT.lt Nat _ d x) (B : Below A base outer s.heap) (Gd' : Gd w mean mg mb base) (hh : A.handled = none) (hdp : A.depth < 860) (hu : A.units + 320 < cLine) (hkn : Kn base outer s.heap [(x, instObj 426 d), (d, emptyDict)])
  (hR : ∀ h' tk' t1, Kp [d] s.heap h' -> h'.get? d = some (covD w G t1) -> R (.ok (.ret .none)) { s with heap := h', toks := tk' }) :
  codeS (model PW w) A (.call (.ref 402) ⟨[.ref x, .ref G], []⟩) R s := by
 refine enterQ 20 [d] (fun _ => False) B Gd' hh hdp hu hkn (binds := [("self", .ref x), ("glyphs", .ref G)]) (by k_is) (by k_is) (by decide) (by decide) (BindsTo.of_eq rfl) (locs rfl) (.cons (fun p hp => by rw [List.mem_singleton.mp hp]; exact (Nat.ne_of_lt hdx).symm) (.cons (fun _ h => absurd h List.not_mem_nil) .nil)) (fun _ h => h.elim) ?_ rfl rfl rfl (by decide) (by decide)
 intro c z env K hC V hf hS h1 h2 h3 hK
 have hM : d ∈ c.S \/ Fre c d := .inl (by rw [hS]; exact .head _)
 refine setA_q hC (.head _) (by decide) rfl (fun t => ⟨_, rfl, Nat.le_of_ble_eq_true rfl, .tail .head⟩) hM fun t1 => ?_
 refine hK _ _ _ fun h' tk x => ?_
 exact hR _ _ _ x.kp (x.at_ _ (.tail _ (.head _)))
end
structure CvX where
 o : Obj
 kvs : List (Int × Value)
 vg : Option Value
section
variable {w : World} {c : Cf w} {z : Zs} {m : Loc} {l : Led} {k : Value -> Loc -> Led -> Prop}
theorem cov_q {P : Addr} {nn : Nat} {vs : List Value} {xs : List Int} (hC : CfOk c 850 800) (hm : (P, PySem.W.listOf vs.toArray nn) ∈ l) (hx : IntsAre vs xs) (hlen : xs.length <= 8) (hord : xs.Pairwise (· <= ·)) (hnd : xs.Nodup)
  (h : ∀ Cv dc Gl us t1, IntsAre us xs -> @LT.lt Nat _ dc Cv -> Fre c Cv -> Fre c dc -> Fre c Gl -> k (.ref Cv) m ((Cv, instObj 426 dc) :: (dc, covD w Gl t1) :: (Gl, tupO us) :: l)) : WQ c z (call (.ref 437) [.ref P] []) k m l := by
 have hvl := hx.length
 refine enter0 20 l hC (by decide) (by decide) (fun _ h => h) (binds := [("glyphs", .ref P)]) (by k_is) (by k_is) (fun s _ => BindsTo.of_eq rfl) (locs rfl) (fun nd => nd) ?_ rfl rfl rfl (by decide) (by decide)
 intro c1 z1 env K hC1 V hf hS e1 e2 hK
 refine dict_q hC1 fun d o hd0 lo fd => ?_
 refine for_e hC1 V hf rfl ?_
 refine itList_q (vs := vs) (X := CvX) hC1 hf (fun x => [("glyphs", some (.ref P)), ("found", some (.ref d)), ("glyph", x.vg)]) (fun x => (d, x.o) :: l) (fun i x => x.o.IsDictOf (intKind PW w) x.kvs /\ x.kvs.map (·.1) = xs.take i) ⟨o, [], none⟩ rfl rfl ⟨hd0, rfl⟩ (fun _ => .tail _ hm) ?_ ?_
 ·intro i v x z2 hv hz hx6
  refine body_e 20 hC1 (by decide) (by decide) V hf hz fun T0 hT0 => ?_
  obtain ⟨hd, hk⟩ := hx6
  refine hideG ?_; intro PG9 hG9
  obtain ⟨g0, tg, rfl, hg0⟩ := hx.at i v hv
  refine hG9 ?_; clear hG9 PG9
  have hi8 : i < xs.length := (List.getElem?_eq_some_iff.mp hg0).1
  have hkl : x.kvs.length = i := by have := congrArg List.length hk; rw [List.length_map, List.length_take] at this; omega
  refine dset_q hC1 (fun o' => .head) hd (.inr fd) (by omega) fun o2 hd2 => ?_
  have hnk : g0 ∉ x.kvs.map (·.1) := fun q => take_ne hnd hg0 (by rw [<- hk]; exact q)
  refine hT0 ⟨o2, stored x.kvs g0 (.bool true), some _⟩ ⟨hd2, ?_⟩
  show (stored x.kvs g0 (.bool true)).map (·.1) = _
  rw [stored_new hnk, List.map_append, hk, List.take_add_one, hg0]; rfl
 ·rintro x ⟨hd, hk⟩
  rw [hvl, List.take_length] at hk
  refine sortD_q hC1 (.head _) hd lo (by rw [hk]) hord (by omega) fun Ds us1 n1 hus1 fDs => ?_
  have hul := hus1.length
  refine tupL_q hC1 (.head _) (by omega) fun Gl fGl => ?_
  refine new_q (fI := 402) (P := fun o => ∃ t1, o = covD w Gl t1) hC1 (by decide) (by k_is) (by k_is) (by k_is) (fun hdx B G hh hdp hu hkn hR => cov_init hdx B G hh (Nat.lt_of_lt_of_le hdp (by decide)) (Nat.lt_of_le_of_lt (Nat.add_le_add_left (by decide) _) hu) hkn fun h' tk t1 kk e => hR h' tk _ ⟨t1, rfl⟩ kk e) fun Cv dc oc ⟨t1, ec⟩ hlt fCv fdc => ?_
  subst ec
  exact hK _ _ _ [(Cv, _), (dc, covD w Gl t1), (Gl, tupO us1)] (all3 ⟨.head _, fCv⟩ ⟨.tail _ (.head _), fdc⟩ ⟨.tail _ (.tail _ (.head _)), fGl⟩) (nd_pre (new := [_, _, _]) (r := (Ds, PySem.W.listOf us1.toArray n1) :: (d, x.o) :: l)) (h Cv dc Gl us1 t1 hus1 hlt (e2 _ fCv) (e2 _ fdc) (e2 _ fGl))
end
end
section
set_option tactic.hygienic false
open PySem PySem.W PyProof.Rows PySem.Calls PySem.Spec
section
variable {w : World} {c : Cf w} {z : Zs} {m : Loc} {l l1 : Led} {dn un : Nat} {k : Value -> Loc -> Led -> Prop}
theorem shr_q {a n : Int} {t u : Tok} (hn : 0 <= n) (h : ∀ t, k (.int (a.fdiv (2 ^ n.toNat)) t) m l) : WQ c z (binaryOp .RShift (.int a t) (.int n u)) k m l := .same fun s _ y q => rshift_int hn (q _ _ (h _))
theorem and_q {a b : Int} {t u : Tok} (h : ∀ t, k (.int (Builtin.bitAnd a b) t) m l) : WQ c z (binaryOp .BitAnd (.int a t) (.int b u)) k m l := .same fun s _ y q => and_int (q _ _ (h _))
theorem and16_q {a : Int} {t u : Tok} (h : ∀ v t, v = a % 65536 -> 0 <= v -> v < 65536 -> k (.int v t) m l) : WQ c z (binaryOp .BitAnd (.int a t) (.int 65535 u)) k m l := .same fun s _ y q => and16 fun v e v0 v1 => q _ _ (h v _ e v0 v1)
theorem str_q {a : Int} {t : Tok} (h0 : -1000000 <= a) (h1 : a <= 1000000) (h : ∀ x t, x.length <= 21 -> k (.str x t) m l) : WQ c z (call (.type "str") [.int a t] []) k m l := .same fun s _ y q => str_short h0 h1 fun x hx => q _ _ (h x _ hx)
theorem addS_q {x y : Str} {t u : Tok} (hx : x.length <= 1000) (hy : y.length <= 1000) (h : ∀ z' t, k (.str z' t) m l) : WQ c z (binaryOp .Add (.str x t) (.str y u)) k m l := .same fun s _ yy q => add_short hx hy fun z' t' tk => q _ _ (h z' t')
theorem range3_q {a b d : Int} {t u v : Tok} (hC : CfOk c dn un) (hd : d ≠ 0) (hs : d.natAbs < 1073741824) (h : ∀ r t1 u1 v1, Fre c r -> k (.ref r) m ((r, rgO a b d t1 u1 v1) :: l)) : WQ c z (call (.type "range") [.int a t, .int b u, .int d v] []) k m l :=
 .any fun s y => range3_rows y.fr y.nw hd (fun h' tk t1 u1 v1 R F N up => ⟨m, _, y.more (new := [(s.heap.objs.size, rgO a b d t1 u1 v1)]) (.of up) (fun p hp => by rw [List.mem_singleton.mp hp]; exact ⟨R, none_ge (Nat.le_refl _)⟩) (.cons (fun _ h => absurd h List.not_mem_nil) .nil), h _ _ _ _ (hC.fre y (none_ge (Nat.le_refl _)))⟩) (.inl (PyProof.noPylong_small hs))
theorem ba_q (hC : CfOk c dn un) (h : ∀ b, Fre c b -> k (.ref b) m ((b, baO []) :: l)) : WQ c z (call (.type "bytearray") [] []) k m l :=
 ⟨fun s y => wpG_S hC.bt (ba_N y.fr y.nw fun b h' F N lt => ⟨m, _, y.new1 (tk := s.toks) F N lt, h b (hC.fre1 y N lt)⟩)⟩
theorem baM_q {b : Addr} {bs : List UInt8} {pl : Sem Bool} {k : Value × List Value -> Loc -> Led -> Prop} (hm : (b, baO bs) ∈ l) (h : k (.builtin "bytearray.extend", [.ref b]) m l) : WQ c z (getMethod (.ref b) "extend" pl) k m l :=
 .same fun s _ y q => getMethod_ba y.nw (y.mem hm) (q _ s.toks h)
theorem baExt_q {b : Addr} {bs o : List UInt8} {t : Tok} (hC : CfOk c dn un) (U : Rp b (baO bs) (baO (bs ++ o)) l l1) (hM : b ∈ c.S \/ Fre c b) (hz : bs.length + o.length <= 1000000) (h : k .none m l1) : WQ c z (call (.builtin "bytearray.extend") [.ref b, .bytes o.toArray t] []) k m l :=
 ⟨fun s y => wpG_S hC.bt (by
  obtain ⟨g, UF, hg⟩ := (U.zed (z := z)).updF y.nd
  exact extend_N y.fr y.nw UF hz fun h' F N => ⟨m, _, y.upd (tk := s.toks) hC U hM F (N _ (hg _).1).1 fun p hp hn => (N p ((hg _).2 p hp hn)).1, h⟩)⟩
theorem baB_q {b : Addr} {bs : List UInt8} (hm : (b, baO bs) ∈ l) (hz : bs.length <= 1000000) (h : ∀ t, k (.bytes bs.toArray t) m l) : WQ c z (call (.type "bytes") [.ref b] []) k m l := 
 .any fun s y => bytes_N y.fr y.nw (y.mem hm) hz fun t tk => ⟨m, l, y.tok, h t⟩
theorem baL_q {b : Addr} {bs : List UInt8} (hm : (b, baO bs) ∈ l) (hz : bs.length <= 1000000) (h : ∀ t, k (.int bs.length t) m l) : WQ c z (call (.builtin "len") [.ref b] []) k m l := .same fun s _ y q => len_N y.nw (y.mem hm) hz fun t tk => q _ _ (h t)
end
section
variable {w : World} {c : Cf w} {z : Zs} {env : Env} {nms : List (Str × NameKind)} {m : Loc} {l : Led} {d u : Nat}
theorem itcRangeD_q {elt : Expr} {x : Str} {scope : Scope} {cl : List (Str × Addr)} {k : Value -> Loc -> Led -> Prop} {X : Type} {b : Bool} (hC : CfOk c d u) (V : EnvOk c z env nms) {r : Addr} {lo hi dd : Int} {t1 u1 v1 : Tok} {n : Nat} (hr : (r, rgO lo hi dd t1 u1 v1) ∈ l) (hsm : Builtin.Range.small lo hi dd = true) (hn : Builtin.Range.rangeSize lo hi dd = (n : Int)) (hz : n <= 1000000) (ll : X -> Led) (ok : Nat -> X -> List Value -> Prop) (x0 : X) (hl : l = ll x0) (h0 : ok 0 x0 [])
  (step : ElemQ c d u nms elt x scope cl (CEr c b) ll ok n (fun i v => ∃ t, v = .int (lo + (i : Int) * dd) t)) (fin : ∀ x ys, ok n x ys -> ys.length = n -> ∀ D, Fre c D -> k (.ref D) m ((D, LCg.lst ys) :: ll x))
  (hkind : autoParam (scope.kind = .function) rA) (hdb : autoParam ((nmC nms scope.names).lookup ("__debug__" : Str) = none) rA) : ItC c z env elt x scope cl k (CEL c b) (.ref r) m l := fun s y =>
 comp_rangeS hC.hh (y.nw _ (y.mem hr)).1 hsm hn (by rw [sizeLine_eq]; exact Nat.le_trans hz (by decide)) y.fr y.nw (JC c z ll ok) (jc0 y hl h0) (cstepB (b := b) hC V hkind hdb y step) fun ys nw _ _ hj hl => cfinQ fin ys nw hj hl
theorem chain2_q {a b e : Expr} {o1 o2 : CmpOp} {p : Pos} {whole : Sem Value} {k : Bool -> Loc -> Led -> Prop} (hC : CfOk c d u) (V : EnvOk c z env nms)
  (h : (et c z env nms 20).1 e (fun va => (et c z env nms 20).1 a (fun vb => cmpT c z o1 va vb fun q m l => match q with | true => (et c z env nms 20).1 b (fun vc => cmpT c z o2 vb vc k) m l | false => k false m l)) m l) (hm : autoParam (lastMarks [o1, o2] [a, b] = false) rA) :
  WQ c z (isTrue (.Compare e [o1, o2] [a, b] p) env whole) k m l := by
 have E := fun x m l k h => (et_ok V hC 20).1 x m l k h
 show WQ c z (do testChain p (<- eval e env) [o1, o2] (markedEach [o1, o2] [a, b] (evalEach [a, b] env))) k m l
 rw [markedEach_of_false _ _ _ hm]
 refine .bind ((E _ _ _ _ h).mono fun va m l h => ?_)
 show WQ c z (do
  let rv <- holding [va] (eval a env)
  standAt p
  let cv <- holding [va, rv] (compareOp o1 va rv)
  release [va, rv] [cv]
  if <- holding [cv, rv] (truthy cv) then testChain p rv [o2] [eval b env] else pure false) k m l
 refine .bind (.holding ((E _ _ _ _ h).mono fun vb m l h => .at_ (.bind (.holding ((cmp_ok h).mono fun cv m l h => .bind ?_)))))
 refine .any fun s x => wpAny_release' ⟨m, l, x, .bind (.holding (h.mono fun q m l h => ?_))⟩
 cases q with
 | false => exact .pure h
 | true =>
  show WQ c z (do
   let rv <- holding [vb] (eval b env)
   standAt p
   let cv <- operate [vb, rv] (compareOp o2 vb rv)
   holding [cv] (truthy cv)) k m l
  exact .bind (.holding ((E _ _ _ _ h).mono fun vc m l h => .at_ (.bind (.operate ((cmp_ok h).mono fun cv m l h => .holding h)))))
end
section
variable {w : World} {c : Cf w} {z : Zs} {m : Loc} {l l1 : Led} {k : Value -> Loc -> Led -> Prop}
theorem noct_q {n : Int} {ta tb : Tok} (hC : CfOk c 860 500) (h0 : 0 <= n) (h1 : n < 65536) (h : ∀ t, k (.bytes [hi8 n, lo8 n].toArray t) m l) : WQ c z (call (.ref 179) [.int n ta, .int 2 tb] []) k m l := by
 refine enter0C 40 [] hC (by decide) (by decide) nn1 (binds := [("number", .int n ta), ("count", .int 2 tb)]) (by k_is) (by k_is) (fun s _ => BindsTo.of_eq rfl) rfl (by decide +kernel) (fun _ => .nil) ?_ rfl rfl rfl (by decide)
 intro c1 z1 env K L cells Y hcl hfc hC1 V hf hS e1 e2 hK
 obtain ⟨oc, rfl, dc⟩ := CellsAre.one Y
 clear Y
 have hcl2 : env.cells = [(("number" : Str), L + 1)] := hcl
 refine cell_q V rfl (lkc hcl2 rfl) (.head _) dc ?_
 intro t0
 refine Two.mk (fun q => absurd q (by omega)) fun _ => ?_
 refine cell_q V rfl (lkc hcl2 rfl) (.head _) dc ?_
 intro t1
 refine And.intro (.of_left (by decide)) fun t2 => ?_
 refine shr_q (by decide) fun t3 => ?_
 intro t4
 have e16 : n.fdiv (2 ^ (8 * 2 : Int).toNat) = 0 := by
  rw [Int.fdiv_eq_ediv_of_nonneg _ (by decide)]
  show n / 65536 = 0
  omega
 refine Two.mk (fun q => absurd q (by rw [e16]; decide)) fun _ => ?_
 refine comp_q hC1 V hf (clos_q hcl2 rfl) (by decide) rfl (by decide) rfl ?_
 intro t5 t6 t7 t8 t9 t10
 refine range3_q hC1 (by decide) (by decide) fun Rg t12 t13 t14 fRg => ?_
 refine itcRangeD_q (n := 2) (X := Unit) (b := true) hC1 V (.head _) (by decide) (by decide) (by decide) (fun _ => (Rg, rgO (2 - 1) (-1) (-1) t12 t13 t14) :: [(L + 1, oc)]) (fun i _ us => IntsAre us ([n / 256 % 256, n % 256].take i)) () rfl .nil ?_ ?_
 ·intro i v hx2 us c' z' env' hi hx8 hus hyl hC' V' hcl' hEr hS' hF1 hF2
  refine el_e V' hC' fun T0 hT0 => ?_
  obtain ⟨⟩ := hx2
  obtain ⟨t15, rfl⟩ := hx8
  refine cell_q V' rfl (lkc hcl' rfl) (.tail _ (.head _)) dc ?_
  intro t16
  refine And.intro (.of_left (by decide)) fun t17 => ?_
  obtain rfl | rfl : i = 0 \/ i = 1 := by omega
  ·refine shr_q (by decide) fun t18 => ?_
   intro t19
   refine and_q fun t20 => ?_
   refine hT0 () _ _ ?_
   rw [bitAnd_m8]
   have e : n.fdiv (2 ^ (8 * (2 - 1 + ((0 : Nat) : Int) * -1)).toNat) % 256 = n / 256 % 256 := by
    rw [Int.fdiv_eq_ediv_of_nonneg _ (by decide)]
    rfl
   rw [e]
   exact IntsAre.append (ns := []) hus (.cons _ _ .nil)
  ·refine shr_q (by decide) fun t18 => ?_
   intro t19
   refine and_q fun t20 => ?_
   refine hT0 () _ _ ?_
   rw [bitAnd_m8]
   have e : n.fdiv (2 ^ (8 * (2 - 1 + ((1 : Nat) : Int) * -1)).toNat) % 256 = n % 256 := by
    rw [Int.fdiv_eq_ediv_of_nonneg _ (by decide)]
    show n / 1 % 256 = _
    rw [Int.ediv_one]
   rw [e]
   exact IntsAre.append (ns := [n / 256 % 256]) hus (.cons _ _ .nil)
 ·intro _ us hus hyl D fD
  have hus : IntsAre us [n / 256 % 256, n % 256] := hus
  refine bytes_q hC1 (.head _) hus (.cons ⟨by omega, by omega⟩ (.cons ⟨by omega, by omega⟩ .nil)) (szl rfl) fun t15 => ?_
  exact hK _ _ _ [] nn1 nn2 (h t15)
end
end
section
set_option tactic.hygienic false
open PySem PySem.W PyProof.Rows PySem.Calls PySem.Spec
section
variable {w : World} {mean : ExcName -> Option Value} {mg mb : Str -> Option Value} {A : Around} {base : Heap} {outer : List Env} {s : Shared} {R : Result -> Shared -> Prop}
theorem out_init {x d : Addr} (hdx : @LT.lt Nat _ d x) (B : Below A base outer s.heap) (G : Gd w mean mg mb base) (hh : A.handled = none) (hdp : A.depth < 860) (hu : A.units + 320 < cLine) (hkn : Kn base outer s.heap [(x, instObj 266 d), (d, emptyDict)])
  (hR : ∀ h' tk' b t1, Kp [d] s.heap h' -> h'.get? d = some (outD w b t1) -> h'.get? b = some (baO []) -> s.heap.get? b = none -> R (.ok (.ret .none)) { s with heap := h', toks := tk' }) :
  codeS (model PW w) A (.call (.ref 193) ⟨[.ref x], []⟩) R s := by
 refine enterQ 20 [d] (fun _ => False) B G hh hdp hu hkn (binds := [("self", .ref x)]) (by k_is) (by k_is) (by decide) (by decide) (BindsTo.of_eq rfl) (locs rfl) (.cons (fun p hp => by rw [List.mem_singleton.mp hp]; exact (Nat.ne_of_lt hdx).symm) (.cons (fun _ h => absurd h List.not_mem_nil) .nil)) (fun _ h => h.elim) ?_ rfl rfl rfl (by decide) (by decide)
 intro c z env K hC V hf hS h1 h2 h3 hK
 have hM : d ∈ c.S \/ Fre c d := .inl (by rw [hS]; exact .head _)
 refine ba_q hC fun b fb => ?_
 refine setA_q hC (.tail _ (.head _)) (by decide) rfl (fun t => ⟨_, rfl, Nat.le_of_ble_eq_true rfl, .tail (.tail .head)⟩) hM fun t1 => ?_
 refine hK _ _ _ fun h' tk x => ?_
 exact hR _ _ _ _ x.kp (x.at_ _ (.tail _ (.tail _ (.head _)))) (x.at_ _ (.head _)) (h2 _ fb)
end
section
variable {w : World} {c : Cf w} {z : Zs} {m : Loc} {l l1 : Led} {k : Value -> Loc -> Led -> Prop}
theorem onew_q (hC : CfOk c 850 330) (h : ∀ x d b t1, @LT.lt Nat _ d x -> Fre c x -> Fre c d -> Fre c b -> k (.ref x) m ((x, instObj 266 d) :: (d, outD w b t1) :: (b, baO []) :: l)) : WQ c z (call (.ref 266) [] []) k m l := by
 refine codeS_q hC.bt fun s y => ?_
 have B := hC.bel y.fr
 refine hideG ?_; intro PG9 hG9
 obtain ⟨hp, gs, dr, tk, os⟩ := s
 refine hG9 ?_; clear hG9 PG9
 have X := hC.G.kin.keeps B.stays
 refine makeS_core (makes_of X (by k_is)) (looks_findIn X (show findIn (hd.heap_1 w.params) (.ref 266) "__init__" = some (some (.ref 193)) by k_is)) (fun self => bind_fn X self (show typeIn (hd.heap_1 w.params) (.ref 193) = some (.type "function") by k_is)) (.inl rfl) ?_
 have k0 : Kp [] hp ((hp.push emptyDict).push (instObj 266 hp.objs.size)) := kp_push.trans kp_push
 have n0 : hp.get? hp.objs.size = none := none_ge (Nat.le_refl _)
 have n1 : hp.get? (hp.objs.size + 1) = none := none_ge (Nat.le_succ _)
 have g0 : ((hp.push emptyDict).push (instObj 266 hp.objs.size)).get? hp.objs.size = some emptyDict := Heap.get?_push_of_some _ (Heap.get?_push_size _ rfl)
 have g1 : ((hp.push emptyDict).push (instObj 266 hp.objs.size)).get? (hp.objs.size + 1) = some (instObj 266 hp.objs.size) := by heap_get
 have B2 := below_kp B k0 (fun _ h => nomatch h) (fun _ h => nomatch h)
 have B1 : Below (c.A.under (.builtin "type.__call__" ⟨[.ref 266], []⟩)) c.base c.out ((hp.push emptyDict).push (instObj 266 hp.objs.size)) := ⟨B.stack, B2.stays, B2.frames⟩
 refine out_init (d := hp.objs.size) (Nat.lt_succ_self _) B1 hC.G hC.hh (Nat.lt_of_lt_of_le (Nat.succ_lt_succ hC.dp) (by decide)) ?_ ?_ ?_
 ·have := hC.un
  show c.A.units + 1 + 320 < cLine
  omega
 ·intro p hp'
  rcases List.mem_cons.mp hp' with rfl | hp'
  ·exact ⟨g1, below_none B (Nat.le_succ _)⟩
  ·rw [List.mem_singleton.mp hp']; exact ⟨g0, below_none B (Nat.le_refl _)⟩
 ·intro h' tk' b t1 kk e1 e2 e3
  have nb : hp.get? b = none := k0.fresh e3
  have b1 : b ≠ hp.objs.size + 1 := fun q => by rw [q, g1] at e3; cases e3
  have b0 : b ≠ hp.objs.size := fun q => by rw [q, g0] at e3; cases e3
  have kp0 : Kp [] hp h' := ⟨fun a o e _ => kk.kp a o (k0.all a o e) fun q => (by rw [List.mem_singleton.mp q, n0] at e; cases e), fun a o e => kk.ex a o (k0.all a o e)⟩
  refine ⟨rfl, m, _, y.more (new := [(hp.objs.size + 1, instObj 266 hp.objs.size), (hp.objs.size, outD w b t1), (b, baO [])]) kp0 (all3 ⟨kk.kp _ _ g1 fun q => Nat.succ_ne_self _ (List.mem_singleton.mp q), n1⟩ ⟨e1, n0⟩ ⟨e2, nb⟩) (.cons (nn4 (Nat.succ_ne_self _) b1.symm) (.cons (nn3 b0.symm) (.cons nn1 .nil))), h _ _ b t1 (Nat.lt_succ_self _) (hC.fre y n1) (hC.fre y n0) (hC.fre y nb)⟩
section
variable {x d b : Addr} {bs : List UInt8} {t1 tn : Tok}
theorem ou16_q {n : Int} (hC : CfOk c 850 540) (h0 : 0 <= n) (h1 : n < 65536) (hz : bs.length <= 500000) (hx : (x, instObj 266 d) ∈ l) (hd : (d, outD w b t1) ∈ l) (U : Rp b (baO bs) (baO (bs ++ [hi8 n, lo8 n])) l l1) (hM : b ∈ c.S \/ Fre c b) (h : k .none m l1) : WQ c z (call (.ref 207) [.ref x, .int n tn] []) k m l := by
 refine enter1 (d := b) (o := baO bs) 20 l hC (by decide) (by decide) (fun _ h => h) hM U.old (binds := [("self", .ref x), ("number", .int n tn)]) (by k_is) (by k_is) (fun s _ => BindsTo.of_eq rfl) (locs rfl) (fun nd => nd) ?_ rfl rfl rfl (by decide) (by decide)
 intro c1 z1 env K hC1 V hf hS e1 e2 hK
 refine attr_q hC1 hx hd (.tail _ (.tail _ (.head _))) rfl rfl ?_
 refine baM_q U.old ?_
 intro t2
 refine noct_q (hC1.mo rfl) h0 h1 fun t3 => ?_
 refine baExt_q hC1 U (.inl hS) (by show bs.length + 2 <= _; omega) ?_
 exact hK _ _ _ [] _ l1 nn1 nn2 U.new U h
theorem oadd_q {o : List UInt8} (hC : CfOk c 850 540) (hz : bs.length <= 400000) (hzo : o.length <= 500000) (hx : (x, instObj 266 d) ∈ l) (hd : (d, outD w b t1) ∈ l) (U : Rp b (baO bs) (baO (bs ++ o)) l l1) (hM : b ∈ c.S \/ Fre c b) (h : k .none m l1) : WQ c z (call (.ref 249) [.ref x, .bytes o.toArray tn] []) k m l := by
 refine enter1 (d := b) (o := baO bs) 20 l hC (by decide) (by decide) (fun _ h => h) hM U.old (binds := [("self", .ref x), ("octets", .bytes o.toArray tn)]) (by k_is) (by k_is) (fun s _ => BindsTo.of_eq rfl) (locs rfl) (fun nd => nd) ?_ rfl rfl rfl (by decide) (by decide)
 intro c1 z1 env K hC1 V hf hS e1 e2 hK
 refine attr_q hC1 hx hd (.tail _ (.tail _ (.head _))) rfl rfl ?_
 refine baM_q U.old ?_
 refine baExt_q hC1 U (.inl hS) (by omega) ?_
 exact hK _ _ _ [] _ l1 nn1 nn2 U.new U h
theorem ooct_q (hC : CfOk c 850 540) (hz : bs.length <= 1000000) (hx : (x, instObj 266 d) ∈ l) (hd : (d, outD w b t1) ∈ l) (hb : (b, baO bs) ∈ l) (h : ∀ t, k (.bytes bs.toArray t) m l) : WQ c z (call (.ref 263) [.ref x] []) k m l := by
 refine enter0 20 l hC (by decide) (by decide) (fun _ h => h) (binds := [("self", .ref x)]) (by k_is) (by k_is) (fun s _ => BindsTo.of_eq rfl) (locs rfl) (fun nd => nd) ?_ rfl rfl rfl (by decide) (by decide)
 intro c1 z1 env K hC1 V hf hS e1 e2 hK
 refine attr_q hC1 hx hd (.tail _ (.tail _ (.head _))) rfl rfl ?_
 refine baB_q hb hz fun t => ?_
 exact hK _ _ _ [] nn1 nn2 (h t)
theorem oi16_q {n : Int} (hC : CfOk c 845 600) (hn0 : -1000000 <= n) (hn1 : n <= 1000000) (hz : bs.length <= 500000) (hx : (x, instObj 266 d) ∈ l) (hd : (d, outD w b t1) ∈ l) (U : Rp b (baO bs) (baO (bs ++ w16 n)) l l1) (hM : b ∈ c.S \/ Fre c b)
  (h : ok16 n -> k .none m l1) (hE : ¬ ok16 n -> c.Er (-1)) : WQ c z (call (.ref 214) [.ref x, .int n tn] []) k m l := by
 refine enter1 (d := b) (o := baO bs) 20 l hC (by decide) (by decide) (fun _ h => h) hM U.old (binds := [("self", .ref x), ("number", .int n tn)]) (by k_is) (by k_is) (fun s _ => BindsTo.of_eq rfl) (locs rfl) (fun nd => nd) ?_ rfl rfl rfl (by decide) (by decide)
 intro c1 z1 env K hC1 V hf hS e1 e2 hK
 refine chain2_q hC1 V ?_
 intro t2 t3
 refine Two.mk (fun q1 => ?_) fun q1 => ?_
 ·intro t4
  refine Two.mk (fun q2 => ?_) fun q2 => ?_
  ·refine attr_q hC1 hx hd (.tail _ (.tail _ (.head _))) rfl rfl ?_
   refine baM_q U.old ?_
   intro t5
   refine and16_q fun v t6 ev v0 v1 => ?_
   intro t7
   refine noct_q (hC1.mo rfl) v0 v1 fun t8 => ?_
   subst ev
   refine baExt_q hC1 U (.inl hS) (by show bs.length + 2 <= _; omega) ?_
   exact hK _ _ _ [] _ l1 nn1 nn2 U.new U (h ⟨q1, q2⟩)
  ·intro t5
   refine str_q hn0 hn1 fun sx t6 hsx => ?_
   refine addS_q (by decide) (by omega) fun zz t7 => ?_
   exact e1 _ (hE fun q => q2 q.2)
 ·intro t5
  refine str_q hn0 hn1 fun sx t6 hsx => ?_
  refine addS_q (by decide) (by omega) fun zz t7 => ?_
  exact e1 _ (hE fun q => q1 q.1)
end
theorem wanchor_q {a da : Addr} {px py : Int} {t1 t2 t3 t4 : Tok} (hC : CfOk c 840 620) (hx0 : -1000000 <= px) (hx1 : px <= 1000000) (hy0 : -1000000 <= py) (hy1 : py <= 1000000) (h1 : (a, instObj 302 da) ∈ l) (h2 : (da, ancD w px py t1 t2 t3 t4) ∈ l)
  (h : ok16 px /\ ok16 py -> ∀ t, k (.bytes (ancB px py).toArray t) m l) (hE : ¬ (ok16 px /\ ok16 py) -> c.Er (-1)) : WQ c z (call (.ref 334) [.ref a] []) k m l := by
 refine enter0 20 l hC (by decide) (by decide) (fun _ h => h) (binds := [("anchor", .ref a)]) (by k_is) (by k_is) (fun s _ => BindsTo.of_eq rfl) (locs rfl) (fun nd => nd) ?_ rfl rfl rfl (by decide) (by decide)
 intro c1 z1 env K hC1 V hf hS e1 e2 hK
 refine onew_q (hC1.mo rfl) fun x d b t5 lt fx fd fb => ?_
 refine meth_q hC1 (.head _) (.tail _ (.head _)) rfl rfl ?_
 intro t6
 refine ou16_q (hC1.mo rfl) (by decide) (by decide) (by decide) (.head _) (.tail _ (.head _)) (.tail (.tail .head)) (.inr fb) ?_
 refine meth_q hC1 (.head _) (.tail _ (.head _)) rfl rfl ?_
 refine attr_q hC1 (.tail _ (.tail _ (.tail _ h1))) (.tail _ (.tail _ (.tail _ h2))) (.tail _ (.tail _ (.tail _ (.head _)))) rfl rfl ?_
 refine oi16_q (hC1.mo rfl) hx0 hx1 (by decide) (.head _) (.tail _ (.head _)) (.tail (.tail .head)) (.inr fb) (fun ox => ?_) fun q => e1 _ (hE fun r => q r.1)
 refine meth_q hC1 (.head _) (.tail _ (.head _)) rfl rfl ?_
 refine attr_q hC1 (.tail _ (.tail _ (.tail _ h1))) (.tail _ (.tail _ (.tail _ h2))) (.tail _ (.tail _ (.tail _ (.tail _ (.head _))))) rfl rfl ?_
 refine oi16_q (hC1.mo rfl) hy0 hy1 (Nat.le_of_ble_eq_true rfl) (.head _) (.tail _ (.head _)) (.tail (.tail .head)) (.inr fb) (fun oy => ?_) fun q => e1 _ (hE fun r => q r.2)
 refine meth_q hC1 (.head _) (.tail _ (.head _)) rfl rfl ?_
 refine ooct_q (hC1.mo rfl) (Nat.le_of_ble_eq_true rfl) (.head _) (.tail _ (.head _)) (.tail _ (.tail _ (.head _))) fun t7 => ?_
 exact hK _ _ _ [] nn1 nn2 (h ⟨ox, oy⟩ t7)
theorem written0_q (hC : CfOk c 835 640) (h : k .none m l) : WQ c z (call (.ref 341) [.none] []) k m l := by
 refine enter0 20 [] hC (by decide) (by decide) nn1 (binds := [("anchor", .none)]) (by k_is) (by k_is) (fun s _ => BindsTo.of_eq rfl) (locs rfl) (fun _ => .nil) ?_ rfl rfl rfl (by decide) (by decide)
 intro c1 z1 env K hC1 V hf hS e1 e2 hK
 exact hK _ _ _ [] nn1 nn2 h
theorem written1_q {a da : Addr} {px py : Int} {t1 t2 t3 t4 : Tok} (hC : CfOk c 835 640) (hx : ok16 px) (hy : ok16 py) (h1 : (a, instObj 302 da) ∈ l) (h2 : (da, ancD w px py t1 t2 t3 t4) ∈ l) (h : ∀ t, k (.bytes (ancB px py).toArray t) m l) : WQ c z (call (.ref 341) [.ref a] []) k m l := by
 have hx1 := hx; have hy1 := hy
 unfold ok16 at hx1 hy1
 refine enter0 20 l hC (by decide) (by decide) (fun _ h => h) (binds := [("anchor", .ref a)]) (by k_is) (by k_is) (fun s _ => BindsTo.of_eq rfl) (locs rfl) (fun nd => nd) ?_ rfl rfl rfl (by decide) (by decide)
 intro c1 z1 env K hC1 V hf hS e1 e2 hK
 refine wanchor_q (hC1.mo rfl) (by omega) (by omega) (by omega) (by omega) h1 h2 (fun _ t => ?_) fun q => absurd ⟨hx, hy⟩ q
 exact hK _ _ _ [] nn1 nn2 (h t)
theorem orows_q {x d b P : Addr} {bs : List UInt8} {t1 : Tok} {ns : List Int} {ys : List Value} {np : Nat} {lx : List UInt8 -> Led} (hC : CfOk c 840 600) (hys : IntsAre ys ns) (hr : ∀ n ∈ ns, 0 <= n /\ n < 65536) (hn : ns.length <= 1000) (hz : bs.length <= 400000) (hl : lx bs = l) (hx : ∀ o, (x, instObj 266 d) ∈ lx o) (hd : ∀ o, (d, outD w b t1) ∈ lx o) (hP : ∀ o, (P, PySem.W.listOf ys.toArray np) ∈ lx o)
  (U : ∀ o o', Rp b (baO o) (baO o') (lx o) (lx o')) (hM : b ∈ c.S \/ Fre c b) (h : k .none m (lx (bs ++ rowsB ns))) : WQ c z (call (.ref 242) [.ref x, .ref P] []) k m l := by
 subst hl
 have hyl := hys.length
 refine enter1 (d := b) (o := baO bs) 20 (lx bs) hC (by decide) (by decide) (fun _ h => h) hM (U bs bs).old (binds := [("self", .ref x), ("numbers", .ref P)]) (by k_is) (by k_is) (fun s _ => BindsTo.of_eq rfl) (locs rfl) (fun nd => nd) ?_ rfl rfl rfl (by decide) (by decide)
 intro c1 z1 env K hC1 V hf hS e1 e2 hK
 refine for_e hC1 V hf rfl ?_
 refine itList_q (vs := ys) (X := List UInt8 × Option Value) hC1 hf (fun y => [("self", some (.ref x)), ("numbers", some (.ref P)), ("number", y.2)]) (fun y => lx y.1) (fun i y => y.1 = bs ++ rowsB (ns.take i)) (bs, none) rfl rfl (by show bs = bs ++ rowsB []; simp [rowsB]) (fun y => hP _) ?_ ?_
 ·intro i v hx2 z2 hv hz2 ho
  refine body_e 20 hC1 (by decide) (by decide) V hf hz2 fun T0 hT0 => ?_
  obtain ⟨o, v2⟩ := hx2
  have ho : o = bs ++ rowsB (ns.take i) := ho
  refine hideG ?_; intro PG9 hG9
  obtain ⟨n, t, rfl, hn2⟩ := hys.at i v hv
  refine hG9 ?_; clear hG9 PG9
  have hi : i < ns.length := (List.getElem?_eq_some_iff.mp hn2).1
  have b1 := hr n (List.mem_of_getElem? hn2)
  have b2 : (rowsB (ns.take i)).length <= 2000 := by rw [rowsB_len, List.length_take]; omega
  refine meth_q hC1 (hx o) (hd o) rfl rfl ?_
  refine ou16_q (l1 := lx (o ++ [hi8 n, lo8 n])) (hC1.mo rfl) b1.1 b1.2 (by rw [ho, List.length_append]; omega) (hx o) (hd o) (U _ _) (.inl hS) ?_
  refine hT0 (o ++ [hi8 n, lo8 n], some _) ?_
  show o ++ _ = bs ++ rowsB (ns.take (i + 1))
  rw [rowsB_take hi, <- List.append_assoc, ho, List.getD_eq_getElem?_getD, hn2]
  rfl
 ·rintro ⟨o, v2⟩ ho
  have ho : o = bs ++ rowsB (ns.take ys.length) := ho
  rw [hyl, List.take_length] at ho
  subst ho
  exact hK _ _ _ [] _ _ nn1 nn2 (U bs (bs ++ rowsB ns)).new (U bs _) h
end
end
section
set_option tactic.hygienic false
open PySem PySem.W PyProof.Rows PySem.Calls PySem.Spec
section
variable {w : World} {c : Cf w} {z : Zs} {m : Loc} {l l1 : Led} {dn un : Nat} {k : Value -> Loc -> Led -> Prop}
theorem isN_q {v : Value} (h : k (.bool (v == .none)) m l) : WQ c z (compareOp .Is v .none) k m l := .same fun s _ y q => is_none_gen (q _ s.toks h)
theorem bin_q {D : Addr} {o : Obj} {kvs : List (List UInt8 × Value)} {b : List UInt8} {t : Tok} {q : Bool} (hm : (D, o) ∈ l) (hd : o.IsDictOf (bytesKind PW w) kvs) (lo : (D == sysModules) = false) (hq : (valueAt kvs b).isSome = q) (h : k (.bool q) m l) : WQ c z (compareOp .In (.bytes b.toArray t) (.ref D)) k m l :=
 .same fun s _ y r => kda_in (knd := bytesKind PW w) y.nw (y.mem hm) hd lo (bytesKind_is _ _ _ _) q hq (r _ _ h)
theorem bitem_q {D : Addr} {o : Obj} {kvs : List (List UInt8 × Value)} {b : List UInt8} {t : Tok} {v : Value} {ve sl : Expr} (hm : (D, o) ∈ l) (hd : o.IsDictOf (bytesKind PW w) kvs) (hv : valueAt kvs b = some v) (h : k v m l)
  (hs : autoParam (∀ (o i : Value), subscripted sl false o i = operate [o, i] (getItem o i)) rA) (hg : autoParam (∀ (o r : Value), letTemporaryGo ve o r = pure ()) rA) : WQ c z (subscriptTail ve sl (.ref D) (.bytes b.toArray t)) k m l :=
 .same fun s _ y q => kda_item (knd := bytesKind PW w) y.nw (y.mem hm) hd (bytesKind_is _ _ _ _) hv (q _ _ h) (hs _ _) (hg _)
theorem bset_q {D : Addr} {kvs : List (List UInt8 × Value)} {o : Obj} {b : List UInt8} {t : Tok} {v : Value} {l1 : Obj -> Led} {k : Unit -> Loc -> Led -> Prop} (hC : CfOk c dn un) (U : ∀ o', Rp D o o' l (l1 o')) (hd : o.IsDictOf (bytesKind PW w) kvs) (hM : D ∈ c.S \/ Fre c D) (hz : kvs.length <= 1000000)
  (h : ∀ o', o'.IsDictOf (bytesKind PW w) (stored kvs b v) -> k () m (l1 o')) : WQ c z (setItem (.ref D) (.bytes b.toArray t) v) k m l :=
 .any fun s y => by
  obtain ⟨g, UF, hg⟩ := ((U o).zed (z := z)).updF y.nd
  exact kda_set (knd := bytesKind PW w) y.fr y.nw UF hd (bytesKind_is _ _ _ _) (by rw [sizeLine_eq]; exact Nat.le_trans hz (by decide)) fun h' o' F N hd' => ⟨m, _, y.upd hC (U o') hM F (N _ (hg _).1).1 fun p hp hn => (N p ((hg _).2 p hp hn)).1, h o' hd'⟩
theorem glob_q {env : Env} {nms : List (Str × NameKind)} {x : Str} {pos : Pos} {v : Value} (V : EnvOk c z env nms) (hn : nms.lookup x = some .globalImplicit) (he : nsIn (hd.heap_1 w.params) mainGlobals x = some (some v)) (h : k v m l) (hd : autoParam ((x == ("__debug__" : Str)) = false) rA) : WQ c z (eval (.Name x pos) env) k m l :=
 .any fun s y => V.gl (z1 := z.led) y hn he hd ⟨m, l, y, h⟩
end
structure LdX where
 st : LaidSt
 ys : List Value
 n9 : Nat
 vals : List (List UInt8 × Int × Tok)
 o : Obj
 v1 : Option Value
 v2 : Option Value
structure LdOk (w : World) (beg : Int) (ds : List (Option (List UInt8))) (i : Nat) (x : LdX) : Prop where
 st : x.st = laidS beg (ds.take i)
 ys : IntsAre x.ys x.st.offs
 pl : plOf x.vals = x.st.ps
 d : x.o.IsDictOf (bytesKind PW w) (intPairs x.vals)
section
variable {w : World} {c : Cf w} {z : Zs} {m : Loc} {l : Led} {k : Value -> Loc -> Led -> Prop}
theorem laid_q {P : Addr} {nn : Nat} {beg : Int} {ta : Tok} {vs : List Value} {ds : List (Option (List UInt8))} (hC : CfOk c 840 600) (hm : (P, PySem.W.listOf vs.toArray nn) ∈ l) (hp : PartsAre vs ds) (h6 : ∀ b, some b ∈ ds -> b.length <= 6) (hn : ds.length <= 1000) (h0 : 0 <= beg) (h1 : beg <= 10000)
  (h : ∀ T O ys t n, IntsAre ys (laidS beg ds).offs -> Fre c T -> Fre c O -> k (.ref T) m ((T, tupO [.ref O, .bytes (laidS beg ds).out.toArray t]) :: (O, PySem.W.listOf ys.toArray n) :: l)) : WQ c z (call (.ref 278) [.int beg ta, .ref P] []) k m l := by
 have hvl := hp.len
 refine enter0 20 l hC (by decide) (by decide) (fun _ h => h) (binds := [("begin", .int beg ta), ("parts", .ref P), ("is_shared", .bool true)]) (by k_is) (by k_is) (fun s hs => binds_K hs rfl (by k_is) rfl rfl rfl) (locs rfl) (fun nd => nd) ?_ rfl rfl rfl (by decide) (by decide)
 intro c1 z1 env K hC1 V hf hS e1 e2 hK
 refine newList_q hC1 (szl rfl) fun Lo fLo => ?_
 refine dict_q hC1 fun d od hd0 lo fd => ?_
 refine ba_q hC1 fun b fb => ?_
 refine for_e hC1 V hf rfl ?_
 refine itList_q (vs := vs) (X := LdX) hC1 hf (fun x => [("begin", some (.int beg ta)), ("parts", some (.ref P)), ("is_shared", some (.bool true)), ("offsets", some (.ref Lo)), ("places", some (.ref d)), ("out", some (.ref b)), ("part", x.v1), ("place", x.v2)])
  (fun x => (b, baO x.st.out) :: (d, x.o) :: (Lo, PySem.W.listOf x.ys.toArray x.n9) :: l) (LdOk w beg ds) ⟨⟨[], [], []⟩, [], 0, [], od, none, none⟩ rfl rfl ⟨rfl, .nil, rfl, dict_empty hd0⟩ (fun x => .tail _ (.tail _ (.tail _ hm))) ?_ ?_
 ·intro i v x z2 hv hz hok
  obtain ⟨dd, hd1, hpv⟩ := hp.at_ i v hv
  have e := laidS_succ (beg := beg) hd1
  have hbb := laidS_len (beg := beg) (n := 6) (ds := ds.take i) fun b hb => h6 b (List.mem_of_mem_take hb)
  have hti : (ds.take i).length <= 1000 := by rw [List.length_take]; omega
  refine hideG ?_; intro PG9 hG9
  obtain ⟨st, ys, n9, vals, o, v1, v2⟩ := x
  refine hG9 ?_; clear hG9 PG9
  refine hideG ?_; intro PG9 hG9
  obtain ⟨est, hys, hpl, hd⟩ := hok
  refine hG9 ?_; clear hG9 PG9
  have est : st = laidS beg (ds.take i) := est
  rw [<- est] at e hbb
  obtain ⟨b1, b2, b3⟩ := hbb
  have hyl := hys.length
  have hvl2 : vals.length = st.ps.length := by rw [<- hpl]; unfold plOf; rw [List.length_map]
  have hyl : ys.length = st.offs.length := hyl
  refine body_e 20 hC1 (by decide) (by decide) V hf hz fun T0 hT0 => ?_
  cases dd with
  | none =>
   obtain rfl := hpv
   refine lmApp_q (.tail _ (.tail _ (.head _))) ?_
   intro t1
   refine app_q hC1 (.tail (.tail .head)) (.inr fLo) (show ys.length <= 1000000 by omega) ?_
   exact hT0 ⟨laidStep beg st none, _, _, vals, o, some _, v2⟩ ⟨e.symm, IntsAre.append hys (.cons _ _ .nil), hpl, hd⟩
  | some bb =>
   obtain ⟨t, rfl⟩ := hpv
   have hb6 : bb.length <= 6 := h6 bb (List.mem_of_getElem? hd1)
   refine isN_q ?_
   cases q : plAt st.ps bb with
   | some p =>
    have q' := q
    have q2 : plAt (plOf vals) bb = some p := by rw [show plOf vals = st.ps from hpl]; exact q
    rw [plAt_of] at q2
    have hs : (valueAt (intPairs vals) bb).isSome = true := by rw [isSome_valueAt_intPairs, q2]; rfl
    obtain ⟨t', hv'⟩ := valueAt_intPairs_of_isSome (vals := vals) (k := bb) (by rw [q2]; rfl)
    rw [q2] at hv'
    dsimp only [Option.getD] at hv'
    refine bin_q (.tail _ (.head _)) hd lo hs ?_
    refine lmApp_q (.tail _ (.tail _ (.head _))) ?_
    refine bitem_q (.tail _ (.head _)) hd hv' ?_
    refine app_q hC1 (.tail (.tail .head)) (.inr fLo) (show ys.length <= 1000000 by omega) ?_
    have e2 : laidStep beg st (some bb) = { st with offs := st.offs ++ [p] } := by
     unfold laidStep
     dsimp only
     rw [q']
    rw [e2] at e
    exact hT0 ⟨{ st with offs := st.offs ++ [p] }, _, _, vals, o, some _, v2⟩ ⟨e.symm, IntsAre.append hys (.cons _ _ .nil), hpl, hd⟩
   | none =>
    have q' := q
    have q2 : plAt (plOf vals) bb = none := by rw [show plOf vals = st.ps from hpl]; exact q
    rw [plAt_of] at q2
    have hs : (valueAt (intPairs vals) bb).isSome = false := by rw [isSome_valueAt_intPairs, q2]; rfl
    have hil : (intPairs vals).length = vals.length := by unfold intPairs; rw [List.length_map]
    refine bin_q (.tail _ (.head _)) hd lo hs ?_
    refine baL_q (.head _) (by show st.out.length <= _; omega) fun t1 => ?_
    intro t2
    refine glob_q (V.shift z2 hz) rfl (show nsIn (Mine.hd.heap_1 w.params) mainGlobals ("MOST_OFFSET" : Str) = some (some (.int 65535 256)) by kernel_rfl) ?_
    refine Two.mk (fun q3 => absurd q3 (by show ¬ (65535 < beg + (st.out.length : Int)); omega)) fun _ => ?_
    refine bset_q hC1 (fun o' => .tail .head) hd (.inr fd) (by rw [hil, hvl2]; omega) fun o2 hd2 => ?_
    rw [stored_intPairs q2] at hd2
    refine lmApp_q (.tail _ (.tail _ (.head _))) ?_
    refine app_q hC1 (.tail (.tail .head)) (.inr fLo) (show ys.length <= 1000000 by omega) ?_
    refine baM_q (.head _) ?_
    refine baExt_q hC1 .head (.inr fb) (by show st.out.length + _ <= _; omega) ?_
    have e2 : laidStep beg st (some bb) = ⟨st.offs ++ [beg + st.out.length], st.ps ++ [(bb, beg + (st.out.length : Int))], st.out ++ bb⟩ := by
     unfold laidStep
     dsimp only
     rw [q']
    rw [e2] at e
    refine hT0 ⟨⟨st.offs ++ [beg + st.out.length], st.ps ++ [(bb, beg + (st.out.length : Int))], st.out ++ bb⟩, _, _, vals ++ [(bb, beg + (st.out.length : Int), _)], o2, some _, some _⟩ ⟨e.symm, IntsAre.append hys (.cons _ _ .nil), ?_, hd2⟩
    unfold plOf at hpl ⊢
    show List.map _ (vals ++ _) = _
    rw [List.map_append, hpl]
    rfl
 ·intro x hok
  have hbb := laidS_len (beg := beg) (n := 6) (ds := ds.take vs.length) fun b hb => h6 b (List.mem_of_mem_take hb)
  refine hideG ?_; intro PG9 hG9
  obtain ⟨st, ys, n9, vals, o, v1, v2⟩ := x
  refine hG9 ?_; clear hG9 PG9
  refine hideG ?_; intro PG9 hG9
  obtain ⟨est, hys, hpl, hd⟩ := hok
  refine hG9 ?_; clear hG9 PG9
  have est : st = laidS beg (ds.take vs.length) := est
  rw [hvl, List.take_length] at est hbb
  subst est
  refine baB_q (.head _) (by show (laidS beg ds).out.length <= _; omega) fun t1 => ?_
  refine newTup_q hC1 (szl rfl) fun T fT => ?_
  refine hK _ _ _ [(T, _), (Lo, _)] (nn4 ⟨.head _, fT⟩ ⟨.tail _ (.tail _ (.tail _ (.head _))), fLo⟩) (fun nd => ?_) (h T Lo ys t1 n9 hys (e2 _ fT) (e2 _ fLo))
  have n1 := (List.pairwise_cons.mp nd).1 _ (.tail _ (.tail _ (.head _)))
  exact .cons (nn3 n1) (.cons nn1 .nil)
end
end
section
set_option tactic.hygienic false
open PySem PySem.W PyProof.Rows PySem.Calls PySem.Spec
section
variable {w : World} {c : Cf w} {z : Zs} {env : Env} {nms : List (Str × NameKind)} {m : Loc} {l : Led} {d u : Nat}
theorem asg2_q {x y : Str} {px py tp pos : Pos} {ek : Nat} {v : Expr} {K : Flow -> Loc -> Led -> Prop} (hC : CfOk c d u) (V : EnvOk c z env nms) (hf : ForOk c z env nms) (hx : nms.lookup x = some .local) (hy : nms.lookup y = some .local)
  (h : (et c z env nms 20).1 v (fun w1 m1 l1 => ∃ T a b n, w1 = .ref T /\ (T, tupN [a, b] n) ∈ l1 /\ K .next (up (up m1 x a) y b) l1) m l)
  (hs : swapsWithSole [.Tuple [.Name x px, .Name y py] ek tp] v pos.line env = pure false) (hw : swappedStores [.Tuple [.Name x px, .Name y py] ek tp] v env = pure none) : WQ c z (exec (.Assign [.Tuple [.Name x px, .Name y py] ek tp] v pos) env) K m l := by
 refine ⟨fun s a => wpG_S hC.bt (wpS_Assign_Tuple (wpS_mono (toS (((et_ok V hC 20).1 _ _ _ _ h).run s a)) (fun w1 s₁ ⟨m1, l1, y1, q⟩ => ?_) fun _ _ e => e) hs hw)⟩
 refine hideG ?_; intro PG9 hG9
 obtain ⟨T, va, vb, n, rfl, hT, hq⟩ := q
 refine hG9 ?_; clear hG9 PG9
 refine assign_Tuple_tuple (items := #[va, vb]) hC.hh ⟨_, (y1.nw _ (y1.mem hT)).1, rfl, n, rfl⟩ rfl rfl fun h' hx' => ?_
 have y2 : At c z m1 l1 { s₁ with heap := h', toks := s₁.toks } := y1.k0 (.of fun b o e => hx' b o (Nat.ne_of_lt (Heap.lt_size e)) e)
 show wpAny _ c.A (holding [vb] (assign (.Name x px) env va) >>= fun _ => holding [] (assign (.Name y py) env vb) >>= fun _ => pure ()) _ _ _
 refine wpAny_bind (wpAny_holding (wpAny_bind (wpAny_standAt (hf.st (z1 := z.led) y2 hx fun s' y3 => ?_))))
 refine wpAny_bind (wpAny_holding (wpAny_bind (wpAny_standAt (hf.st (z1 := z.led) y3 hy fun s' y4 => ?_))))
 exact wpAny_pure ⟨_, l1, y4, hq⟩
end
section
variable {w : World} {c : Cf w} {z : Zs} {m : Loc} {l : Led} {k : Value -> Loc -> Led -> Prop}
theorem wmarks_q {M : Addr} {o : Obj} {kvs : List (Int × Value)} {ms : List Mk} (hC : CfOk c 800 1000) (hm : (M, o) ∈ l) (hd : o.IsDictOf (intKind PW w) kvs) (lo : (M == sysModules) = false) (hM : MarksAre w l kvs ms) (hn : ms.length <= 8) (hok : ∀ m ∈ ms, ok16 m.x /\ ok16 m.y /\ 0 <= m.c /\ m.c < 65536)
  (h : ∀ t, k (.bytes (wmB ms).toArray t) m l) : WQ c z (call (.ref 361) [.ref M] []) k m l := by
 have hgl : (ms.map (·.g)).length = ms.length := List.length_map ..
 have h6 : ∀ b, some b ∈ (ms.map fun m => some (ancB m.x m.y)) -> b.length <= 6 := fun b hb => by
  obtain ⟨m, _, e⟩ := List.mem_map.mp hb
  cases e
  exact Nat.le_refl _
 have hdl : (ms.map fun m => some (ancB m.x m.y)).length = ms.length := List.length_map ..
 have hln := laidS_len (beg := 2 + 4 * (ms.length : Int)) h6
 have hbn := laidS_bnd (beg := 2 + 4 * (ms.length : Int)) (by omega) h6
 rw [hdl] at hln hbn
 refine enter0C 40 l hC (by decide) (by decide) (fun _ h => h) (binds := [("marks", .ref M)]) (by k_is) (by k_is) (fun s _ => BindsTo.of_eq rfl) rfl (by decide +kernel) (fun nd => nd) ?_ rfl rfl rfl (by decide)
 intro c1 z1 env K L cells Y hcl hfc hC1 V hf hS e1 e2 hK
 obtain ⟨oc, rfl, dc⟩ := CellsAre.one Y
 clear Y
 have hcl2 : env.cells = [(("marks" : Str), L + 1)] := hcl
 refine cell_q V rfl (lkc hcl2 rfl) (.head _) dc ?_
 refine sortD_q hC1 (.tail _ hm) hd lo hM.perm hM.ord (by omega) fun Ds us1 n1 hus1 fDs => ?_
 have hul := hus1.length
 refine asg2_q hC1 V hf rfl rfl ?_ rfl rfl
 intro t0 t1
 refine lenL_q (.head _) (by omega) fun t2 => ?_
 refine And.intro (.of_left (by decide)) fun t3 => ?_
 intro t4
 refine comp_q hC1 V hf (clos_q hcl2 rfl) (by decide) rfl (by decide) rfl ?_
 refine itcList_q (vs := us1) (X := Unit) (b := true) hC1 V (fun _ => (Ds, PySem.W.listOf us1.toArray n1) :: (L + 1, oc) :: l) (fun i _ us => PartsAre us ((ms.take i).map fun m => some (ancB m.x m.y))) () rfl ⟨rfl, fun i v h => by cases h⟩ (fun _ => .head _) (by omega) ?_ ?_
 ·intro i v hx2 us c' z' env' hi hv hus hyl hC' V' hcl' hEr hS' hF1 hF2
  refine el_e V' hC' fun T0 hT0 => ?_
  obtain ⟨⟩ := hx2
  refine hideG ?_; intro PG9 hG9
  obtain ⟨g0, tg, rfl, hg0⟩ := hus1.at i v hv
  refine hG9 ?_; clear hG9 PG9
  obtain ⟨mk, hmk⟩ : ∃ mk, ms[i]? = some mk := ⟨ms[i]'(by omega), List.getElem?_eq_getElem (by omega)⟩
  rw [List.getElem?_map, hmk] at hg0
  cases hg0
  refine hideG ?_; intro PG9 hG9
  obtain ⟨T, tc, va, hval, hT, a, da, t1, t2, t3, t4, rfl, ha, hda, hlt⟩ := hM.at_ mk (List.mem_of_getElem? hmk)
  refine hG9 ?_; clear hG9 PG9
  refine hideG ?_; intro PG9 hG9
  obtain ⟨ox, oy, _, _⟩ := hok mk (List.mem_of_getElem? hmk)
  refine hG9 ?_; clear hG9 PG9
  have ox1 := ox; have oy1 := oy
  unfold ok16 at ox1 oy1
  refine cell_q V' rfl (lkc hcl' rfl) (.tail _ (.head _)) dc ?_
  refine ditem_q (.tail _ (.tail _ hm)) hd hval ?_
  intro t5
  refine itemT_q (.tail _ (.tail _ hT)) (by decide) (by decide) (j := 1) rfl rfl ?_
  refine wanchor_q (hC'.mo rfl) (by omega) (by omega) (by omega) (by omega) (.tail _ (.tail _ ha)) (.tail _ (.tail _ hda)) (fun _ t6 => ?_) fun q => absurd ⟨ox, oy⟩ q
  refine hT0 () _ _ ?_
  show PartsAre _ ((ms.take (i + 1)).map fun m => some (ancB m.x m.y))
  rw [List.take_add_one, hmk, Option.toList_some, List.map_append]
  exact hus.snoc (d := some (ancB mk.x mk.y)) ⟨_, rfl⟩
 intro _ us hus hyl D fD
 have hus : PartsAre us ((ms.take us1.length).map fun m => some (ancB m.x m.y)) := hus
 rw [show us1.length = ms.length by omega, List.take_length] at hus
 rw [show (us1.length : Int) = ms.length by omega]
 refine laid_q (hC1.mo rfl) (.head _) hus h6 (by omega) (by omega) (by omega) fun T O ys t5 nO hys fT fO => ?_
 refine ⟨T, _, _, 0, rfl, .head _, ?_⟩
 have hyl2 := hys.length
 refine onew_q (hC1.mo rfl) fun x d b t6 lt fx fd fb => ?_
 refine meth_q hC1 (.head _) (.tail _ (.head _)) rfl rfl ?_
 refine lenL_q (.tail _ (.tail _ (.tail _ (.tail _ (.tail _ (.tail _ (.head _))))))) (by omega) fun t7 => ?_
 rw [show (us1.length : Int) = ms.length by omega]
 refine ou16_q (hC1.mo rfl) (by omega) (by omega) (by decide) (.head _) (.tail _ (.head _)) (.tail (.tail .head)) (.inr fb) ?_
 refine for_e hC1 V hf rfl ?_
 refine lenL_q (.tail _ (.tail _ (.tail _ (.tail _ (.tail _ (.tail _ (.head _))))))) (by omega) fun t8 => ?_
 refine range1_q hC1 fun Rg t9 t10 t11 fRg => ?_
 refine itRange_q (n := ms.length) (X := List UInt8 × Option Value) hC1 hf (.head _) (by omega) (by omega) (fun y => [("glyphs", some (.ref Ds)), ("offsets", some (.ref O)), ("octets", some (.bytes (wmS ms).out.toArray t5)), ("out", some (.ref x)), ("place", y.2)])
  (fun y => (Rg, rgO 0 us1.length 1 t9 t10 t11) :: (x, instObj 266 d) :: (d, outD w b t6) :: (b, baO y.1) :: (T, tupO [.ref O, .bytes (wmS ms).out.toArray t5]) :: (O, PySem.W.listOf ys.toArray nO) :: (D, LCg.lst us) :: (Ds, PySem.W.listOf us1.toArray n1) :: (L + 1, oc) :: l)
  (fun i y => y.1 = [] ++ [hi8 ms.length, lo8 ms.length] ++ (List.range i).flatMap (wmRow ms)) ([] ++ [hi8 ms.length, lo8 ms.length], none) rfl rfl (by show _ = _ ++ []; rw [List.append_nil]) ?_ ?_
 ·intro i ti hx2 z2 hi hz hpre
  refine body_e 20 hC1 (by decide) (by decide) V hf hz fun T0 hT0 => ?_
  obtain ⟨pre, v2⟩ := hx2
  have hpre : pre = [] ++ [hi8 ms.length, lo8 ms.length] ++ (List.range i).flatMap (wmRow ms) := hpre
  obtain ⟨mk, hmk⟩ : ∃ mk, ms[i]? = some mk := ⟨ms[i], List.getElem?_eq_getElem hi⟩
  have hmem : mk ∈ ms := List.mem_of_getElem? hmk
  obtain ⟨tg, htg⟩ : ∃ t, us1[(i : Int).toNat]? = some (.int mk.g t) := hus1.get i mk.g (by rw [List.getElem?_map, hmk]; rfl)
  refine hideG ?_; intro PG9 hG9
  obtain ⟨T2, tc, va, hval, hT, -⟩ := hM.at_ mk hmem
  refine hG9 ?_; clear hG9 PG9
  refine hideG ?_; intro PG9 hG9
  obtain ⟨-, -, oc1, oc2⟩ := hok mk hmem
  refine hG9 ?_; clear hG9 PG9
  have hoff : (laidS (2 + 4 * (ms.length : Int)) (ms.map fun m => some (ancB m.x m.y))).offs[i]? = some ((wmS ms).offs.getD i 0) := by
   show (wmS ms).offs[i]? = _
   have : i < (wmS ms).offs.length := by show i < (laidS _ _).offs.length; omega
   rw [List.getD_eq_getElem?_getD, List.getElem?_eq_getElem this]; rfl
  obtain ⟨to, hto⟩ : ∃ t, ys[(i : Int).toNat]? = some (.int ((wmS ms).offs.getD i 0) t) := hys.get i _ hoff
  obtain ⟨ob1, ob2⟩ := hbn _ (List.mem_of_getElem? hoff)
  have hrow : wmRow ms i = [hi8 mk.c, lo8 mk.c] ++ [hi8 ((wmS ms).offs.getD i 0), lo8 ((wmS ms).offs.getD i 0)] := by
   unfold wmRow
   rw [show ms.getD i ⟨0, 0, 0, 0⟩ = mk by rw [List.getD_eq_getElem?_getD, hmk]; rfl]
  have hfl := wm_pre_len ms i
  have hpl : pre.length = 2 + 4 * i := by rw [hpre, List.length_append, hfl]; rfl
  generalize (wmS ms).offs.getD i 0 = off at *
  refine meth_q hC1 (.tail _ (.head _)) (.tail _ (.tail _ (.head _))) rfl rfl ?_
  refine cell_q (V.shift z2 hz) rfl (lkc hcl2 rfl) (.tail _ (.tail _ (.tail _ (.tail _ (.tail _ (.tail _ (.tail _ (.tail _ (.head _))))))))) dc ?_
  refine itemL_q (.tail _ (.tail _ (.tail _ (.tail _ (.tail _ (.tail _ (.tail _ (.head _)))))))) (by omega) (by omega) htg ?_
  refine ditem_q (.tail _ (.tail _ (.tail _ (.tail _ (.tail _ (.tail _ (.tail _ (.tail _ (.tail _ hm))))))))) hd hval ?_
  intro t12
  refine itemT_q (.tail _ (.tail _ (.tail _ (.tail _ (.tail _ (.tail _ (.tail _ (.tail _ (.tail _ hT))))))))) (by decide) (by decide) (j := 0) rfl rfl ?_
  refine ou16_q (hC1.mo rfl) oc1 oc2 (show pre.length <= 500000 by omega) (.tail _ (.head _)) (.tail _ (.tail _ (.head _))) (.tail (.tail (.tail .head))) (.inr fb) ?_
  refine meth_q hC1 (.tail _ (.head _)) (.tail _ (.tail _ (.head _))) rfl rfl ?_
  refine itemL_q (.tail _ (.tail _ (.tail _ (.tail _ (.tail _ (.head _)))))) (by omega) (by omega) hto ?_
  refine ou16_q (hC1.mo rfl) ob1 (by omega) (show (pre ++ [hi8 mk.c, lo8 mk.c]).length <= 500000 by rw [List.length_append]; show pre.length + 2 <= _; omega) (.tail _ (.head _)) (.tail _ (.tail _ (.head _))) (.tail (.tail (.tail .head))) (.inr fb) ?_
  refine hT0 (pre ++ [hi8 mk.c, lo8 mk.c] ++ [hi8 off, lo8 off], some _) ?_
  show pre ++ [hi8 mk.c, lo8 mk.c] ++ [hi8 off, lo8 off] = _
  rw [List.range_succ, List.flatMap_append, List.flatMap_cons, List.flatMap_nil, List.append_nil, hrow, hpre]
  simp only [List.append_assoc]
 ·rintro ⟨pre, v2⟩ hpre
  have hpre : pre = [] ++ [hi8 ms.length, lo8 ms.length] ++ (List.range ms.length).flatMap (wmRow ms) := hpre
  have hpl : pre.length = 2 + 4 * ms.length := by rw [hpre, List.length_append, wm_pre_len]; rfl
  have hol : (wmS ms).out.length <= 6 * ms.length := hln.1
  refine meth_q hC1 (.tail _ (.head _)) (.tail _ (.tail _ (.head _))) rfl rfl ?_
  refine oadd_q (hC1.mo rfl) (show pre.length <= 400000 by omega) (by omega) (.tail _ (.head _)) (.tail _ (.tail _ (.head _))) (.tail (.tail (.tail .head))) (.inr fb) ?_
  refine meth_q hC1 (.tail _ (.head _)) (.tail _ (.tail _ (.head _))) rfl rfl ?_
  refine ooct_q (hC1.mo rfl) (show (pre ++ (wmS ms).out).length <= 1000000 by rw [List.length_append]; omega) (.tail _ (.head _)) (.tail _ (.tail _ (.head _))) (.tail _ (.tail _ (.tail _ (.head _)))) fun t12 => ?_
  subst hpre
  exact hK _ _ _ [] nn1 nn2 (h t12)
theorem szl' {n : Nat} (h : Nat.ble n 400000 = true) : n <= 400000 := Nat.le_of_ble_eq_true h
structure WrX where
 own : Led
 ps : List Value
 n9 : Nat
 v1 : Option Value
structure WrOk (rs : List AnR) (i : Nat) (x : WrX) : Prop where
 same : ∀ r ∈ rs.take i, r.length = (rs.headD []).length
 ps : PartsAre x.ps (prtS (rs.take i))
theorem war_q {P : Addr} {nn : Nat} {vs : List Value} {rs : List AnR} (hC : CfOk c 800 1000) (hm : (P, PySem.W.listOf vs.toArray nn) ∈ l) (hM : RowsAre w l vs rs) (hn : rs.length <= 8) (h8 : ∀ r ∈ rs, r.length <= 8) (hok : ∀ r ∈ rs, ∀ p, some p ∈ r -> ok16 p.1 /\ ok16 p.2)
  (h : SameLen rs -> ∀ t, k (.bytes (warB rs).toArray t) m l) (hE : ¬ SameLen rs -> c.Er (-1)) : WQ c z (call (.ref 383) [.ref P] []) k m l := by
 have hvl := hM.len
 refine enter0 40 l hC (by decide) (by decide) (fun _ h => h) (binds := [("rows", .ref P)]) (by k_is) (by k_is) (fun s _ => BindsTo.of_eq rfl) (locs rfl) (fun nd => nd) ?_ rfl rfl rfl (by decide) (by decide)
 intro c1 z1 env K hC1 V hf hS e1 e2 hK
 refine newList_q hC1 (szl rfl) fun Pp fPp => ?_
 refine for_e hC1 V hf rfl ?_
 refine itList_q (vs := vs) (X := WrX) hC1 hf (fun x => [("rows", some (.ref P)), ("parts", some (.ref Pp)), ("row", x.v1), ("offsets", none), ("octets", none), ("out", none)]) (fun x => x.own ++ (Pp, PySem.W.listOf x.ps.toArray x.n9) :: l) (WrOk rs) ⟨[], [], 0, none⟩ rfl rfl ⟨fun r hr => (by cases hr), rfl, fun i v h => by cases h⟩ (fun x => List.mem_append_right _ (.tail _ hm)) ?_ ?_
 ·intro i v x z2 hv hz hok2
  refine hideG ?_; intro PG9 hG9
  obtain ⟨own, ps, n9, v1⟩ := x
  refine hG9 ?_; clear hG9 PG9
  obtain ⟨hsame, hps⟩ := hok2
  have hps : PartsAre ps (prtS (rs.take i)) := hps
  refine hideG ?_; intro PG9 hG9
  obtain ⟨T, us, r, rfl, hr, hT, hrow⟩ := hM.at_ i v hv
  refine hG9 ?_; clear hG9 PG9
  obtain ⟨v0, hv0⟩ : ∃ v0, vs[0]? = some v0 := ⟨vs[0]'(by have := (List.getElem?_eq_some_iff.mp hv).1; omega), List.getElem?_eq_getElem (by have := (List.getElem?_eq_some_iff.mp hv).1; omega)⟩
  refine hideG ?_; intro PG9 hG9
  obtain ⟨T0, us0, r0, rfl, hr0, hT0, hrow0⟩ := hM.at_ 0 v0 hv0
  refine hG9 ?_; clear hG9 PG9
  have hul := hrow.len
  have hul0 := hrow0.len
  have hmr : r ∈ rs := List.mem_of_getElem? hr
  have hmr0 : r0 ∈ rs := List.mem_of_getElem? hr0
  have hr8 := h8 r hmr
  have hr80 := h8 r0 hmr0
  have hhd : rs.headD [] = r0 := by
   cases rs with
   | nil => cases hr0
   | cons x xs => cases hr0; rfl
  have hpl := prt_len (rs := rs.take i) fun r hr => h8 r (List.mem_of_mem_take hr)
  have hpl2 := hps.len
  have hti : (rs.take i).length <= 8 := by rw [List.length_take]; omega
  refine body_e 20 hC1 (by decide) (by decide) V hf hz fun T0 hQ0 => ?_
  refine lenT_q (mR (.tail _ hT)) (by omega) fun t1 => ?_
  intro t2
  refine itemL_q (mR (.tail _ hm)) (by decide) (by decide) hv0 ?_
  refine lenT_q (mR (.tail _ hT0)) (by omega) fun t3 => ?_
  refine Two.mk (fun q => ?_) fun q => ?_
  ·intro t4
   refine e1 _ (hE fun hs => ?_)
   have := hs r hmr
   rw [hhd] at this
   omega
  refine lmExt_q (mR (.head _)) ?_
  refine comp_q hC1 (V.shift z2 hz) (hf.shift z2) rfl (by decide) rfl (by decide) rfl ?_
  refine itcTup_q (vs := us) (nn := 0) (X := Unit) (b := true) hC1 (V.shift z2 hz) (fun _ => own ++ (Pp, PySem.W.listOf ps.toArray n9) :: l) (fun j _ zs => PartsAre zs (prtR (r.take j))) () rfl ⟨rfl, fun i v h => by cases h⟩ (fun _ => List.mem_append_right _ (.tail _ hT)) (by omega) ?_ ?_
  ·intro j v2 hx2 zs c' z' env' hj hv2 hzs hzl hC' V' hcl' hEr hS' hF1 hF2
   refine el_e V' hC' fun T1 hT1 => ?_
   obtain ⟨⟩ := hx2
   obtain ⟨dd, hd2, hel⟩ := hrow.at_ j v2 hv2
   cases dd with
   | none =>
    obtain rfl := hel
    refine written0_q (hC'.mo rfl) ?_
    refine hT1 () _ _ ?_
    show PartsAre _ (prtR (r.take (j + 1)))
    rw [prtR_snoc hd2]
    exact hzs.snoc rfl
   | some p =>
    refine hideG ?_; intro PG9 hG9
    obtain ⟨a, da, t5, t6, t7, t8, rfl, ha, hda, hlt⟩ := hel
    refine hG9 ?_; clear hG9 PG9
    obtain ⟨ox, oy⟩ := hok r hmr p (List.mem_of_getElem? hd2)
    refine written1_q (hC'.mo rfl) ox oy (mR (.tail _ ha)) (mR (.tail _ hda)) fun t9 => ?_
    refine hT1 () _ _ ?_
    show PartsAre _ (prtR (r.take (j + 1)))
    rw [prtR_snoc hd2]
    exact hzs.snoc ⟨_, rfl⟩
  intro _ zs hzs hzl D fD
  have hzs : PartsAre zs (prtR (r.take us.length)) := hzs
  rw [hul, List.take_length] at hzs
  have hzl2 := hzs.len
  refine ext_q (n2 := zs.length) hC1 (fun n' => .tail (.app .head)) (.head _) (.inr fPp) (show ps.length + zs.length <= 1000000 by omega) fun n' => ?_
  refine hQ0 ⟨(D, LCg.lst zs) :: own, ps ++ zs, n', some _⟩ ⟨fun r' hr' => ?_, ?_⟩
  ·rw [List.take_add_one, hr] at hr'
   rcases List.mem_append.mp hr' with hr' | hr'
   ·exact hsame r' hr'
   ·rw [hhd]
    have : r' = r := by simpa using hr'
    rw [this]; omega
  ·show PartsAre (ps ++ zs) _
   rw [prtS_snoc hr]
   exact hps.append hzs
 ·intro x hok2
  refine hideG ?_; intro PG9 hG9
  obtain ⟨own, ps, n9, v1⟩ := x
  refine hG9 ?_; clear hG9 PG9
  obtain ⟨hsame, hps⟩ := hok2
  have hps : PartsAre ps (prtS (rs.take vs.length)) := hps
  rw [hvl, List.take_length] at hsame hps
  have hpl := prt_len h8
  have hpl2 := hps.len
  have h6 := @prt6 rs
  have hln := laidS_len (beg := 2 + 2 * ((prtS rs).length : Int)) h6
  have hbn := laidS_bnd (beg := 2 + 2 * ((prtS rs).length : Int)) (by omega) h6
  have hbn2 : ∀ n ∈ (warS rs).offs, 0 <= n /\ n < 65536 := fun n hn => ⟨(hbn n hn).1, by have := (hbn n hn).2; omega⟩
  have hrl := rowsB_len (warS rs).offs
  have hol : (warS rs).out.length <= 6 * (prtS rs).length := hln.1
  have hof : (warS rs).offs.length = (prtS rs).length := hln.2.2
  refine asg2_q hC1 V hf rfl rfl ?_ rfl rfl
  intro t1 t2
  refine lenL_q (mR (.head _)) (show ps.length <= 1000000 by omega) fun t3 => ?_
  refine And.intro (.of_left (by decide)) fun t4 => ?_
  intro t5
  rw [show (ps.length : Int) = (prtS rs).length by omega]
  refine laid_q (hC1.mo rfl) (mR (.head _)) hps h6 (by omega) (by omega) (by omega) fun T O ys t6 nO hys fT fO => ?_
  refine ⟨T, _, _, 0, rfl, .head _, ?_⟩
  refine onew_q (hC1.mo rfl) fun x d b t7 lt fx fd fb => ?_
  refine meth_q hC1 (.head _) (.tail _ (.head _)) rfl rfl ?_
  refine lenL_q (.tail _ (.tail _ (.tail _ (.tail _ (.tail _ (mR (.tail _ hm))))))) (by omega) fun t8 => ?_
  rw [show (vs.length : Int) = rs.length by omega]
  refine ou16_q (hC1.mo rfl) (by omega) (by omega) (by decide) (.head _) (.tail _ (.head _)) (.tail (.tail .head)) (.inr fb) ?_
  refine meth_q hC1 (.head _) (.tail _ (.head _)) rfl rfl ?_
  refine orows_q (lx := fun o => (x, instObj 266 d) :: (d, outD w b t7) :: (b, baO o) :: (T, tupO [.ref O, .bytes (warS rs).out.toArray t6]) :: (O, PySem.W.listOf ys.toArray nO) :: (own ++ (Pp, PySem.W.listOf ps.toArray n9) :: l)) (bs := [] ++ [hi8 rs.length, lo8 rs.length]) (hC1.mo rfl) hys hbn2 (by omega) (szl' rfl) rfl (fun _ => .head _) (fun _ => .tail _ (.head _)) (fun _ => .tail _ (.tail _ (.tail _ (.tail _ (.head _))))) (fun _ _ => .tail (.tail .head)) (.inr fb) ?_
  refine meth_q hC1 (.head _) (.tail _ (.head _)) rfl rfl ?_
  have hz2 : ([] ++ [hi8 rs.length, lo8 rs.length] ++ rowsB (warS rs).offs).length <= 400000 := by
   rw [List.length_append, hrl]
   show 2 + _ <= _
   omega
  refine oadd_q (hC1.mo rfl) hz2 (by omega) (.head _) (.tail _ (.head _)) (.tail (.tail .head)) (.inr fb) ?_
  refine meth_q hC1 (.head _) (.tail _ (.head _)) rfl rfl ?_
  refine ooct_q (hC1.mo rfl) (by rw [List.length_append]; omega) (.head _) (.tail _ (.head _)) (.tail _ (.tail _ (.head _))) fun t9 => ?_
  exact hK _ _ _ [] nn1 nn2 (h hsame t9)
end
end
section
open PySem PySem.W PyProof.Rows PySem.Calls PySem.Spec
section
variable {M : Model} {A : Around} {E : Value -> Shared -> Prop} {s : Shared} {env : Env} {g : Heap} {L Fa : Addr} {fo : Obj} {fd : FuncData} {news : List (Addr × Obj)} {first : List Value} {pos : Pos} {Q : Value -> Shared -> Prop}
theorem callS_F0 (N : News g L s.heap news) (hm : (Fa, fo) ∈ news) (hfo : fo.data = .func fd) (h : wpS M A (call (.ref Fa) (first ++ [])) Q E s) : wpS M A (callWith pos (.ref Fa) first (backTo pos (starEach [] env)) []) Q E s :=
 wpS_callWith (P := fun h => h.get? Fa = some fo) rfl (fun h hP => ⟨.frame, .inl rfl, (Looks.ld (part := none) hP).andThen (by rw [hfo]; exact .now)⟩) (wpS_any (evalArgs_nil3 ⟨(N _ hm).1, h⟩))
end
theorem freshT {h₀ g g' : Heap} {D : Addr} {kn : List (Addr × Obj)} {fs : List Addr} (hg : ∀ b o, h₀.get? b = some o -> b ∉ kn.map (·.1) -> g.get? b = some o) (T : KtsTurn fs g g') (hD : g'.get? D = none) (hn : D ∉ kn.map (·.1)) : h₀.get? D = none :=
 fresh_of hg (by
  cases q : g.get? D with
  | none => rfl
  | some o => obtain ⟨sl, z⟩ := T.up q; rw [hD] at z; cases z) hn
section
variable {w : World} {mean : ExcName -> Option Value} {mg mb : Str -> Option Value} {A : Around} {base : Heap} {outer : List Env} {s : Shared} {R : Result -> Shared -> Prop} {E : Value -> Shared -> Prop}
theorem caught_spec {Fa : Addr} {fo : Obj} {fd : FuncData} {kn : List (Addr × Obj)} {P : Dat -> Prop} {Flt : Int -> Prop} (hfo : fo.data = .func fd) (hmem : (Fa, fo) ∈ kn) (B : Below A base outer s.heap) (G : Gd w mean mg mb base) (hh : A.handled = none) (hdp : A.depth < 320) (hu : A.units + 3000 < cLine)
  (hkn : Kn base outer s.heap kn) (hW : WorkOk w mean mg mb Fa kn P Flt)
  (hR : ∀ h' tk' v d out, (P d \/ ∃ f, Flt f /\ d = faultD f) -> KpU outer s.heap h' -> DatIn out v d -> (∀ p ∈ out, h'.get? p.1 = some p.2 /\ s.heap.get? p.1 = none) -> R (.ok (.ret v)) { s with heap := h', toks := tk' }) :
  codeS (model PW w) A (.call (.ref 489) ⟨[.ref Fa], []⟩) R s := by
 obtain ⟨A, rfl⟩ := nh_ex hh B
 have hS : Sof [] := .mk
 try have hkn' := fun p hp => (hkn p hp).1
 refine enterS _ B G hkn (binds := [("work", .ref Fa)]) (by k_is) (by k_is) (room0 hdp rfl) (by first | exact BindsTo.of_eq rfl | exact binds_K (G.kin.keeps B.stays) rfl (by k_is) rfl rfl rfl) (locs rfl) ?_ rfl rfl rfl (by decide)
 intro g L' h₁ F' N' B' X' T' hg hL
 clear B
 (try dsimp only)
 refine wpS_lets ?_; intro qk ek
 refine wpS_execs_cons (wpS_Try ?_)
 refine wpS_execs_cons (wpS_Return_some (wpS_Call (ld F' rfl (callS_F0 N' hmem hfo (wpS_call (hW _ _ _ _ _ (push_any B' F' rfl rfl) G rfl (room1 hdp rfl) (unit1 hu rfl) (kn_of B' N' rfl) ?_ ?_)))) ?_))
 ·intro h' tk' v d out hP hk hd hout
  refine ⟨(by intro q; cases q), ?_⟩
  have F2 := fr_kp0 F' hk
  have N2 := news_kp0 N' hk
  exact hR _ _ _ _ _ (.inl hP) (.of (exitKp hg hkn' F2 N2 fun p hp => .inl hp)) hd fun p hp => ⟨(hout p hp).1, (exitKp (S := []) hg hkn' F' N' fun p hp => .inl hp).fresh (hout p hp).2⟩
 ·intro h' tk' e f t hF x
  refine caught_fly (s' := { s with heap := h', toks := tk' }) B' G F' N' x fun g' h'' tk vs dx od msg KT Bg Xg Tg F2 N2 D hm e1 e2 => ?_
  clear F' N' T' X'
  (try dsimp only)
  k_fold
  k_steps
  refine' exc_method ?k1 ?k2 ?k3 ?k4 ?_; (case k3 => with_reducible assumption); (case k2 => exact exc_inst (ngt (by k_asm) (by k_mem)) (ngt (by k_asm) (by k_mem))); (case k4 => rfl); (case k1 => k_in); k_whole
  k_steps
  refine wpAny_call ?_
  (refine' code_def ?k1 ?k2 ?k3 ?k4 ?k5 ?kA ?kF ?kK ?k6 ?k7 ?k8 ?k9 ?kB ?_ ?c2 ?c3 ?c4 ?c5; (case kA => exact rfl); (case kF => exact rfl); (case kK => exact rfl); (case k1 => k_asm); (case k2 => k_asm); (case k3 => k_asm); (case k4 => k_asm); (case k5 => k_asm); (case k6 => k_is); (case k7 => k_is); (case k8 => exact roomI (by with_reducible assumption) rfl); (case k9 => exact BindsTo.of_eq rfl); (case c5 => decide); (case kB => exact locs rfl); (case c2 => exact rfl); (case c3 => exact rfl); (case c4 => exact rfl); k_whole; intro g' L' h' FG' F' N' B' X' T'; (try dsimp only); (try k_lift B'); (try k_fold))
  k_steps
  (refine' exc_get ?k1 ?k2 ?k3 ?k4 ?k5 ?k6 ?_; (case k3 => with_reducible assumption); (case k2 => exact exc_inst (ngt (by k_asm) (by k_mem)) (ngt (by k_asm) (by k_mem))); (case k1 => k_in); (case k4 => kernel_rfl); (case k5 => first | rfl | (rw [if_neg (by decide)]; rfl)); (case k6 => first | with_reducible assumption | rfl); k_whole)
  k_steps
  (refine' exc_get ?k1 ?k2 ?k3 ?k4 ?k5 ?k6 ?_; (case k3 => with_reducible assumption); (case k2 => exact exc_inst (ngt (by k_asm) (by k_mem)) (ngt (by k_asm) (by k_mem))); (case k1 => k_in); (case k4 => kernel_rfl); (case k5 => first | rfl | (rw [if_neg (by decide)]; rfl)); (case k6 => first | with_reducible assumption | rfl); k_whole)
  k_steps
  rename Fr _ _ _ _ => kF
  rename News _ _ _ _ => kN
  rename_i T2 _ _ _ lT2 _ _
  refine hideG ?_; intro PG9 hG9
  refine hideG ?_; intro PG9 hG9
  obtain ⟨lT1, lT2, lT3, lT4⟩ := lT2
  refine hG9 ?_; clear hG9 PG9
  refine hG9 ?_; clear hG9 PG9
  refine hR _ _ _ (faultD f) [(T2, tupO [.str "fault" _, .int f t])] (.inr ⟨f, hF, rfl⟩) (exitKpU hg hkn' KT kF kN (by intro p hp; repeat (first | exact hp | apply List.Mem.tail))) (.tuple (n := 0) (.head _) (.cons (.str _ _) (.cons (.int _ _) .nil))) (List.forall_mem_cons.mpr ⟨⟨ngt kN (by k_mem), freshT hg KT (ngn kN (by k_mem)) (lt_not lT4)⟩, List.forall_mem_nil _⟩)
 all_goals rfl
end
theorem caughtSpec {w : World} : CaughtSpec w := fun hfo hm B G hh hdp hu hkn hW hR => caught_spec hfo hm B G hh hdp hu hkn hW hR
end
section
set_option tactic.hygienic false
open PySem PySem.W PyProof.Rows PySem.Calls PySem.Spec
noncomputable def fnBody (K : Frag) (f : Addr) : List Stmt := match K.lookup f with
 | some ⟨_, _, .func fd, _⟩ => (match fd.body with
  | .stmts b => b
  | _ => [])
 | _ => []
noncomputable def fnScope (K : Frag) (f : Addr) : Scope := match K.lookup f with
 | some ⟨_, _, .func fd, _⟩ => fd.scope
 | _ => { kind := .function, names := [], isGenerator := false, isCoroutine := false }
noncomputable abbrev lawB (w : World) : List Stmt := fnBody (hd.heap_1 w.params) 499
noncomputable abbrev lawSc (w : World) : Scope := fnScope (hd.heap_1 w.params) 499
noncomputable def lawN : List (Str × NameKind) := [(("script" : Str), NameKind.local), (("source" : Str), NameKind.cell), (("marks" : Str), NameKind.cell), (("turn" : Str), NameKind.local), (("row" : Str), NameKind.local), (("due" : Str), NameKind.local), (("kept" : Str), NameKind.local), (("alike" : Str), NameKind.local), (("one" : Str), NameKind.local), (("read" : Str), NameKind.local), (("ahead" : Str), NameKind.cell), (("classes" : Str), NameKind.cell), (("count" : Str), NameKind.cell), (("coverage" : Str), NameKind.cell), (("data" : Str), NameKind.cell), (("glyphs" : Str), NameKind.cell), (("octets" : Str), NameKind.cell), (("other" : Str), NameKind.cell), (("rows" : Str), NameKind.cell), (("wide" : Str), NameKind.cell),
 (("_law_source" : Str), NameKind.globalImplicit), (("range" : Str), NameKind.globalImplicit), (("_law_draw" : Str), NameKind.globalImplicit), (("Anchor" : Str), NameKind.globalImplicit), (("_law_number" : Str), NameKind.globalImplicit), (("tuple" : Str), NameKind.globalImplicit), (("bytes" : Str), NameKind.globalImplicit), (("coverage_of" : Str), NameKind.globalImplicit), (("sorted" : Str), NameKind.globalImplicit), (("write_marks" : Str), NameKind.globalImplicit), (("told_marks" : Str), NameKind.globalImplicit), (("_law_caught" : Str), NameKind.globalImplicit), (("read_marks" : Str), NameKind.globalImplicit), (("len" : Str), NameKind.globalImplicit), (("class_count" : Str), NameKind.globalImplicit), (("max" : Str), NameKind.globalImplicit), (("set" : Str), NameKind.globalImplicit), (("write_anchor_rows" : Str), NameKind.globalImplicit), (("told_rows" : Str), NameKind.globalImplicit), (("difference" : Str), NameKind.globalImplicit), (("read_anchor" : Str), NameKind.globalImplicit), (("write_anchor" : Str), NameKind.globalImplicit), (("_law_laid" : Str), NameKind.globalImplicit)]
noncomputable def lm (s t r d k a o e : Option Value) : Loc := [(("script" : Str), s), (("turn" : Str), t), (("row" : Str), r), (("due" : Str), d), (("kept" : Str), k), (("alike" : Str), a), (("one" : Str), o), (("read" : Str), e)]
structure LawF where
 L : Addr
 S : Addr
 C : Addr
 P : Addr
 cs : List Value
 vs : List Value
 n2 : Nat
 nn : Nat
structure LawX where
 own : Led
 p : Int
 t : Tok
 n : Nat
 o12 : Obj
 o11 : Obj
 o10 : Obj
 o9 : Obj
 o8 : Obj
 o7 : Obj
 o6 : Obj
 o5 : Obj
 o4 : Obj
 o3 : Obj
 o2 : Obj
 o1 : Obj
 ps : Array Value
noncomputable def fx (F : LawF) (x : LawX) : Led := [(F.S, PySem.W.listOf #[.ref F.C, .int x.p x.t] x.n), (F.C, PySem.W.listOf F.cs.toArray F.n2), (F.L + 1 + 1 + 1 + 1 + 1 + 1 + 1 + 1 + 1 + 1 + 1 + 1, x.o12), (F.L + 1 + 1 + 1 + 1 + 1 + 1 + 1 + 1 + 1 + 1 + 1, x.o11), (F.L + 1 + 1 + 1 + 1 + 1 + 1 + 1 + 1 + 1 + 1, x.o10), (F.L + 1 + 1 + 1 + 1 + 1 + 1 + 1 + 1 + 1, x.o9), (F.L + 1 + 1 + 1 + 1 + 1 + 1 + 1 + 1, x.o8), (F.L + 1 + 1 + 1 + 1 + 1 + 1 + 1, x.o7), (F.L + 1 + 1 + 1 + 1 + 1 + 1, x.o6), (F.L + 1 + 1 + 1 + 1 + 1, x.o5), (F.L + 1 + 1 + 1 + 1, x.o4), (F.L + 1 + 1 + 1, x.o3), (F.L + 1 + 1, x.o2), (F.L + 1, x.o1), (496, tabObj x.ps), (F.P, PySem.W.listOf F.vs.toArray F.nn)]
noncomputable def ll (F : LawF) (x : LawX) : Led := x.own ++ fx F x
noncomputable def LawX.add (x : LawX) (r : Led) : LawX := { x with own := r ++ x.own }
noncomputable def LawX.sp (x : LawX) (p : Int) (t : Tok) : LawX := { x with p := p, t := t }
noncomputable def LawX.sn (x : LawX) (p : Int) (t : Tok) (n : Nat) : LawX := { x with p := p, t := t, n := n }
noncomputable def LawX.sps (x : LawX) (v : Array Value) : LawX := { x with ps := v }
noncomputable def LawX.s2 (x : LawX) (o : Obj) : LawX := { x with o2 := o }
noncomputable def LawX.s3 (x : LawX) (o : Obj) : LawX := { x with o3 := o }
noncomputable def LawX.s4 (x : LawX) (o : Obj) : LawX := { x with o4 := o }
noncomputable def LawX.s5 (x : LawX) (o : Obj) : LawX := { x with o5 := o }
noncomputable def LawX.s6 (x : LawX) (o : Obj) : LawX := { x with o6 := o }
noncomputable def LawX.s7 (x : LawX) (o : Obj) : LawX := { x with o7 := o }
noncomputable def LawX.s8 (x : LawX) (o : Obj) : LawX := { x with o8 := o }
noncomputable def LawX.s9 (x : LawX) (o : Obj) : LawX := { x with o9 := o }
noncomputable def LawX.s10 (x : LawX) (o : Obj) : LawX := { x with o10 := o }
noncomputable def LawX.s11 (x : LawX) (o : Obj) : LawX := { x with o11 := o }
noncomputable def LawX.s12 (x : LawX) (o : Obj) : LawX := { x with o12 := o }
section
variable (F : LawF) (x : LawX)
theorem mC : (F.C, PySem.W.listOf F.cs.toArray F.n2) ∈ ll F x := List.mem_append_right _ (.tail _ (.head _))
theorem m12 : (F.L + 1 + 1 + 1 + 1 + 1 + 1 + 1 + 1 + 1 + 1 + 1 + 1, x.o12) ∈ ll F x := List.mem_append_right _ (.tail _ (.tail _ (.head _)))
theorem m11 : (F.L + 1 + 1 + 1 + 1 + 1 + 1 + 1 + 1 + 1 + 1 + 1, x.o11) ∈ ll F x := List.mem_append_right _ (.tail _ (.tail _ (.tail _ (.head _))))
theorem m10 : (F.L + 1 + 1 + 1 + 1 + 1 + 1 + 1 + 1 + 1 + 1, x.o10) ∈ ll F x := List.mem_append_right _ (.tail _ (.tail _ (.tail _ (.tail _ (.head _)))))
theorem m9 : (F.L + 1 + 1 + 1 + 1 + 1 + 1 + 1 + 1 + 1, x.o9) ∈ ll F x := List.mem_append_right _ (.tail _ (.tail _ (.tail _ (.tail _ (.tail _ (.head _))))))
theorem m8 : (F.L + 1 + 1 + 1 + 1 + 1 + 1 + 1 + 1, x.o8) ∈ ll F x := List.mem_append_right _ (.tail _ (.tail _ (.tail _ (.tail _ (.tail _ (.tail _ (.head _)))))))
theorem m7 : (F.L + 1 + 1 + 1 + 1 + 1 + 1 + 1, x.o7) ∈ ll F x := List.mem_append_right _ (.tail _ (.tail _ (.tail _ (.tail _ (.tail _ (.tail _ (.tail _ (.head _))))))))
theorem m6 : (F.L + 1 + 1 + 1 + 1 + 1 + 1, x.o6) ∈ ll F x := List.mem_append_right _ (.tail _ (.tail _ (.tail _ (.tail _ (.tail _ (.tail _ (.tail _ (.tail _ (.head _)))))))))
theorem m5 : (F.L + 1 + 1 + 1 + 1 + 1, x.o5) ∈ ll F x := List.mem_append_right _ (.tail _ (.tail _ (.tail _ (.tail _ (.tail _ (.tail _ (.tail _ (.tail _ (.tail _ (.head _))))))))))
theorem m4 : (F.L + 1 + 1 + 1 + 1, x.o4) ∈ ll F x := List.mem_append_right _ (.tail _ (.tail _ (.tail _ (.tail _ (.tail _ (.tail _ (.tail _ (.tail _ (.tail _ (.tail _ (.head _)))))))))))
theorem m3 : (F.L + 1 + 1 + 1, x.o3) ∈ ll F x := List.mem_append_right _ (.tail _ (.tail _ (.tail _ (.tail _ (.tail _ (.tail _ (.tail _ (.tail _ (.tail _ (.tail _ (.tail _ (.head _))))))))))))
theorem m2 : (F.L + 1 + 1, x.o2) ∈ ll F x := List.mem_append_right _ (.tail _ (.tail _ (.tail _ (.tail _ (.tail _ (.tail _ (.tail _ (.tail _ (.tail _ (.tail _ (.tail _ (.tail _ (.head _)))))))))))))
theorem m1 : (F.L + 1, x.o1) ∈ ll F x := List.mem_append_right _ (.tail _ (.tail _ (.tail _ (.tail _ (.tail _ (.tail _ (.tail _ (.tail _ (.tail _ (.tail _ (.tail _ (.tail _ (.tail _ (.head _))))))))))))))
theorem mT : (496, tabObj x.ps) ∈ ll F x := List.mem_append_right _ (.tail _ (.tail _ (.tail _ (.tail _ (.tail _ (.tail _ (.tail _ (.tail _ (.tail _ (.tail _ (.tail _ (.tail _ (.tail _ (.tail _ (.head _)))))))))))))))
theorem mP : (F.P, PySem.W.listOf F.vs.toArray F.nn) ∈ ll F x := List.mem_append_right _ (.tail _ (.tail _ (.tail _ (.tail _ (.tail _ (.tail _ (.tail _ (.tail _ (.tail _ (.tail _ (.tail _ (.tail _ (.tail _ (.tail _ (.tail _ (.head _))))))))))))))))
theorem mo {q : Addr × Obj} (h : q ∈ x.own) : q ∈ ll F x := List.mem_append_left _ h
theorem rS (p : Int) (t : Tok) : Rp F.S (PySem.W.listOf #[.ref F.C, .int x.p x.t] x.n) (PySem.W.listOf #[.ref F.C, .int p t] x.n) (ll F x) (ll F (x.sp p t)) := .app .head
theorem rSn (p : Int) (t : Tok) (n : Nat) : Rp F.S (PySem.W.listOf #[.ref F.C, .int x.p x.t] x.n) (PySem.W.listOf #[.ref F.C, .int p t] n) (ll F x) (ll F (x.sn p t n)) := .app .head
theorem r12 (o' : Obj) : Rp (F.L + 1 + 1 + 1 + 1 + 1 + 1 + 1 + 1 + 1 + 1 + 1 + 1) x.o12 o' (ll F x) (ll F (x.s12 o')) := .app (.tail (.tail (.head)))
theorem r11 (o' : Obj) : Rp (F.L + 1 + 1 + 1 + 1 + 1 + 1 + 1 + 1 + 1 + 1 + 1) x.o11 o' (ll F x) (ll F (x.s11 o')) := .app (.tail (.tail (.tail (.head))))
theorem r10 (o' : Obj) : Rp (F.L + 1 + 1 + 1 + 1 + 1 + 1 + 1 + 1 + 1 + 1) x.o10 o' (ll F x) (ll F (x.s10 o')) := .app (.tail (.tail (.tail (.tail (.head)))))
theorem r9 (o' : Obj) : Rp (F.L + 1 + 1 + 1 + 1 + 1 + 1 + 1 + 1 + 1) x.o9 o' (ll F x) (ll F (x.s9 o')) := .app (.tail (.tail (.tail (.tail (.tail (.head))))))
theorem r8 (o' : Obj) : Rp (F.L + 1 + 1 + 1 + 1 + 1 + 1 + 1 + 1) x.o8 o' (ll F x) (ll F (x.s8 o')) := .app (.tail (.tail (.tail (.tail (.tail (.tail (.head)))))))
theorem r7 (o' : Obj) : Rp (F.L + 1 + 1 + 1 + 1 + 1 + 1 + 1) x.o7 o' (ll F x) (ll F (x.s7 o')) := .app (.tail (.tail (.tail (.tail (.tail (.tail (.tail (.head))))))))
theorem r6 (o' : Obj) : Rp (F.L + 1 + 1 + 1 + 1 + 1 + 1) x.o6 o' (ll F x) (ll F (x.s6 o')) := .app (.tail (.tail (.tail (.tail (.tail (.tail (.tail (.tail (.head)))))))))
theorem r5 (o' : Obj) : Rp (F.L + 1 + 1 + 1 + 1 + 1) x.o5 o' (ll F x) (ll F (x.s5 o')) := .app (.tail (.tail (.tail (.tail (.tail (.tail (.tail (.tail (.tail (.head))))))))))
theorem r4 (o' : Obj) : Rp (F.L + 1 + 1 + 1 + 1) x.o4 o' (ll F x) (ll F (x.s4 o')) := .app (.tail (.tail (.tail (.tail (.tail (.tail (.tail (.tail (.tail (.tail (.head)))))))))))
theorem r3 (o' : Obj) : Rp (F.L + 1 + 1 + 1) x.o3 o' (ll F x) (ll F (x.s3 o')) := .app (.tail (.tail (.tail (.tail (.tail (.tail (.tail (.tail (.tail (.tail (.tail (.head))))))))))))
theorem r2 (o' : Obj) : Rp (F.L + 1 + 1) x.o2 o' (ll F x) (ll F (x.s2 o')) := .app (.tail (.tail (.tail (.tail (.tail (.tail (.tail (.tail (.tail (.tail (.tail (.tail (.head)))))))))))))
theorem rTp (ps' : Array Value) : Rp 496 (tabObj x.ps) (tabObj ps') (ll F x) (ll F (x.sps ps')) := .app (.tail (.tail (.tail (.tail (.tail (.tail (.tail (.tail (.tail (.tail (.tail (.tail (.tail (.tail (.head)))))))))))))))
theorem ll_add {r : Led} : r ++ ll F x = ll F (x.add r) := by unfold ll LawX.add; rw [List.append_assoc]; rfl
end
structure LawE0 {w : World} (c : Cf w) (z : Zs) (env : Env) (L : Addr) : Prop where
 hC : CfOk c 306 5197
 V : EnvOk c z env lawN
 hf : ForOk c z env lawN
 ce : env.cells = [(("wide" : Str), L + 1 + 1 + 1 + 1 + 1 + 1 + 1 + 1 + 1 + 1 + 1 + 1), (("rows" : Str), L + 1 + 1 + 1 + 1 + 1 + 1 + 1 + 1 + 1 + 1 + 1), (("other" : Str), L + 1 + 1 + 1 + 1 + 1 + 1 + 1 + 1 + 1 + 1), (("octets" : Str), L + 1 + 1 + 1 + 1 + 1 + 1 + 1 + 1 + 1), (("glyphs" : Str), L + 1 + 1 + 1 + 1 + 1 + 1 + 1 + 1), (("data" : Str), L + 1 + 1 + 1 + 1 + 1 + 1 + 1), (("coverage" : Str), L + 1 + 1 + 1 + 1 + 1 + 1), (("count" : Str), L + 1 + 1 + 1 + 1 + 1), (("classes" : Str), L + 1 + 1 + 1 + 1), (("ahead" : Str), L + 1 + 1 + 1), (("marks" : Str), L + 1 + 1), (("source" : Str), L + 1)]
 he : env = envX "law" (lawSc w) c.L 499 (.ref 498) env.cells
 e0 : c.env0 = env
 ho : c.outer = []
 h496 : 496 ∈ c.S
 fc : ∀ k, Nat.blt k 12 = true -> Fre c (L + 1 + k)
structure LawE {w : World} (c : Cf w) (z : Zs) (env : Env) (F : LawF) (ys : List Int) : Prop where
 b : LawE0 c z env F.L
 fS : Fre c F.S
 fC : Fre c F.C
 hcs : IntsAre F.cs ys
 hne : ys ≠ []
 h60 : ys.length <= 60
section
variable {w : World} {c : Cf w} {z : Zs} {env : Env} {L : Addr}
theorem LawE0.c1 (E : LawE0 c z env L) : env.cells.lookup ("source" : Str) = some (L + 1) := by rw [E.ce]; rfl
theorem LawE0.c2 (E : LawE0 c z env L) : env.cells.lookup ("marks" : Str) = some (L + 1 + 1) := by rw [E.ce]; rfl
theorem LawE0.c3 (E : LawE0 c z env L) : env.cells.lookup ("ahead" : Str) = some (L + 1 + 1 + 1) := by rw [E.ce]; rfl
theorem LawE0.c4 (E : LawE0 c z env L) : env.cells.lookup ("classes" : Str) = some (L + 1 + 1 + 1 + 1) := by rw [E.ce]; rfl
theorem LawE0.c5 (E : LawE0 c z env L) : env.cells.lookup ("count" : Str) = some (L + 1 + 1 + 1 + 1 + 1) := by rw [E.ce]; rfl
theorem LawE0.c6 (E : LawE0 c z env L) : env.cells.lookup ("coverage" : Str) = some (L + 1 + 1 + 1 + 1 + 1 + 1) := by rw [E.ce]; rfl
theorem LawE0.c7 (E : LawE0 c z env L) : env.cells.lookup ("data" : Str) = some (L + 1 + 1 + 1 + 1 + 1 + 1 + 1) := by rw [E.ce]; rfl
theorem LawE0.c8 (E : LawE0 c z env L) : env.cells.lookup ("glyphs" : Str) = some (L + 1 + 1 + 1 + 1 + 1 + 1 + 1 + 1) := by rw [E.ce]; rfl
theorem LawE0.c9 (E : LawE0 c z env L) : env.cells.lookup ("octets" : Str) = some (L + 1 + 1 + 1 + 1 + 1 + 1 + 1 + 1 + 1) := by rw [E.ce]; rfl
theorem LawE0.c10 (E : LawE0 c z env L) : env.cells.lookup ("other" : Str) = some (L + 1 + 1 + 1 + 1 + 1 + 1 + 1 + 1 + 1 + 1) := by rw [E.ce]; rfl
theorem LawE0.c11 (E : LawE0 c z env L) : env.cells.lookup ("rows" : Str) = some (L + 1 + 1 + 1 + 1 + 1 + 1 + 1 + 1 + 1 + 1 + 1) := by rw [E.ce]; rfl
theorem LawE0.c12 (E : LawE0 c z env L) : env.cells.lookup ("wide" : Str) = some (L + 1 + 1 + 1 + 1 + 1 + 1 + 1 + 1 + 1 + 1 + 1 + 1) := by rw [E.ce]; rfl
end
end
section
set_option tactic.hygienic false
open PySem PySem.W PyProof.Rows PySem.Calls PySem.Spec
structure MaX where
 own : Led
 oM : Obj
 kvs : List (Int × Value)
 p : Int
 t : Tok
 v1 : Option Value
structure MaOk (w : World) (i : Nat) (y : MaX) : Prop where
 hd : y.oM.IsDictOf (intKind PW w) y.kvs
 kl : y.kvs.length <= i
 nd : (y.kvs.map (·.1)).Nodup
 kv : KvOk w y.own y.kvs
 p : 0 <= y.p
theorem KvOk.mono {w : World} {own own' : List (Addr × Obj)} {kvs : List (Int × Value)} (h : KvOk w own kvs) (hs : ∀ q ∈ own, q ∈ own') : KvOk w own' kvs := fun q hq => by
 refine hideG ?_
 intro PG hG
 refine hideG ?_; intro PG9 hG9
 obtain ⟨a, T, tc, cc, va, px, py, b, d, e, f, g⟩ := h q hq
 refine hG9 ?_; clear hG9 PG9
 exact hG ⟨a, T, tc, cc, va, px, py, b, hs _ d, e, f.mono hs, g⟩
section
variable {w : World} {c : Cf w} {z : Zs} {env : Env} {F : LawF} {ys : List Int} {K : Flow -> Loc -> Led -> Prop}
theorem sA1 {L P : Addr} {nn : Nat} {vs : List Value} {xs : List Int} {o1 o2 o3 o4 o5 o6 o7 o8 o9 o10 o11 o12 : Obj} (E : LawE0 c z env L) (hx : IntsAre vs xs) (hlen : xs.length <= 100) (d1 : o1.data = .cell none)
  (hK : ∀ S C cs ys t n n2 o1', LawE c z env ⟨L, S, C, P, cs, vs, n2, nn⟩ ys -> o1'.data = .cell (some (.ref S)) -> WQ c z (execs (List.drop 1 (lawB w)) env) K (lm (some (.ref P)) none none none none none none none) (ll ⟨L, S, C, P, cs, vs, n2, nn⟩ ⟨[], 0, t, n, o12, o11, o10, o9, o8, o7, o6, o5, o4, o3, o2, o1', #[]⟩)) :
  WQ c z (execs (lawB w) env) K (lm (some (.ref P)) none none none none none none none) [(L + 1 + 1 + 1 + 1 + 1 + 1 + 1 + 1 + 1 + 1 + 1 + 1, o12), (L + 1 + 1 + 1 + 1 + 1 + 1 + 1 + 1 + 1 + 1 + 1, o11), (L + 1 + 1 + 1 + 1 + 1 + 1 + 1 + 1 + 1 + 1, o10), (L + 1 + 1 + 1 + 1 + 1 + 1 + 1 + 1 + 1, o9), (L + 1 + 1 + 1 + 1 + 1 + 1 + 1 + 1, o8), (L + 1 + 1 + 1 + 1 + 1 + 1 + 1, o7), (L + 1 + 1 + 1 + 1 + 1 + 1, o6), (L + 1 + 1 + 1 + 1 + 1, o5), (L + 1 + 1 + 1 + 1, o4), (L + 1 + 1 + 1, o3), (L + 1 + 1, o2), (L + 1, o1), (496, tabObj #[]), (P, PySem.W.listOf vs.toArray nn)] := by
 refine cut_q (a := [_]) (b := List.drop 1 (lawB w)) ?_
 refine run_ok E.V E.hf E.hC (by decide) (by decide) 40 _ _ _ _ ?_
 refine lsrc_q (E.hC.mo rfl) (.tail _ (.tail _ (.tail _ (.tail _ (.tail _ (.tail _ (.tail _ (.tail _ (.tail _ (.tail _ (.tail _ (.tail _ (.tail _ (.head _)))))))))))))) hx hlen fun S C cs ys t n n' hne h60 hcs fS fC => ?_
 refine cset_q E.hC E.hf rfl E.c1 (fun o' => .tail (.tail (.tail (.tail (.tail (.tail (.tail (.tail (.tail (.tail (.tail (.tail (.tail .head))))))))))))) ⟨_, d1⟩ (.inr (E.fc 0 rfl)) fun o1' d1' => ?_
 exact ⟨rfl, hK S C cs ys t n n' o1' ⟨E, fS, fC, hcs, hne, h60⟩ d1'⟩
theorem sA2 (E : LawE c z env F ys) {x : LawX} {sc : Option Value} (hp : 0 <= x.p) (d1 : x.o1.data = .cell (some (.ref F.S))) (d2 : x.o2.data = .cell none)
  (hK : ∀ M oM kvs own p t v1 o2', oM.IsDictOf (intKind PW w) kvs -> kvs.length <= 5 -> (kvs.map (·.1)).Nodup -> KvOk w own kvs -> (M == sysModules) = false -> (M, oM) ∈ own -> 0 <= p -> o2'.data = .cell (some (.ref M)) ->
   WQ c z (execs (List.drop 3 (lawB w)) env) K (lm sc v1 none none none none none none) (ll F (((x.s2 o2').sp p t).add own))) :
  WQ c z (execs (List.drop 1 (lawB w)) env) K (lm sc none none none none none none none) (ll F x) := by
 have hC := E.b.hC
 have V := E.b.V
 refine cut_q (a := [_, _]) (b := List.drop 3 (lawB w)) ?_
 refine run_ok V E.b.hf hC (by decide) (by decide) 40 _ _ _ _ ?_
 refine dict_q hC fun M oM hdM lo fM => ?_
 refine cset_q hC E.b.hf rfl E.b.c2 (fun o' => .tail (r2 F x o')) ⟨_, d2⟩ (.inr (E.b.fc 1 rfl)) fun o2' d2' => ?_
 refine for_e hC V E.b.hf rfl ?_
 refine cell_q V rfl E.b.c1 (.tail _ (m1 F _)) d1 ?_
 intro t0
 refine draw_q (hC.mo rfl) E.hcs E.hne E.h60 (by decide) (.tail _ (mC F _)) (fun q t => .tail (rS F _ q t)) (.inr E.fS) fun v t1 t2 v0 v1 => ?_
 refine range1_q hC fun Rg t3 t4 t5 fRg => ?_
 obtain ⟨k, rfl⟩ : ∃ k : Nat, v = k := ⟨v.toNat, by omega⟩
 refine itRange_q (X := MaX) hC E.b.hf (.head _) rfl (by omega) (fun y => lm sc y.v1 none none none none none none)
  (fun y => y.own ++ (M, y.oM) :: ll F ((x.s2 o2').sp y.p y.t)) (MaOk w) ⟨[(Rg, rgO 0 k 1 t3 t4 t5)], oM, [], x.p + 1, t2, none⟩ rfl rfl ⟨hdM, Nat.le_refl _, .nil, .nil, by show 0 <= x.p + 1; omega⟩ ?_ ?_
 ·intro i t6 y z1 hi hz hok
  refine body_e 20 hC (by decide) (by decide) V E.b.hf hz fun T0 hT0 => ?_
  refine cell_q (V.shift z1 hz) rfl E.b.c1 (mR (.tail _ (m1 F _))) d1 ?_
  intro t7
  refine draw_q (hC.mo rfl) E.hcs E.hne E.h60 (by decide) (mR (.tail _ (mC F _))) (fun q t => .app (.tail (rS F _ q t))) (.inr E.fS) fun cc t8 t9 c0 c1 => ?_
  refine cell_q (V.shift z1 hz) rfl E.b.c1 (mR (.tail _ (m1 F _))) d1 ?_
  refine lnum_q (hC.mo rfl) E.hcs E.hne E.h60 (mR (.tail _ (mC F _))) (fun q t => .app (.tail (rS F _ q t))) (.inr E.fS) fun px t10 t11 ox => ?_
  refine cell_q (V.shift z1 hz) rfl E.b.c1 (mR (.tail _ (m1 F _))) d1 ?_
  refine lnum_q (hC.mo rfl) E.hcs E.hne E.h60 (mR (.tail _ (mC F _))) (fun q t => .app (.tail (rS F _ q t))) (.inr E.fS) fun py t12 t13 oy => ?_
  refine anc_q (hC.mo rfl) fun a d t14 t15 lt fa fd => ?_
  refine newTup_q hC (szl rfl) fun T fT => ?_
  refine cell_q (V.shift z1 hz) rfl E.b.c2 (.tail _ (.tail _ (.tail _ (mR (.tail _ (m2 F _)))))) d2' ?_
  refine cell_q (V.shift z1 hz) rfl E.b.c1 (.tail _ (.tail _ (.tail _ (mR (.tail _ (m1 F _)))))) d1 ?_
  intro t16
  refine draw_q (hC.mo rfl) E.hcs E.hne E.h60 (by decide) (.tail _ (.tail _ (.tail _ (mR (.tail _ (mC F _)))))) (fun q t => .tail (.tail (.tail (.app (.tail (rS F _ q t)))))) (.inr E.fS) fun g t17 t18 g0 g1 => ?_
  refine dset_q hC (fun o' => .tail (.tail (.tail (.app .head)))) hok.hd (.inr fM) (by have := hok.kl; omega) fun oM2 hd2 => ?_
  refine hT0 ⟨(T, tupQ [.int cc t8, .ref a] 0) :: (a, instObj 302 d) :: (d, ancD w px py t14 t10 t15 t12) :: y.own, oM2, _, _, _, some _⟩ ⟨hd2, Nat.le_trans (stored_keys hok.nd).2 (Nat.succ_le_succ hok.kl), (stored_keys hok.nd).1,
   hok.kv.stored (fun q hq => .tail _ (.tail _ (.tail _ hq))) ⟨g0, g1⟩ (.head _) ⟨c0, c1⟩ ⟨a, d, _, _, _, _, rfl, .tail _ (.head _), .tail _ (.tail _ (.head _)), lt⟩ ox oy, by have := hok.p; show 0 <= y.p + 1 + 1 + 1 + 1 + 1 + 1; omega⟩
 ·intro y hok
  refine ⟨rfl, ?_⟩
  have e : y.own ++ (M, y.oM) :: ll F ((x.s2 o2').sp y.p y.t) = ll F (((x.s2 o2').sp y.p y.t).add (y.own ++ [(M, y.oM)])) := by rw [<- ll_add, List.append_assoc]; rfl
  rw [e]
  exact hK M y.oM y.kvs _ y.p y.t y.v1 o2' hok.hd (Nat.le_trans hok.kl (by omega)) hok.nd (hok.kv.mono fun r hr => List.mem_append_left _ hr) lo (mR (.head _)) hok.p d2'
end
end
section
set_option tactic.hygienic false
open PySem PySem.W PyProof.Rows PySem.Calls PySem.Spec
structure RoX where
 own : Led
 vs : List Value
 rs : List AnR
 n9 : Nat
 p : Int
 t : Tok
 v1 : Option Value
 v2 : Option Value
structure RoOk (w : World) (v9 : Int) (i : Nat) (y : RoX) : Prop where
 rw_ : RowsAre w y.own y.vs y.rs
 rl : y.rs.length = i
 ok : ∀ r ∈ y.rs, (r.length : Int) = 1 + v9 /\ RowOk r
 p : 0 <= y.p
section
variable {w : World} {c : Cf w} {z : Zs} {env : Env} {F : LawF} {ys : List Int} {K : Flow -> Loc -> Led -> Prop}
theorem sB (E : LawE c z env F ys) {x : LawX} {sc tu : Option Value} (hp : 0 <= x.p) (d1 : x.o1.data = .cell (some (.ref F.S))) (d11 : x.o11.data = .cell none) (d12 : x.o12.data = .cell none)
  (hK : ∀ Rl vs rs nn own p t v1 v2 v9 tw o11' o12', RowsAre w own vs rs -> rs.length <= 3 -> (∀ r ∈ rs, (r.length : Int) = 1 + v9 /\ RowOk r) -> 0 <= v9 -> v9 < 3 -> (Rl, PySem.W.listOf vs.toArray nn) ∈ own -> 0 <= p -> o11'.data = .cell (some (.ref Rl)) -> o12'.data = .cell (some (.int (1 + v9) tw)) ->
   WQ c z (execs (List.drop 6 (lawB w)) env) K (lm sc v1 v2 none none none none none) (ll F ((((x.s12 o12').s11 o11').sp p t).add own))) :
  WQ c z (execs (List.drop 3 (lawB w)) env) K (lm sc tu none none none none none none) (ll F x) := by
 have hC := E.b.hC
 have V := E.b.V
 refine cut_q (a := [_, _, _]) (b := List.drop 6 (lawB w)) ?_
 refine run_ok V E.b.hf hC (by decide) (by decide) 40 _ _ _ _ ?_
 intro ta
 refine cell_q V rfl E.b.c1 (m1 F _) d1 ?_
 intro tb
 refine draw_q (hC.mo rfl) E.hcs E.hne E.h60 (by decide) (mC F _) (fun q t => rS F _ q t) (.inr E.fS) fun v9 tc td v90 v91 => ?_
 intro tw
 refine cset_q hC E.b.hf rfl E.b.c12 (fun o' => r12 F _ o') ⟨_, d12⟩ (.inr (E.b.fc 11 rfl)) fun o12' d12' => ?_
 refine newList_q hC (szl rfl) fun Rl fRl => ?_
 refine cset_q hC E.b.hf rfl E.b.c11 (fun o' => .tail (r11 F _ o')) ⟨_, d11⟩ (.inr (E.b.fc 10 rfl)) fun o11' d11' => ?_
 refine for_e hC V E.b.hf rfl ?_
 refine cell_q V rfl E.b.c1 (.tail _ (m1 F _)) d1 ?_
 intro t0
 refine draw_q (hC.mo rfl) E.hcs E.hne E.h60 (by decide) (.tail _ (mC F _)) (fun q t => .tail (rS F _ q t)) (.inr E.fS) fun v t1 t2 v0 v1 => ?_
 refine range1_q hC fun Rg t3 t4 t5 fRg => ?_
 obtain ⟨k, rfl⟩ : ∃ k : Nat, v = k := ⟨v.toNat, by omega⟩
 obtain ⟨n9, hn9⟩ : ∃ n9 : Nat, v9 = n9 := ⟨v9.toNat, by omega⟩
 refine itRange_q (X := RoX) hC E.b.hf (.head _) rfl (by omega) (fun y => lm sc y.v1 y.v2 none none none none none)
  (fun y => y.own ++ (Rl, PySem.W.listOf y.vs.toArray y.n9) :: ll F (((x.s12 o12').s11 o11').sp y.p y.t)) (RoOk w v9) ⟨[(Rg, rgO 0 k 1 t3 t4 t5)], [], [], 0, x.p + 1 + 1, t2, tu, none⟩ rfl rfl ⟨.nil, rfl, (fun _ h => absurd h List.not_mem_nil), by show 0 <= x.p + 1 + 1; omega⟩ ?_ ?_
 ·intro i t6 y z1 hi hz hok
  refine body_e0 20 hC (by decide) (by decide) V E.b.hf hz fun T0 hT0 => ?_
  refine assign_comp_q hC (V.shift z1 hz) (E.b.hf.shift z1) (clos_q E.b.ce rfl) (by decide) rfl (by decide) rfl rfl (swaps_yes (V.shift z1 hz) rfl rfl) ?_
  refine cell_q (V.shift z1 hz) rfl E.b.c12 (mR (.tail _ (m12 F _))) d12' ?_
  refine range1_q hC fun Rg2 t7 t8 t9 fRg2 => ?_
  refine itcRange_q (n := 1 + n9) (X := Led × AnR × Int × Tok) (b := true) hC (V.shift z1 hz) (.head _) (by omega) (by omega) (fun a => a.1 ++ (Rg2, rgO 0 (1 + v9) 1 t7 t8 t9) :: (y.own ++ (Rl, PySem.W.listOf y.vs.toArray y.n9) :: ll F (((x.s12 o12').s11 o11').sp a.2.2.1 a.2.2.2)))
   (fun j a us => RowAre w a.1 us a.2.1 /\ RowOk a.2.1 /\ a.2.1.length = j /\ 0 <= a.2.2.1) ([], [], y.p, y.t) rfl ⟨.nil, .nil, rfl, hok.p⟩ ?_ ?_
  ·intro j v2 hx2 us c' z' env' hj hx8 hx9 hyl hC' V' hcl' hEr hS' hF hF'
   refine el_e V' hC' fun T1 hT1 => ?_
   refine hideG ?_; intro PG9 hG9
   obtain ⟨own3, r, p3, t10⟩ := hx2
   refine hG9 ?_; clear hG9 PG9
   obtain ⟨tj, rfl⟩ := hx8
   refine hideG ?_; intro PG9 hG9
   obtain ⟨hr, hro, hrl, hp3⟩ := hx9
   refine hG9 ?_; clear hG9 PG9
   have hp3 : 0 <= p3 := hp3
   refine cell_q V' rfl (lkc hcl' rfl) (mR (.tail _ (mR (.tail _ (m1 F _))))) d1 ?_
   intro t11
   refine draw_q (hC'.mo rfl) E.hcs E.hne E.h60 (by decide) (mR (.tail _ (mR (.tail _ (mC F _))))) (fun q t => .app (.tail (.app (.tail (rS F _ q t))))) (.inr (hF' _ E.fS)) fun u t12 t13 u0 u1 => ?_
   intro t14
   refine Two.mk (fun q => ?_) fun q => ?_
   ·refine cell_q V' rfl (lkc hcl' rfl) (mR (.tail _ (mR (.tail _ (m1 F _))))) d1 ?_
    refine lnum_q (hC'.mo rfl) E.hcs E.hne E.h60 (mR (.tail _ (mR (.tail _ (mC F _))))) (fun q t => .app (.tail (.app (.tail (rS F _ q t))))) (.inr (hF' _ E.fS)) fun px t15 t16 ox => ?_
    refine cell_q V' rfl (lkc hcl' rfl) (mR (.tail _ (mR (.tail _ (m1 F _))))) d1 ?_
    refine lnum_q (hC'.mo rfl) E.hcs E.hne E.h60 (mR (.tail _ (mR (.tail _ (mC F _))))) (fun q t => .app (.tail (.app (.tail (rS F _ q t))))) (.inr (hF' _ E.fS)) fun py t17 t18 oy => ?_
    refine anc_q (hC'.mo rfl) fun a d t19 t20 lt fa fd => ?_
    refine hT1 ((a, instObj 302 d) :: (d, ancD w px py t19 t15 t20 t17) :: own3, r ++ [some (px, py)], _, _) _ _ ⟨(hr.mono fun q hq => .tail _ (.tail _ hq)).snoc ⟨a, d, _, _, _, _, rfl, .head _, .tail _ (.head _), lt⟩, hro.snoc (fun x' y' e => by cases e; exact ⟨ox, oy⟩), by rw [List.length_append, List.length_singleton, hrl], by show 0 <= p3 + 1 + 1 + 1 + 1 + 1; omega⟩
   ·exact hT1 (own3, r ++ [none], _, _) _ _ ⟨hr.snoc rfl, hro.snoc (fun x' y' e => by cases e), by rw [List.length_append, List.length_singleton, hrl], by show 0 <= p3 + 1; omega⟩
  intro hz09 us hz29 hyl D fD
  refine hideG ?_; intro PG9 hG9
  obtain ⟨own3, r, p3, t10⟩ := hz09
  refine hG9 ?_; clear hG9 PG9
  refine hideG ?_; intro PG9 hG9
  obtain ⟨hr, hro, hrl, hp3⟩ := hz29
  refine hG9 ?_; clear hG9 PG9
  have hul := hr.len
  refine cell_q (V.shift z1 hz) rfl E.b.c11 (.tail _ (mR (.tail _ (mR (.tail _ (m11 F _)))))) d11' ?_
  refine lmApp_q (.tail _ (mR (.tail _ (mR (.head _))))) ?_
  refine tupL_q hC (.head _) (by omega) fun T fT => ?_
  refine app_q hC (.tail (.tail (.app (.tail (.app .head))))) (.inr fRl) (by have := hok.rw_.len; have := hok.rl; omega) ?_
  refine hT0 _ _ _ ?_
  refine ⟨⟨(T, tupO us) :: (D, LCg.lst us) :: (own3 ++ (Rg2, rgO 0 (1 + v9) 1 t7 t8 t9) :: y.own), y.vs ++ [.ref T], y.rs ++ [r], y.n9 + 1, p3, t10, some _, some (.ref D)⟩, rfl, by simp [ll, fx, LawX.sp, LawX.s11, LawX.s12], ?_, ?_, ?_, hp3⟩
  ·exact (hok.rw_.mono fun q hq => .tail _ (.tail _ (mR (.tail _ hq)))).snoc (.head _) (hr.mono fun q hq => .tail _ (.tail _ (mL hq)))
  ·rw [List.length_append, List.length_singleton, hok.rl]
  ·intro q hq
   rcases List.mem_append.mp hq with hq | hq
   ·exact hok.ok q hq
   ·rw [List.mem_singleton.mp hq]
    refine ⟨?_, hro⟩
    rw [<- hul, hyl]; omega
 ·intro y hok
  refine ⟨rfl, ?_⟩
  have e : y.own ++ (Rl, PySem.W.listOf y.vs.toArray y.n9) :: ll F (((x.s12 o12').s11 o11').sp y.p y.t) = ll F ((((x.s12 o12').s11 o11').sp y.p y.t).add (y.own ++ [(Rl, PySem.W.listOf y.vs.toArray y.n9)])) := by rw [<- ll_add, List.append_assoc]; rfl
  rw [e]
  exact hK Rl y.vs y.rs y.n9 _ y.p y.t y.v1 y.v2 v9 tw o11' o12' (hok.rw_.mono fun q hq => List.mem_append_left _ hq) (by have := hok.rl; omega) hok.ok v90 v91 (mR (.head _)) hok.p d11' d12'
end
end
section
set_option tactic.hygienic false
open PySem PySem.W PyProof.Rows PySem.Calls PySem.Spec
structure MkF (w : World) (own : Led) (M : Addr) (oM : Obj) (kvs : List (Int × Value)) (ms : List Mk) : Prop where
 mM : (M, oM) ∈ own
 hd : oM.IsDictOf (intKind PW w) kvs
 lo : (M == sysModules) = false
 hM : MarksAre w own kvs ms
 n5 : ms.length <= 5
 ok : ∀ m ∈ ms, MkOk m
 nd : (ms.map (·.g)).Nodup
theorem MkF.mono {w : World} {own own' : Led} {M : Addr} {oM : Obj} {kvs : List (Int × Value)} {ms : List Mk} (h : MkF w own M oM kvs ms) (hs : ∀ q ∈ own, q ∈ own') : MkF w own' M oM kvs ms := ⟨hs _ h.mM, h.hd, h.lo, h.hM.mono hs, h.n5, h.ok, h.nd⟩
structure CvF (w : World) (own : Led) (Cv : Addr) (gs : List Int) (dc Gl : Addr) (us : List Value) (t1 : Tok) : Prop where
 lt : @LT.lt Nat _ dc Cv
 hus : IntsAre us gs
 m1 : (Cv, instObj 426 dc) ∈ own
 m2 : (dc, covD w Gl t1) ∈ own
 m3 : (Gl, tupO us) ∈ own
theorem CvF.mono {w : World} {own own' : Led} {Cv dc Gl : Addr} {gs : List Int} {us : List Value} {t1 : Tok} (h : CvF w own Cv gs dc Gl us t1) (hs : ∀ q ∈ own, q ∈ own') : CvF w own' Cv gs dc Gl us t1 := ⟨h.lt, h.hus, hs _ h.m1, hs _ h.m2, hs _ h.m3⟩
theorem ints7 (t : Tok) : ∀ k : Nat, IntsAre (List.replicate k [Value.int 7 t]).flatten (List.replicate k [7]).flatten
 | 0 => .nil
 | k + 1 => .cons _ _ (ints7 t k)
section
variable {w : World} {c : Cf w} {z : Zs} {env : Env} {F : LawF} {ys : List Int} {K : Flow -> Loc -> Led -> Prop} {M : Addr} {oM : Obj} {kvs : List (Int × Value)} {ms : List Mk} {m0 : Loc}
theorem MkF.ll {x : LawX} (h : MkF w x.own M oM kvs ms) : MarksAre w (ll F x) kvs ms := h.hM.mono fun _ hq => mo F x hq
theorem sC (E : LawE c z env F ys) {x : LawX} (hp : 0 <= x.p) (d1 : x.o1.data = .cell (some (.ref F.S))) (d2 : x.o2.data = .cell (some (.ref M))) (d3 : x.o3.data = .cell none) (d6 : x.o6.data = .cell none) (hF : MkF w x.own M oM kvs ms)
  (hK : ∀ (ah : List UInt8) ta Cv dc Gl us t1 p t o3' o6' new, ah.length <= 2 -> CvF w new Cv (ms.map (·.g)) dc Gl us t1 -> 0 <= p -> o3'.data = .cell (some (.bytes ah.toArray ta)) -> o6'.data = .cell (some (.ref Cv)) ->
   WQ c z (execs (List.drop 8 (lawB w)) env) K m0 (ll F ((((x.sp p t).s3 o3').s6 o6').add new))) :
  WQ c z (execs (List.drop 6 (lawB w)) env) K m0 (ll F x) := by
 have hC := E.b.hC
 have V := E.b.V
 refine cut_q (a := [_, _]) (b := List.drop 8 (lawB w)) ?_
 refine run_ok V E.b.hf hC (by decide) (by decide) 40 _ _ _ _ ?_
 intro t0
 refine newList_q hC (szl rfl) fun la fla => ?_
 refine cell_q V rfl E.b.c1 (.tail _ (m1 F _)) d1 ?_
 intro t1
 refine draw_q (hC.mo rfl) E.hcs E.hne E.h60 (by decide) (.tail _ (mC F _)) (fun q t => .tail (rS F _ q t)) (.inr E.fS) fun v t2 t3 v0 v1 => ?_
 refine lmul_q (vs := [.int 7 t0]) hC (.head _) (by omega) (by omega) (by show 1 * v.toNat <= 256; omega) fun lb flb => ?_
 refine bytes_q hC (.head _) (ints7 t0 v.toNat) (oct7 _) (by rw [len7]; omega) fun t4 => ?_
 refine cset_q hC E.b.hf rfl E.b.c3 (fun o' => .tail (.tail (r3 F _ o'))) ⟨_, d3⟩ (.inr (E.b.fc 2 rfl)) fun o3' d3' => ?_
 refine cell_q V rfl E.b.c2 (.tail _ (.tail _ (m2 F _))) d2 ?_
 have hgl : (ms.map (·.g)).length = ms.length := List.length_map ..
 have h5 := hF.n5
 refine sortD_q hC (.tail _ (.tail _ (mo F _ hF.mM))) hF.hd hF.lo hF.hM.perm hF.hM.ord (by omega) fun D us1 n1 hus1 fD => ?_
 refine cov_q (hC.mo rfl) (.head _) hus1 (by omega) hF.hM.ord hF.nd fun Cv dc Gl us t5 hus lt f1 f2 f3 => ?_
 refine cset_q hC E.b.hf rfl E.b.c6 (fun o' => .tail (.tail (.tail (.tail (.tail (.tail (r6 F _ o'))))))) ⟨_, d6⟩ (.inr (E.b.fc 5 rfl)) fun o6' d6' => ?_
 exact ⟨rfl, hK _ _ Cv dc Gl us t5 _ _ o3' o6' [_, _, _, _, _, _] (by rw [octB_len, len7]; exact len3 v1) ⟨lt, hus, .head _, .tail _ (.head _), .tail _ (.tail _ (.head _))⟩ (by show 0 <= x.p + 1; omega) d3' d6'⟩
theorem sD (E : LawE c z env F ys) {x : LawX} {s t r d k a o e : Option Value} (d2 : x.o2.data = .cell (some (.ref M))) (hF : MkF w x.own M oM kvs ms)
  (hK : ∀ D new, DatIn new (.ref D) (mksD ms) -> WQ c z (execs (List.drop 9 (lawB w)) env) K (lm s t r (some (.ref D)) k a o e) (ll F (x.add new))) :
  WQ c z (execs (List.drop 8 (lawB w)) env) K (lm s t r d k a o e) (ll F x) := by
 have hC := E.b.hC
 have V := E.b.V
 have h5 := hF.n5
 have hgl : (ms.map (·.g)).length = ms.length := List.length_map ..
 refine cut_q (a := [_]) (b := List.drop 9 (lawB w)) ?_
 refine run_ok V E.b.hf hC (by decide) (by decide) 40 _ _ _ _ ?_
 refine comp_q hC V E.b.hf (clos_q E.b.ce rfl) (by decide) rfl (by decide) rfl ?_
 refine cell_q V rfl E.b.c2 (m2 F _) d2 ?_
 refine sortD_q hC (mo F _ hF.mM) hF.hd hF.lo hF.hM.perm hF.hM.ord (by omega) fun Ds us1 n1 hus1 fDs => ?_
 have hul := hus1.length
 refine itcList_q (vs := us1) (X := Led) (b := true) hC V (fun a => a ++ (Ds, PySem.W.listOf us1.toArray n1) :: ll F x) (fun i a us => DatAll a us ((ms.take i).map mkD)) [] rfl .nil (fun a => List.mem_append_right _ (.head _)) (by omega) ?_ ?_
 ·rintro i v own us c' z' env' hi hv hus hyl hC' V' hcl' hEr hS' hF1 hF2
  refine hideG ?_; intro PG9 hG9
  obtain ⟨g0, tg, rfl, hg0⟩ := hus1.at i v hv
  refine hG9 ?_; clear hG9 PG9
  obtain ⟨mk, hmk⟩ : ∃ mk, ms[i]? = some mk := ⟨ms[i]'(by omega), List.getElem?_eq_getElem (by omega)⟩
  rw [List.getElem?_map, hmk] at hg0
  cases hg0
  refine hideG ?_; intro PG9 hG9
  obtain ⟨T, tc, va, hval, hT, a, da, t1, t2, t3, t4, rfl, ha, hda, hlt⟩ := hF.hM.at_ mk (List.mem_of_getElem? hmk)
  refine hG9 ?_; clear hG9 PG9
  have mM : (M, oM) ∈ own ++ (Ds, PySem.W.listOf us1.toArray n1) :: ll F x := List.mem_append_right _ (.tail _ (mo F _ hF.mM))
  have mT : (T, tupQ [.int mk.c tc, .ref a] 0) ∈ own ++ (Ds, PySem.W.listOf us1.toArray n1) :: ll F x := List.mem_append_right _ (.tail _ (mo F _ hT))
  have ma : (a, instObj 302 da) ∈ own ++ (Ds, PySem.W.listOf us1.toArray n1) :: ll F x := List.mem_append_right _ (.tail _ (mo F _ ha))
  have md : (da, ancD w mk.x mk.y t1 t2 t3 t4) ∈ own ++ (Ds, PySem.W.listOf us1.toArray n1) :: ll F x := List.mem_append_right _ (.tail _ (mo F _ hda))
  have mc : (F.L + 1 + 1, x.o2) ∈ own ++ (Ds, PySem.W.listOf us1.toArray n1) :: ll F x := List.mem_append_right _ (.tail _ (m2 F _))
  refine el_e V' hC' fun T0 hT0 => ?_
  refine cell_q V' rfl (lkc hcl' rfl) mc d2 ?_
  refine ditem_q mM hF.hd hval ?_
  intro t5
  refine itemT_q mT (by decide) (by decide) (j := 0) rfl rfl ?_
  refine cell_q V' rfl (lkc hcl' rfl) mc d2 ?_
  refine ditem_q mM hF.hd hval ?_
  intro t6
  refine itemT_q mT (by decide) (by decide) (j := 1) rfl rfl ?_
  refine attr_q hC' ma md (.tail _ (.tail _ (.tail _ (.head _)))) rfl rfl ?_
  refine cell_q V' rfl (lkc hcl' rfl) mc d2 ?_
  refine ditem_q mM hF.hd hval ?_
  intro t7
  refine itemT_q mT (by decide) (by decide) (j := 1) rfl rfl ?_
  refine attr_q hC' ma md (.tail _ (.tail _ (.tail _ (.tail _ (.head _))))) rfl rfl ?_
  refine newTup_q hC' (szl rfl) fun U fU => ?_
  refine newTup_q hC' (szl rfl) fun T2 fT2 => ?_
  refine hT0 ((T2, tupQ [.int mk.g tg, .int mk.c tc, .ref U] 0) :: (U, tupQ [.int mk.x t2, .int mk.y t4] 0) :: own) _ _ ?_
  show DatAll _ _ ((ms.take (i + 1)).map mkD)
  rw [List.take_add_one, hmk, Option.toList_some, List.map_append]
  exact (hus.mono fun p hp => .tail _ (.tail _ hp)).append (.one (.tuple (n := 0) (.head _) (.cons (.int _ _) (.cons (.int _ _) (.cons (.tuple (n := 0) (.tail _ (.head _)) (.cons (.int _ _) (.cons (.int _ _) .nil))) .nil)))))
 ·intro own us hus hyl D fD
  refine tupL_q hC (.head _) (by omega) fun T fT => ?_
  have hus : DatAll own us ((ms.take us1.length).map mkD) := hus
  rw [show us1.length = ms.length by omega, List.take_length] at hus
  refine ⟨rfl, ?_⟩
  have e : (T, ({ cls := .type "tuple", data := .seq us.toArray } : Obj)) :: (D, LCg.lst us) :: (own ++ (Ds, PySem.W.listOf us1.toArray n1) :: ll F x) = ll F (x.add ((T, tupO us) :: (D, LCg.lst us) :: (own ++ [(Ds, PySem.W.listOf us1.toArray n1)]))) := by rw [<- ll_add]; simp
  rw [e]
  exact hK T _ (.tuple (n := 0) (.head _) (hus.mono fun p hp => .tail _ (.tail _ (mL hp))))
theorem sE (E : LawE c z env F ys) {x : LawX} (d2 : x.o2.data = .cell (some (.ref M))) (d9 : x.o9.data = .cell none) (hF : MkF w x.own M oM kvs ms)
  (hK : ∀ t o9', o9'.data = .cell (some (.bytes (wmB ms).toArray t)) -> WQ c z (execs (List.drop 10 (lawB w)) env) K m0 (ll F (x.s9 o9'))) :
  WQ c z (execs (List.drop 9 (lawB w)) env) K m0 (ll F x) := by
 have hC := E.b.hC
 have V := E.b.V
 refine cut_q (a := [_]) (b := List.drop 10 (lawB w)) ?_
 refine run_ok V E.b.hf hC (by decide) (by decide) 40 _ _ _ _ ?_
 refine cell_q V rfl E.b.c2 (m2 F _) d2 ?_
 refine wmarks_q (hC.mo rfl) (mo F _ hF.mM) hF.hd hF.lo hF.ll (Nat.le_trans hF.n5 (by decide)) (fun m hm => ⟨(hF.ok m hm).1, (hF.ok m hm).2.1, (hF.ok m hm).2.2.1, Int.lt_trans (hF.ok m hm).2.2.2.1 (by decide)⟩) fun t => ?_
 refine cset_q hC E.b.hf rfl E.b.c9 (fun o' => r9 F _ o') ⟨_, d9⟩ (.inr (E.b.fc 8 rfl)) fun o9' d9' => ?_
 exact ⟨rfl, hK t o9' d9'⟩
end
end
section
set_option tactic.hygienic false
open PySem PySem.W PyProof.Rows PySem.Calls PySem.Spec
section
variable {w : World} {c : Cf w} {z : Zs} {env : Env} {F : LawF} {ys : List Int} {K : Flow -> Loc -> Led -> Prop} {M : Addr} {oM : Obj} {kvs : List (Int × Value)} {ms : List Mk} {m0 : Loc} {L : Addr}
theorem LawE0.fr (E : LawE0 c z env L) : c.env0.frame = some c.L := by rw [E.e0]; exact E.V.fr
theorem sF (E : LawE c z env F ys) {x : LawX} {s t r k a o e : Option Value} {D Cv dc Gl : Addr} {us : List Value} {t1 ta tb : Tok} {ah : List UInt8} (hT : TabOk x.ps 332) (d2 : x.o2.data = .cell (some (.ref M))) (d3 : x.o3.data = .cell (some (.bytes ah.toArray ta))) (d6 : x.o6.data = .cell (some (.ref Cv))) (d9 : x.o9.data = .cell (some (.bytes (wmB ms).toArray tb)))
  (hF : MkF w x.own M oM kvs ms) (hV : CvF w x.own Cv (ms.map (·.g)) dc Gl us t1) (hD : DatIn x.own (.ref D) (mksD ms)) (hah : ah.length <= 2) (hwl : (wmB ms).length <= 1000) (hrt : rdM (ah ++ wmB ms) ah.length 65536 (ms.map (·.g)) = .ok ms)
  (hK : ∀ ps' new, TabOk ps' 333 -> WQ c z (execs (List.drop 11 (lawB w)) env) K (lm s t r (some (.ref D)) k a o e) (ll F ((x.sps ps').add new))) :
  WQ c z (execs (List.drop 10 (lawB w)) env) K (lm s t r (some (.ref D)) k a o e) (ll F x) := by
 have hC := E.b.hC
 have V := E.b.V
 have h8 : ms.length <= 8 := Nat.le_trans hF.n5 (by decide)
 have hgl : (ms.map (·.g)).length <= 8 := by rw [List.length_map]; exact h8
 have hD2 : ∀ ps', DatIn (ll F (x.sps ps')) (.ref D) (mksD ms) := fun ps' => hD.mono fun p hp => mo F (x.sps ps') hp
 refine cut_q (a := [_]) (b := List.drop 11 (lawB w)) ?_
 refine run_ok V E.b.hf hC (by decide) (by decide) 40 _ _ _ _ ?_
 refine cell_q V rfl E.b.c2 (m2 F _) d2 ?_
 refine tmarks_q (hC.mo rfl) (mo F _ hF.mM) hF.hd hF.lo hF.ll h8 fun T out hT1 fo => ?_
 refine datNe_q hC (by decide) (hT1.mono fun p hp => List.mem_append_left _ hp) (hD.mono fun p hp => List.mem_append_right _ (mo F _ hp)) (kqd_mks ms) rfl ?_
 refine lam_q hC E.b.he (by kernel_rfl) (fun ps' => .app (rTp F x ps')) (.inl E.b.h496) hT (by decide) (clos_q E.b.ce rfl) rfl fun f c' oc vs t2 ctv hoc hv hT2 _ ff fc => ?_
 refine caught_q (P := fun d => d = mksD ms) (Flt := fun _ => False) caughtSpec (hC.mo rfl) E.b.ho E.b.fr rfl (.head _) (fun nd => work_q nd (.head _) (.tail _ (.head _)) hoc hv (fun c2 z2 env2 K2 hC2 V2 W2 hcl2 hE2 hK2 => ?_) rfl rfl rfl rfl (by decide) rfl) (fun d e => ⟨_, e⟩) fun T2 d out2 hP hd2 fo2 => ?_
 ·refine free_q W2 rfl (lkc hcl2 rfl) (.tail _ (.tail _ (mR (m3 F _)))) d3 ?_
  refine free_q W2 rfl (lkc hcl2 rfl) (.tail _ (.tail _ (mR (m9 F _)))) d9 ?_
  refine catB_q (by omega) fun t3 => ?_
  refine free_q W2 rfl (lkc hcl2 rfl) (.tail _ (.tail _ (mR (m3 F _)))) d3 ?_
  refine lenB_q (by omega) fun t4 => ?_
  refine free_q W2 rfl (lkc hcl2 rfl) (.tail _ (.tail _ (mR (m6 F _)))) d6 ?_
  refine rmarks_q (hC2.mo rfl) (.inr ⟨rfl, rfl, rfl⟩) (by rw [List.length_append]; omega) (by omega) hV.hus hF.nd hF.hM.ord hgl hV.lt (.tail _ (.tail _ (mR (mo F _ hV.m1)))) (.tail _ (.tail _ (mR (mo F _ hV.m2)))) (.tail _ (.tail _ (mR (mo F _ hV.m3)))) (fun ms' e M' o' kvs' own hd lo hM hg mM fr => ?_) fun f e => (er_no e hrt).elim
  obtain rfl := ok_eq e hrt
  refine tmarks_q (hC2.mo rfl) (mL mM) hd lo (hM.mono fun q hq => List.mem_append_left _ hq) h8 fun T3 out3 hT3 fo3 => ?_
  exact hK2 _ _ _ _ out3 rfl hT3 fun p hp => ⟨List.mem_append_left _ hp, fo3 p hp⟩
 have hde : d = mksD ms := hP.elim id (fun ⟨_, h, _⟩ => h.elim)
 subst hde
 refine datNe_q hC (by decide) (hd2.mono fun p hp => List.mem_append_left _ hp) ((hD2 _).mono fun p hp => List.mem_append_right _ (.tail _ (.tail _ (List.mem_append_right _ hp)))) (kqd_mks ms) rfl ?_
 refine ⟨rfl, ?_⟩
 have e : ∀ (ps' : Array Value) (a b : Addr × Obj), out2 ++ a :: b :: (out ++ ll F (x.sps ps')) = ll F ((x.sps ps').add (out2 ++ a :: b :: out)) := fun ps' a b => by rw [<- ll_add, List.append_assoc]; rfl
 rw [e]
 exact hK _ _ hT2
end
end
section
set_option tactic.hygienic false
open PySem PySem.W PyProof.Rows PySem.Calls PySem.Spec
section
variable {w : World} {c : Cf w} {z : Zs} {env : Env} {F : LawF} {ys : List Int} {K : Flow -> Loc -> Led -> Prop} {M : Addr} {oM : Obj} {kvs : List (Int × Value)} {ms : List Mk} {m0 : Loc} {L : Addr}
theorem sG (E : LawE c z env F ys) {x : LawX} {s t r d k a o e : Option Value} {Cv dc Gl : Addr} {us : List Value} {t1 ta tb : Tok} {ah : List UInt8} (d3 : x.o3.data = .cell (some (.bytes ah.toArray ta))) (d6 : x.o6.data = .cell (some (.ref Cv))) (d9 : x.o9.data = .cell (some (.bytes (wmB ms).toArray tb)))
  (hF : MkF w x.own M oM kvs ms) (hV : CvF w x.own Cv (ms.map (·.g)) dc Gl us t1) (hah : ah.length <= 2) (hwl : (wmB ms).length <= 1000) (hrt : rdM (ah ++ wmB ms) ah.length 65536 (ms.map (·.g)) = .ok ms)
  (hK : ∀ Kp oK kvs' new, MkF w new Kp oK kvs' ms -> WQ c z (execs (List.drop 12 (lawB w)) env) K (lm s t r d (some (.ref Kp)) a o e) (ll F (x.add new))) :
  WQ c z (execs (List.drop 11 (lawB w)) env) K (lm s t r d k a o e) (ll F x) := by
 have hC := E.b.hC
 have V := E.b.V
 have hgl : (ms.map (·.g)).length <= 8 := by rw [List.length_map]; exact Nat.le_trans hF.n5 (by decide)
 refine cut_q (a := [_]) (b := List.drop 12 (lawB w)) ?_
 refine run_ok V E.b.hf hC (by decide) (by decide) 40 _ _ _ _ ?_
 refine cell_q V rfl E.b.c3 (m3 F _) d3 ?_
 refine cell_q V rfl E.b.c9 (m9 F _) d9 ?_
 refine catB_q (by omega) fun t3 => ?_
 refine cell_q V rfl E.b.c3 (m3 F _) d3 ?_
 refine lenB_q (by omega) fun t4 => ?_
 refine cell_q V rfl E.b.c6 (m6 F _) d6 ?_
 refine rmarks_q (hC.mo rfl) (.inr ⟨rfl, rfl, rfl⟩) (by rw [List.length_append]; omega) (by omega) hV.hus hF.nd hF.hM.ord hgl hV.lt (mo F _ hV.m1) (mo F _ hV.m2) (mo F _ hV.m3) (fun ms' e M' o' kvs' own hd lo hM hg mM fr => ?_) fun f e => (er_no e hrt).elim
 obtain rfl := ok_eq e hrt
 rw [ll_add]
 exact ⟨rfl, hK M' o' kvs' own ⟨mM, hd, lo, hM, hF.n5, hF.ok, hF.nd⟩⟩
theorem sH (E : LawE c z env F ys) {x : LawX} {s t r a o e : Option Value} {D : Addr} (hF : MkF w x.own M oM kvs ms) (hD : DatIn x.own (.ref D) (mksD ms))
  (hK : ∀ new, WQ c z (execs (List.drop 13 (lawB w)) env) K (lm s t r (some (.ref D)) (some (.ref M)) a o e) (ll F (x.add new))) :
  WQ c z (execs (List.drop 12 (lawB w)) env) K (lm s t r (some (.ref D)) (some (.ref M)) a o e) (ll F x) := by
 have hC := E.b.hC
 have V := E.b.V
 have h5 := hF.n5
 refine hideG ?_; intro PG9 hG9
 obtain ⟨vs, n, mD, hvl, hat⟩ := mks_open hD
 refine hG9 ?_; clear hG9 PG9
 refine cut_q (a := [_]) (b := List.drop 13 (lawB w)) ?_
 refine run_ok V E.b.hf hC (by decide) (by decide) 40 _ _ _ _ ?_
 refine ccount_q (hC.mo rfl) (mo F _ hF.mM) hF.hd hF.lo hF.ll (Nat.le_trans h5 (by decide)) (fun m hm => ⟨(hF.ok m hm).2.2.1, Int.lt_trans (hF.ok m hm).2.2.2.1 (by decide)⟩) fun v tv hmx => ?_
 intro t0
 refine newList_q hC (szl rfl) fun la fla => ?_
 refine comp_q hC V E.b.hf (clos_q E.b.ce rfl) (by decide) rfl (by decide) rfl ?_
 refine itcTup_q (vs := vs) (X := Unit) (b := true) hC V (fun _ => (la, PySem.W.listOf #[.int 0 t0] 0) :: ll F x) (fun i _ us => IntsAre us ((ms.take i).map fun m => m.c + 1)) () rfl .nil (fun _ => .tail _ (mo F _ mD)) (by omega) ?_ ?_
 ·intro i v hx2 us c' z' env' hi hv hus hyl hC' V' hcl' hEr hS' hF1 hF2
  refine el_e V' hC' fun T0 hT0 => ?_
  obtain ⟨⟩ := hx2
  obtain ⟨mk, hmk⟩ : ∃ mk, ms[i]? = some mk := ⟨ms[i]'(by omega), List.getElem?_eq_getElem (by omega)⟩
  refine hideG ?_; intro PG9 hG9
  obtain ⟨T, n1, t1, t2, P, n2, t3, t4, rfl, hT, hPt⟩ := hat i v mk hv hmk
  refine hG9 ?_; clear hG9 PG9
  intro t5
  refine itemT_q (.tail _ (mo F _ hT)) (by decide) (by decide) (j := 1) rfl rfl ?_
  intro t6 t7
  refine hT0 () _ _ ?_
  show IntsAre _ ((ms.take (i + 1)).map fun m => m.c + 1)
  rw [List.take_add_one, hmk, Option.toList_some, List.map_append]
  exact hus.append (.cons _ _ .nil)
 ·intro _ us hus hyl Dl fDl
  have hus : IntsAre us ((ms.take vs.length).map fun m => m.c + 1) := hus
  rw [hvl, List.take_length] at hus
  refine catI_q (ns := [0]) hC (.tail _ (.head _)) (.head _) (.cons _ _ .nil) hus (by rw [List.length_map]; show 1 + ms.length <= _; omega) fun D2 us2 hus2 fD2 => ?_
  refine maxL_q hC (.head _) hus2 (Nat.succ_pos _) fun u tu hmx2 => ?_
  refine Two.mk (fun q => absurd (hmx.uniq hmx2) q) fun _ => ?_
  exact ⟨rfl, hK [_, _, _]⟩
theorem sI (E : LawE c z env F ys) {x : LawX} {s t r a o e : Option Value} {D : Addr} {tb : Tok} (hF : MkF w x.own M oM kvs ms) (hD : DatIn x.own (.ref D) (mksD ms)) (d9 : x.o9.data = .cell (some (.bytes (wmB ms).toArray tb)))
  (hK : ∀ new, WQ c z (execs (List.drop 14 (lawB w)) env) K (lm s t r (some (.ref D)) (some (.ref M)) a o e) (ll F (x.add new))) :
  WQ c z (execs (List.drop 13 (lawB w)) env) K (lm s t r (some (.ref D)) (some (.ref M)) a o e) (ll F x) := by
 have hC := E.b.hC
 have V := E.b.V
 have h5 := hF.n5
 have hok : ∀ m ∈ ms, ok16 m.x /\ ok16 m.y /\ 0 <= m.c /\ m.c < 65536 := fun m hm => ⟨(hF.ok m hm).1, (hF.ok m hm).2.1, (hF.ok m hm).2.2.1, Int.lt_trans (hF.ok m hm).2.2.2.1 (by decide)⟩
 have hwl : (wmB ms).length <= 1000 := Nat.le_trans wmB_le (by omega)
 refine hideG ?_; intro PG9 hG9
 obtain ⟨vs, n, mD, hvl, hat⟩ := mks_open hD
 refine hG9 ?_; clear hG9 PG9
 refine cut_q (a := [_]) (b := List.drop 14 (lawB w)) ?_
 refine run_ok V E.b.hf hC (by decide) (by decide) 40 _ _ _ _ ?_
 refine cell_q V rfl E.b.c9 (m9 F _) d9 ?_
 refine lenB_q (by omega) fun t0 => ?_
 intro t1 t2
 refine lenTn_q (mo F _ mD) (by omega) fun t3 => ?_
 refine And.intro (.of_left (by decide)) fun t4 => ?_
 intro t5 t6
 refine comp_q hC V E.b.hf (clos_q E.b.ce rfl) (by decide) rfl (by decide) rfl ?_
 refine itcTup_q (vs := vs) (X := Unit) (b := true) hC V (fun _ => ll F x) (fun i _ us => DatAll x.own us ((ms.take i).map fun m => pD (m.x, m.y))) () rfl .nil (fun _ => mo F _ mD) (by omega) ?_ ?_
 ·intro i v hx2 us c' z' env' hi hv hus hyl hC' V' hcl' hEr hS' hF1 hF2
  refine el_e V' hC' fun T0 hT0 => ?_
  obtain ⟨⟩ := hx2
  obtain ⟨mk, hmk⟩ : ∃ mk, ms[i]? = some mk := ⟨ms[i]'(by omega), List.getElem?_eq_getElem (by omega)⟩
  refine hideG ?_; intro PG9 hG9
  obtain ⟨T, n1, t1, t2, P, n2, t3, t4, rfl, hT, hPt⟩ := hat i v mk hv hmk
  refine hG9 ?_; clear hG9 PG9
  intro t7
  refine itemT_q (mo F _ hT) (by decide) (by decide) (j := 2) rfl rfl ?_
  refine hT0 () _ _ ?_
  show DatAll _ _ ((ms.take (i + 1)).map fun m => pD (m.x, m.y))
  rw [List.take_add_one, hmk, Option.toList_some, List.map_append]
  exact hus.append (.one (.tuple hPt (.cons (.int _ _) (.cons (.int _ _) .nil))))
 ·intro _ us hus hyl Dl fDl
  have hus : DatAll x.own us ((ms.take vs.length).map fun m => pD (m.x, m.y)) := hus
  rw [hvl, List.take_length] at hus
  have hpk : DatAll x.own us ((ms.map fun m => (m.x, m.y)).map pD) := by rw [List.map_map]; exact hus
  refine set_q (own := x.own) hC (by decide) (.head _) (fun j => [((ms.map fun m => (m.x, m.y)).getD j (0, 0)).1, ((ms.map fun m => (m.x, m.y)).getD j (0, 0)).2]) (fun p hp => .tail _ (mo F _ hp)) (pts_keys hpk) (by omega) fun Sa oS KS hJ hKS fSa => ?_
  have hk := keys_pts (ps := ms.map fun m => (m.x, m.y)) (by rw [List.length_map]; omega) hKS
  have hcnt := wm_count (fun m hm => ⟨(hok m hm).1, (hok m hm).2.1⟩) hJ.1 hk
  have hk18 := KS_le hJ.1 hKS
  refine lenS_q hJ (.head _) (fun p hp => .tail _ (.tail _ (mo F _ hp))) (by omega) fun t7 => ?_
  refine And.intro (.of_left (by decide)) fun t8 => ?_
  intro t9
  refine Two.mk (fun q => absurd (by rw [hcnt, hvl]; omega) q) fun _ => ?_
  refine wmarks_q (hC.mo rfl) (.tail _ (.tail _ (mo F _ hF.mM))) hF.hd hF.lo (hF.hM.mono fun q hq => .tail _ (.tail _ (mo F _ hq))) (Nat.le_trans h5 (by decide)) hok fun t10 => ?_
  refine cell_q V rfl E.b.c9 (.tail _ (.tail _ (m9 F _))) d9 ?_
  refine neB_q ?_
  exact ⟨rfl, hK [_, _]⟩
end
end
section
set_option tactic.hygienic false
open PySem PySem.W PyProof.Rows PySem.Calls PySem.Spec
structure RwF (w : World) (own : Led) (Rl : Addr) (vs : List Value) (rs : List AnR) (nn : Nat) (v9 : Int) : Prop where
 mR : (Rl, PySem.W.listOf vs.toArray nn) ∈ own
 hM : RowsAre w own vs rs
 n3 : rs.length <= 3
 ok : ∀ r ∈ rs, (r.length : Int) = 1 + v9 /\ RowOk r
 v0 : 0 <= v9
 v3 : v9 < 3
section
variable {w : World} {own own' : Led} {Rl : Addr} {vs : List Value} {rs : List AnR} {nn : Nat} {v9 : Int}
theorem RwF.mono (h : RwF w own Rl vs rs nn v9) (hs : ∀ q ∈ own, q ∈ own') : RwF w own' Rl vs rs nn v9 := ⟨hs _ h.mR, h.hM.mono hs, h.n3, h.ok, h.v0, h.v3⟩
theorem RwF.r3 (h : RwF w own Rl vs rs nn v9) : ∀ r ∈ rs, r.length <= 3 := fun r hr => by have := (h.ok r hr).1; have := h.v3; omega
theorem RwF.r8 (h : RwF w own Rl vs rs nn v9) : ∀ r ∈ rs, r.length <= 8 := fun r hr => Nat.le_trans (h.r3 r hr) (by decide)
theorem RwF.r1 (h : RwF w own Rl vs rs nn v9) : ∀ r ∈ rs, 1 <= r.length := fun r hr => by have := (h.ok r hr).1; have := h.v0; omega
theorem RwF.wd (h : RwF w own Rl vs rs nn v9) : Wd (1 + v9).toNat rs := fun r hr => by have := (h.ok r hr).1; omega
theorem RwF.o1 (h : RwF w own Rl vs rs nn v9) : ∀ r ∈ rs, ∀ p, some p ∈ r -> ok16 p.1 /\ ok16 p.2 := fun r hr p hp => (h.ok r hr).2 _ hp p.1 p.2 rfl
theorem RwF.o2 (h : RwF w own Rl vs rs nn v9) : ∀ r ∈ rs, ∀ x y, some (x, y) ∈ r -> ok16 x /\ ok16 y := fun r hr x y hp => (h.ok r hr).2 _ hp x y rfl
theorem RwF.wl (h : RwF w own Rl vs rs nn v9) : (warB rs).length <= 900 := Nat.le_trans (warB_le h.wd) (by have : (1 + v9).toNat * rs.length <= 3 * 3 := Nat.mul_le_mul (by have := h.v3; omega) h.n3; omega)
theorem RwF.vl (h : RwF w own Rl vs rs nn v9) : vs.length = rs.length := h.hM.len
end
theorem cnt_int {v9 : Int} {n k l : Nat} (h0 : 0 <= v9) (h : l = 2 + 2 * ((1 + v9).toNat * n) + 6 * k) : (l : Int) = 2 + 2 * (1 + v9) * (n : Int) + 6 * (k : Int) := by
 subst h
 have e : (((1 + v9).toNat : Nat) : Int) = 1 + v9 := Int.toNat_of_nonneg (by omega)
 rw [Int.natCast_add, Int.natCast_add, Int.natCast_mul, Int.natCast_mul, Int.natCast_mul, e, Int.mul_assoc]
 rfl
theorem KS_pts {KS : List (List Int)} {ps : List (Int × Int)} (hn : KS.Nodup) (h : ∀ q, q ∈ KS ↔ ∃ p ∈ ps, q = [p.1, p.2]) : KS.length <= ps.length := by
 have := nodup_same (r := ps.map fun p => [p.1, p.2]) hn fun q hq => by
  obtain ⟨p, hp, e⟩ := (h q).mp hq
  exact List.mem_map.mpr ⟨p, hp, e.symm⟩
 rwa [List.length_map] at this
section
variable {w : World} {c : Cf w} {z : Zs} {env : Env} {F : LawF} {ys : List Int} {K : Flow -> Loc -> Led -> Prop} {m0 : Loc} {Rl : Addr} {vs : List Value} {rs : List AnR} {nn : Nat} {v9 : Int}
theorem sK (E : LawE c z env F ys) {x : LawX} {s t r d k a o e : Option Value} (d11 : x.o11.data = .cell (some (.ref Rl))) (hR : RwF w x.own Rl vs rs nn v9)
  (hK : ∀ D new, DatIn new (.ref D) (rowsD rs) -> WQ c z (execs (List.drop 15 (lawB w)) env) K (lm s t r (some (.ref D)) k a o e) (ll F (x.add new))) :
  WQ c z (execs (List.drop 14 (lawB w)) env) K (lm s t r d k a o e) (ll F x) := by
 have hC := E.b.hC
 have V := E.b.V
 have hvl := hR.vl
 have hn3 := hR.n3
 refine cut_q (a := [_]) (b := List.drop 15 (lawB w)) ?_
 refine run_ok V E.b.hf hC (by decide) (by decide) 40 _ _ _ _ ?_
 refine comp_q hC V E.b.hf (clos_q E.b.ce rfl) (by decide) rfl (by decide) rfl ?_
 refine cell_q V rfl E.b.c11 (m11 F _) d11 ?_
 refine itcList_q (vs := vs) (X := Led) (b := true) hC V (fun a => a ++ ll F x) (fun i a us => DatAll a us ((rs.take i).map rowD)) [] rfl .nil (fun a => List.mem_append_right _ (mo F _ hR.mR)) (by omega) ?_ ?_
 ·rintro i v own us c' z' env' hi hv hus hyl hC' V' hcl' hEr hS' hF1 hF2
  refine hideG ?_; intro PG9 hG9
  obtain ⟨T, us2, r2, rfl, hr, hT, hrow⟩ := hR.hM.at_ i v hv
  refine hG9 ?_; clear hG9 PG9
  have hr8 := hR.r8 r2 (List.mem_of_getElem? hr)
  have hul := hrow.len
  refine el_e0 V' hC' fun T0 hT0 => ?_
  refine comp0_q hC' V' rfl (by decide) rfl (by decide) rfl ?_
  refine itcTup_q (vs := us2) (nn := 0) (X := Led) (b := false) hC' V' (fun b => b ++ (own ++ ll F x)) (fun j b zs => DatAll b zs ((r2.take j).map ptO)) [] rfl .nil (fun b => List.mem_append_right _ (mR (mo F _ hT))) (by omega) ?_ ?_
  ·rintro j v2 inn zs c2 z2 env2 hj hv2 hzs hzl hC2 V2 hcl2 hEr2 hS2 hF3 hF4
   obtain ⟨d2, hd2, hel⟩ := hrow.at_ j v2 hv2
   refine el_e V2 hC2 fun T1 hT1 => ?_
   cases d2 with
   | none =>
    obtain rfl := hel
    refine hT1 inn _ _ ?_
    show DatAll _ _ ((r2.take (j + 1)).map ptO)
    rw [List.take_add_one, hd2, Option.toList_some, List.map_append]
    exact hzs.append (.one .none)
   | some p =>
    refine hideG ?_; intro PG9 hG9
    obtain ⟨a, da, t1, t2, t3, t4, rfl, ha, hda, hlt⟩ := hel
    refine hG9 ?_; clear hG9 PG9
    refine attr_q hC2 (mR (List.mem_append_right _ (mo F _ ha))) (mR (List.mem_append_right _ (mo F _ hda))) (.tail _ (.tail _ (.tail _ (.head _)))) rfl rfl ?_
    refine attr_q hC2 (mR (List.mem_append_right _ (mo F _ ha))) (mR (List.mem_append_right _ (mo F _ hda))) (.tail _ (.tail _ (.tail _ (.tail _ (.head _))))) rfl rfl ?_
    refine newTup_q hC2 (szl rfl) fun U fU => ?_
    refine hT1 ((U, tupQ [.int p.1 t2, .int p.2 t4] 0) :: inn) _ _ ?_
    show DatAll _ _ ((r2.take (j + 1)).map ptO)
    rw [List.take_add_one, hd2, Option.toList_some, List.map_append]
    exact (hzs.mono fun p hp => .tail _ hp).append (.one (.tuple (n := 0) (.head _) (.cons (.int _ _) (.cons (.int _ _) .nil))))
  ·intro inn zs hzs hzl D2 fD2
   have hzs : DatAll inn zs ((r2.take us2.length).map ptO) := hzs
   rw [hul, List.take_length] at hzs
   refine tupL_q hC' (.head _) (by omega) fun T2 fT2 => ?_
   refine hT0 _ _ _ ?_
   refine ⟨(T2, tupO zs) :: (D2, LCg.lst zs) :: (inn ++ own), ?_, ?_⟩
   ·show _ :: _ :: (inn ++ (own ++ ll F x)) = _ :: _ :: ((inn ++ own) ++ ll F x)
    rw [List.append_assoc]
   ·show DatAll _ _ ((rs.take (i + 1)).map rowD)
    rw [List.take_add_one, hr, Option.toList_some, List.map_append]
    exact (hus.mono fun p hp => .tail _ (.tail _ (List.mem_append_right _ hp))).append (.one (.tuple (n := 0) (.head _) (hzs.mono fun p hp => .tail _ (.tail _ (mL hp)))))
 ·intro own us hus hyl D fD
  refine tupL_q hC (.head _) (by omega) fun T fT => ?_
  have hus : DatAll own us ((rs.take vs.length).map rowD) := hus
  rw [hvl, List.take_length] at hus
  refine ⟨rfl, ?_⟩
  rw [ll_add]
  exact hK T ((T, tupO us) :: (D, LCg.lst us) :: own) (.tuple (n := 0) (.head _) (hus.mono fun p hp => .tail _ (.tail _ hp)))
theorem sL (E : LawE c z env F ys) {x : LawX} {b9 : Array UInt8} {t9 : Tok} (d9 : x.o9.data = .cell (some (.bytes b9 t9))) (d11 : x.o11.data = .cell (some (.ref Rl))) (hR : RwF w x.own Rl vs rs nn v9)
  (hK : ∀ t o9', o9'.data = .cell (some (.bytes (warB rs).toArray t)) -> WQ c z (execs (List.drop 16 (lawB w)) env) K m0 (ll F (x.s9 o9'))) :
  WQ c z (execs (List.drop 15 (lawB w)) env) K m0 (ll F x) := by
 have hC := E.b.hC
 have V := E.b.V
 refine cut_q (a := [_]) (b := List.drop 16 (lawB w)) ?_
 refine run_ok V E.b.hf hC (by decide) (by decide) 40 _ _ _ _ ?_
 refine cell_q V rfl E.b.c11 (m11 F _) d11 ?_
 refine war_q (hC.mo rfl) (mo F _ hR.mR) (hR.hM.mono fun q hq => mo F _ hq) (Nat.le_trans hR.n3 (by decide)) hR.r8 hR.o1 (fun _ t => ?_) fun h => absurd (same_of hR.wd) h
 refine cset_q E.b.hC E.b.hf rfl E.b.c9 (fun o' => r9 F _ o') ⟨_, d9⟩ (.inr (E.b.fc 8 rfl)) fun o9' d9' => ?_
 exact ⟨rfl, hK t o9' d9'⟩
theorem sMN (E : LawE c z env F ys) {x : LawX} {s t r k a o e : Option Value} {D : Addr} {tw t9 : Tok} (hR : RwF w x.own Rl vs rs nn v9) (hD : DatIn x.own (.ref D) (rowsD rs)) (d9 : x.o9.data = .cell (some (.bytes (warB rs).toArray t9))) (d11 : x.o11.data = .cell (some (.ref Rl))) (d12 : x.o12.data = .cell (some (.int (1 + v9) tw)))
  (hK : ∀ Sa new, WQ c z (execs (List.drop 18 (lawB w)) env) K (lm s t r (some (.ref D)) k (some (.ref Sa)) o e) (ll F (x.add new))) :
  WQ c z (execs (List.drop 16 (lawB w)) env) K (lm s t r (some (.ref D)) k a o e) (ll F x) := by
 have hC := E.b.hC
 have V := E.b.V
 have hvl := hR.vl
 have hn3 := hR.n3
 have hv0 := hR.v0
 have hv3 := hR.v3
 have hwl := hR.wl
 obtain ⟨vsD, nD, mD, ha⟩ : ∃ vsD nD, (D, tupN vsD nD) ∈ x.own /\ DatAll x.own vsD (rs.map rowD) := by
  unfold rowsD at hD
  cases hD with
  | tuple mD ha => exact ⟨_, _, mD, ha⟩
 refine hideG ?_; intro PG9 hG9
 obtain ⟨rws, e1, e2, hall, hel, hsz, hTs⟩ := rows_pts hR.r3 ha
 refine hG9 ?_; clear hG9 PG9
 have hkl := hall.length
 have hpl : (pts rs).length <= 9 := pts_le hn3 hR.r3
 rw [List.length_map] at hkl
 refine cut_q (a := [_, _]) (b := List.drop 18 (lawB w)) ?_
 refine run_ok V E.b.hf hC (by decide) (by decide) 40 _ _ _ _ ?_
 refine comp2_q (vs := vsD) (rws := rws) hC V (clos_q E.b.ce rfl) (by decide) rfl (by decide) rfl rfl (by intro _ _; rfl) ?_ ?_ ?_ rfl rfl (mo F _ mD) e1 hel (by omega) (fun us hu => Nat.le_trans (hsz us hu) (by decide)) (fun i v us h1 h2 => let ⟨Ti, n, h3, h4⟩ := hTs i v us h1 h2; ⟨Ti, n, h3, mo F _ h4⟩) fun Dl fDl => ?_
 ·intro C A' s' m' v E' Q hn' hv hv2 hq
  refine wpAny_isTrue_Compare1 (wpAny_Name (wpAny_loadName_local rfl rfl hn' hv ?_) (by decide))
  show wpAny _ _ (eval (PySem.Expr.Constant _ _ _) _) _ _ _
  rw [eval_Constant]
  refine wpAny_pure ?_
  rcases hv2 with rfl | ⟨P, rfl⟩
  ·exact isnot_none_none (wpAny_truthy_bool hq)
  ·exact isnot_ref_none (wpAny_truthy_bool hq)
 ·intro C A' s' m' v E' Q hn' hv hq
  exact wpAny_Name (wpAny_loadName_local rfl rfl hn' hv hq) (by decide)
 ·intro C A' s' m' v E' Q hn' hv hq
  exact wpAny_Name (wpAny_loadName_local rfl rfl hn' hv hq) (by decide)
 refine set_q (own := x.own) hC (by decide) (.head _) (fun j => [((pts rs).getD j (0, 0)).1, ((pts rs).getD j (0, 0)).2]) (fun p hp => .tail _ (mo F _ hp)) (pts_keys hall) (by omega) fun Sa oS KS hJ hKS fSa => ?_
 have hk := keys_pts hkl hKS
 have hcnt := war_count hR.wd hR.o2 hJ.1 hk
 have hk18 : KS.length <= 18 := Nat.le_trans (KS_pts hJ.1 hk) (by omega)
 have hlen2 : ((warB rs).length : Int) = 2 + 2 * (1 + v9) * (rs.length : Int) + 6 * (KS.length : Int) := cnt_int hv0 hcnt
 refine cell_q V rfl E.b.c9 (.tail _ (.tail _ (m9 F _))) d9 ?_
 refine lenB_q (by omega) fun t0 => ?_
 intro t1 t2
 refine cell_q V rfl E.b.c12 (.tail _ (.tail _ (m12 F _))) d12 ?_
 refine And.intro (.of_left (by decide)) fun t3 => ?_
 refine cell_q V rfl E.b.c11 (.tail _ (.tail _ (m11 F _))) d11 ?_
 refine lenL_q (.tail _ (.tail _ (mo F _ hR.mR))) (by omega) fun t4 => ?_
 refine And.intro (.of_right (intBits_le_64 (by omega) (by omega))) fun t5 => ?_
 intro t6 t7
 refine lenS_q hJ (.head _) (fun p hp => .tail _ (.tail _ (mo F _ hp))) (by omega) fun t8 => ?_
 refine And.intro (.of_left (by decide)) fun t9 => ?_
 intro t10
 refine Two.mk (fun q => absurd (by rw [hlen2, hvl]) q) fun _ => ?_
 refine cell_q V rfl E.b.c11 (.tail _ (.tail _ (m11 F _))) d11 ?_
 refine trows_q (hC.mo rfl) (.tail _ (.tail _ (mo F _ hR.mR))) (hR.hM.mono fun q hq => .tail _ (.tail _ (mo F _ hq))) (Nat.le_trans hn3 (by decide)) hR.r8 fun T out hT fo => ?_
 refine datNe_q hC (by decide) (hT.mono fun p hp => List.mem_append_left _ hp) (hD.mono fun p hp => List.mem_append_right _ (.tail _ (.tail _ (mo F _ hp)))) (kqd_rows rs) rfl ?_
 refine ⟨rfl, ?_⟩
 have e : ∀ (a b : Addr × Obj), out ++ a :: b :: ll F x = ll F (x.add (out ++ [a, b])) := fun a b => by rw [<- ll_add, List.append_assoc]; rfl
 rw [e]
 exact hK Sa _
end
end
section
set_option tactic.hygienic false
open PySem PySem.W PyProof.Rows PySem.Calls PySem.Spec
theorem ap3 {A B r : Led} {a b : Addr × Obj} : A ++ a :: (B ++ b :: r) = (A ++ a :: B) ++ b :: r := by rw [List.append_assoc]; rfl
structure CoX where
 own : Led
 ps : Array Value
 o5 : Obj
structure CoOk (i : Nat) (y : CoX) : Prop where
 c5 : ∃ v0, y.o5.data = .cell v0
 tab : TabOk y.ps 345 \/ TabOk y.ps 346 /\ ∃ c' oc vs t, (c', oc) ∈ y.own /\ codeAmong ⟨345, 23, 345, 99⟩ y.ps.toList = some (.ref c') /\ oc.data = .fields vs /\ vs[1]? = some (.str ("law" ++ ".<locals>." ++ "<lambda>") t)
 pos : 0 < i -> TabOk y.ps 346 /\ ∃ cv t, y.o5.data = .cell (some (.int cv t))
section
variable {w : World} {c : Cf w} {z : Zs} {env : Env} {F : LawF} {ys : List Int} {K : Flow -> Loc -> Led -> Prop} {m0 : Loc} {Rl : Addr} {vs : List Value} {rs : List AnR} {nn : Nat} {v9 : Int}
theorem sO (E : LawE c z env F ys) {x : LawX} {s t r k a o e : Option Value} {D : Addr} {tw t9 ta : Tok} {ah : List UInt8} (hT : TabOk x.ps 345) (hR : RwF w x.own Rl vs rs nn v9) (hD : DatIn x.own (.ref D) (rowsD rs)) (d3 : x.o3.data = .cell (some (.bytes ah.toArray ta))) (d5 : x.o5.data = .cell none) (d9 : x.o9.data = .cell (some (.bytes (warB rs).toArray t9))) (d11 : x.o11.data = .cell (some (.ref Rl))) (d12 : x.o12.data = .cell (some (.int (1 + v9) tw))) (hah : ah.length <= 2)
  (hrA : rdRows (ah ++ warB rs) ah.length (-1) (1 + v9) = .ok rs) (hrB : rdRows (ah ++ warB rs) ah.length (rs.length : Int) (1 + v9) = .ok rs)
  (hK : ∀ ps' o5' cv tv new, TabOk ps' 346 -> o5'.data = .cell (some (.int cv tv)) -> WQ c z (execs (List.drop 19 (lawB w)) env) K (lm s t r (some (.ref D)) k a o e) (ll F (((x.sps ps').s5 o5').add new))) :
  WQ c z (execs (List.drop 18 (lawB w)) env) K (lm s t r (some (.ref D)) k a o e) (ll F x) := by
 have hC := E.b.hC
 have V := E.b.V
 have hvl := hR.vl
 have hn3 := hR.n3
 have hv0 := hR.v0
 have hv3 := hR.v3
 have hwl := hR.wl
 refine cut_q (a := [_]) (b := List.drop 19 (lawB w)) ?_
 refine run_ok V E.b.hf hC (by decide) (by decide) 40 _ _ _ _ ?_
 refine forC_q hC V E.b.hf ?_
 intro t0 t1
 refine cell_q V rfl E.b.c11 (m11 F _) d11 ?_
 refine lenL_q (mo F _ hR.mR) (by omega) fun t2 => ?_
 refine newTup_q hC (szl rfl) fun T2 fT2 => ?_
 refine itTupC_q (vs := [.int (-1) t1, .int vs.length t2]) (X := CoX) hC E.b.hf rfl E.b.c5 (.inr (E.b.fc 4 rfl)) (fun _ => lm s t r (some (.ref D)) k a o e) (fun y => y.own ++ (T2, tupQ [.int (-1) t1, .int vs.length t2] 0) :: ll F ((x.sps y.ps).s5 y.o5)) (fun y => y.o5) (fun y o' => y.own ++ (T2, tupQ [.int (-1) t1, .int vs.length t2] 0) :: ll F ((x.sps y.ps).s5 o')) CoOk (fun y o' => .app (.tail (r5 F ((x.sps y.ps).s5 y.o5) o'))) (fun i y h => h.c5) ⟨[], x.ps, x.o5⟩ rfl rfl ⟨⟨_, d5⟩, .inl hT, fun h => absurd h (Nat.lt_irrefl _)⟩ (fun y => List.mem_append_right _ (.head _)) ?_ ?_
 ·intro i v y o5' z1 hv hz hok e5
  obtain ⟨cv, tcv, rfl, hrd⟩ : ∃ cv tcv, v = .int cv tcv /\ rdRows (ah ++ warB rs) ah.length cv (1 + v9) = .ok rs := by
   match i, hv with
   | 0, hv => cases hv; exact ⟨_, _, rfl, hrA⟩
   | 1, hv => cases hv; exact ⟨_, _, rfl, by rw [hvl]; exact hrB⟩
  refine body_e0 20 hC (by decide) (by decide) V E.b.hf hz fun T0 hT0 => ?_
  refine lamB_q (own := y.own) hC E.b.he (by kernel_rfl) (fun ps' => .tail (rTp F ((x.sps y.ps).s5 o5') ps')) rfl (.inl E.b.h496) hok.tab (clos_q E.b.ce rfl) rfl fun f c' oc vsl tl ctv ps' own' hoc hvl2 hT2 hcd hmc => ?_
  refine caught_q (P := fun d => d = rowsD rs) (Flt := fun _ => False) caughtSpec (hC.mo rfl) E.b.ho E.b.fr rfl (.head _) (fun nd => work_q nd (.head _) (.tail _ (mL hmc)) hoc hvl2 (fun c2 z2 env2 K2 hC2 V2 W2 hcl2 hE2 hK2 => ?_) rfl rfl rfl rfl (by decide) rfl) (fun d e => ⟨_, e⟩) fun T3 d out2 hP hd2 fo2 => ?_
  ·refine free_q W2 rfl (lkc hcl2 rfl) (.tail _ (mR (.tail _ (m3 F _)))) d3 ?_
   refine free_q W2 rfl (lkc hcl2 rfl) (.tail _ (mR (.tail _ (m9 F _)))) d9 ?_
   refine catB_q (by omega) fun t3 => ?_
   refine free_q W2 rfl (lkc hcl2 rfl) (.tail _ (mR (.tail _ (m3 F _)))) d3 ?_
   refine lenB_q (by omega) fun t4 => ?_
   refine free_q W2 rfl (lkc hcl2 rfl) (.tail _ (mR (.tail _ (m5 F _)))) e5 ?_
   refine free_q W2 rfl (lkc hcl2 rfl) (.tail _ (mR (.tail _ (m12 F _)))) d12 ?_
   refine rrows_q (hC2.mo rfl) (by rw [List.length_append]; omega) (by omega) (by omega) (by omega) (fun rs' e Pl vsl nl own hM mP fr => ?_) fun f e => (er_no e hrd).elim
   obtain rfl := ok_eq e hrd
   refine trows_q (hC2.mo rfl) (mL mP) (hM.mono fun q hq => List.mem_append_left _ hq) (by omega) hR.r8 fun T4 out3 hT3 fo3 => ?_
   exact hK2 _ _ _ _ out3 rfl hT3 fun p hp => ⟨List.mem_append_left _ hp, fo3 p hp⟩
  have hde : d = rowsD rs := hP.elim id (fun ⟨_, h, _⟩ => h.elim)
  subst hde
  have hD2 : ∀ ps', DatIn (ll F (((x.sps y.ps).s5 o5').sps ps')) (.ref D) (rowsD rs) := fun ps' => hD.mono fun p hp => mo F (((x.sps y.ps).s5 o5').sps ps') hp
  refine datNe_q hC (by decide) (hd2.mono fun p hp => List.mem_append_left _ hp) ((hD2 _).mono fun p hp => List.mem_append_right _ (.tail _ (mR (.tail _ hp)))) (kqd_rows rs) rfl ?_
  refine hT0 _ _ _ ?_
  refine ⟨⟨out2 ++ _ :: own', ps', o5'⟩, rfl, ap3, ⟨_, e5⟩, .inr ⟨hT2, c', oc, vsl, tl, List.mem_append_right _ (.tail _ hmc), hcd, hoc, hvl2⟩, fun _ => ⟨hT2, _, _, e5⟩⟩
 ·intro y hok
  refine ⟨rfl, ?_⟩
  refine hideG ?_; intro PG9 hG9
  obtain ⟨hT2, cv, tv, e5⟩ := hok.pos (Nat.succ_pos _)
  refine hG9 ?_; clear hG9 PG9
  have e : ∀ (a : Addr × Obj), y.own ++ a :: ll F ((x.sps y.ps).s5 y.o5) = ll F (((x.sps y.ps).s5 y.o5).add (y.own ++ [a])) := fun a => by rw [<- ll_add, List.append_assoc]; rfl
  rw [e]
  exact hK _ _ cv tv _ hT2 e5
end
end
section
set_option tactic.hygienic false
open PySem PySem.W PyProof.Rows PySem.Calls PySem.Spec
theorem ap4 {A r : Led} {a b : Addr × Obj} : A ++ a :: b :: r = (A ++ [a, b]) ++ r := by rw [List.append_assoc]; rfl
section
variable {w : World} {c : Cf w} {z : Zs} {env : Env} {F : LawF} {ys : List Int} {K : Flow -> Loc -> Led -> Prop} {m0 : Loc} {Rl : Addr} {vs : List Value} {rs : List AnR} {nn : Nat} {v9 : Int}
theorem sP (E : LawE c z env F ys) {x : LawX} {tw t9 : Tok} (hT : TabOk x.ps 347) (hR : RwF w x.own Rl vs rs nn v9) (d9 : x.o9.data = .cell (some (.bytes (warB rs).toArray t9))) (d11 : x.o11.data = .cell (some (.ref Rl))) (d12 : x.o12.data = .cell (some (.int (1 + v9) tw))) (hmore : rdRows (warB rs) 0 ((rs.length : Int) + 1) (1 + v9) = .error 0)
  (hK : ∀ ps' new, TabOk ps' 348 -> WQ c z (execs (List.drop 20 (lawB w)) env) K m0 (ll F ((x.sps ps').add new))) :
  WQ c z (execs (List.drop 19 (lawB w)) env) K m0 (ll F x) := by
 have hC := E.b.hC
 have V := E.b.V
 have hvl := hR.vl
 have hn3 := hR.n3
 have hv0 := hR.v0
 have hv3 := hR.v3
 have hwl := hR.wl
 refine cut_q (a := [_]) (b := List.drop 20 (lawB w)) ?_
 refine run_ok V E.b.hf hC (by decide) (by decide) 40 _ _ _ _ ?_
 refine lam_q hC E.b.he (by kernel_rfl) (fun ps' => rTp F x ps') (.inl E.b.h496) hT (by decide) (clos_q E.b.ce rfl) rfl fun f c' oc vsl tl ctv hoc hv hT2 _ ff fc => ?_
 refine caught_q (P := fun _ => False) (Flt := fun f => f = 0) caughtSpec (hC.mo rfl) E.b.ho E.b.fr rfl (.head _) (fun nd => work_q nd (.head _) (.tail _ (.head _)) hoc hv (fun c2 z2 env2 K2 hC2 V2 W2 hcl2 hE2 hK2 => ?_) rfl rfl rfl rfl (by decide) rfl) (fun d e => e.elim) fun T2 d out2 hP hd2 fo2 => ?_
 ·refine free_q W2 rfl (lkc hcl2 rfl) (.tail _ (.tail _ (m9 F _))) d9 ?_
  intro t3
  refine free_q W2 rfl (lkc hcl2 rfl) (.tail _ (.tail _ (m11 F _))) d11 ?_
  refine lenL_q (.tail _ (.tail _ (mo F (x.sps _) hR.mR))) (by omega) fun t4 => ?_
  intro t5 t6
  refine free_q W2 rfl (lkc hcl2 rfl) (.tail _ (.tail _ (m12 F _))) d12 ?_
  exact rrows_q (hC2.mo rfl) (by omega) (by decide) (by omega) (by omega) (fun rs' e Pl vsl nl own hM mP fr => (er_no hmore (by rw [<- hvl]; exact e)).elim) fun f e => hE2 f (er_eq e (by rw [hvl]; exact hmore))
 have hde : d = faultD 0 := hP.elim (fun h => h.elim) (fun ⟨f, hf, e⟩ => by rw [e, hf])
 subst hde
 intro t7 t8
 refine newTup_q hC (szl rfl) fun T3 fT3 => ?_
 refine datNe_q hC (by decide) (hd2.mono fun p hp => .tail _ (mL hp)) (.tuple (n := 0) (.head _) (.cons (.str _ _) (.cons (.int _ _) .nil))) (kqd_fault _) rfl ?_
 refine ⟨rfl, ?_⟩
 rw [ap4, ll_add]
 exact hK _ (_ :: _) hT2
theorem sQ (E : LawE c z env F ys) {x : LawX} (hT : TabOk x.ps 349) (hR : RwF w x.own Rl vs rs nn v9) (d11 : x.o11.data = .cell (some (.ref Rl)))
  (hK : ∀ ps' new, TabOk ps' 350 -> WQ c z (execs (List.drop 21 (lawB w)) env) K m0 (ll F ((x.sps ps').add new))) :
  WQ c z (execs (List.drop 20 (lawB w)) env) K m0 (ll F x) := by
 have hC := E.b.hC
 have V := E.b.V
 have hvl := hR.vl
 have hn3 := hR.n3
 refine cut_q (a := [_]) (b := List.drop 21 (lawB w)) ?_
 refine run_ok V E.b.hf hC (by decide) (by decide) 40 _ _ _ _ ?_
 refine cell_q V rfl E.b.c11 (m11 F _) d11 ?_
 refine truL_q (mo F _ hR.mR) (by omega) ?_
 by_cases hv : vs = []
 ·rw [show (!vs.isEmpty) = false by rw [hv]; rfl]
  exact ⟨rfl, hK x.ps [] (hT.mono (by decide))⟩
 obtain ⟨v0, hv0⟩ : ∃ v0, vs[0]? = some v0 := by cases vs with
  | nil => exact absurd rfl hv
  | cons a b => exact ⟨a, rfl⟩
 rw [show (!vs.isEmpty) = true by cases vs with
  | nil => exact absurd rfl hv
  | cons a b => rfl]
 clear hv
 refine hideG ?_; intro PG9 hG9
 obtain ⟨T0, us0, r0, rfl, hr0, mT0, hrow⟩ := hR.hM.at_ 0 v0 hv0
 refine hG9 ?_; clear hG9 PG9
 have hr0m := List.mem_of_getElem? hr0
 have hul := hrow.len
 have hM2 : ∀ ps', RowsAre w (ll F (x.sps ps')) vs rs := fun ps' => hR.hM.mono fun p hp => mo F (x.sps ps') hp
 have hrow2 : ∀ ps', RowAre w (ll F (x.sps ps')) us0 r0 := fun ps' => hrow.mono fun p hp => mo F (x.sps ps') hp
 have h1 := hR.r1 r0 hr0m
 have h3 := hR.r3 r0 hr0m
 refine lam_q hC E.b.he (by kernel_rfl) (fun ps' => rTp F x ps') (.inl E.b.h496) hT (by decide) (clos_q E.b.ce rfl) rfl fun f c' oc vsl tl ctv hoc hv hT2 _ ff fc => ?_
 refine caught_q (P := fun _ => False) (Flt := fun f => f = -1) caughtSpec (hC.mo rfl) E.b.ho E.b.fr rfl (.head _) (fun nd => work_q nd (.head _) (.tail _ (.head _)) hoc hv (fun c2 z2 env2 K2 hC2 V2 W2 hcl2 hE2 hK2 => ?_) rfl rfl rfl rfl (by decide) rfl) (fun d e => e.elim) fun T2 d out2 hP hd2 fo2 => ?_
 ·refine free_q W2 rfl (lkc hcl2 rfl) (.tail _ (.tail _ (m11 F _))) d11 ?_
  refine free_q W2 rfl (lkc hcl2 rfl) (.tail _ (.tail _ (m11 F _))) d11 ?_
  intro t3
  refine itemL_q (.tail _ (.tail _ (mo F (x.sps _) hR.mR))) (by decide) (by decide) hv0 ?_
  refine newTup_q hC2 (szl rfl) fun Tn fTn => ?_
  refine catT_q (n1 := 0) (n2 := 0) hC2 (.tail _ (.tail _ (.tail _ (mo F (x.sps _) mT0)))) (.head _) (fun q => by rw [q, List.length_nil] at hul; omega) (List.cons_ne_nil _ _) (by show us0.length + 1 <= _; omega) fun Tc fTc => ?_
  refine newList_q hC2 (szl rfl) fun Lc fLc => ?_
  refine catL_q (vs := vs) (ws := [.ref Tc]) hC2 (.tail _ (.tail _ (.tail _ (.tail _ (.tail _ (mo F (x.sps _) hR.mR)))))) (.head _) (by show vs.length + 1 <= _; omega) fun Ln fLn => ?_
  refine war_q (rs := rs ++ [r0 ++ [none]]) (hC2.mo rfl) (.head _) (((hM2 _).mono fun q hq => .tail _ (.tail _ (.tail _ (.tail _ (.tail _ (.tail _ hq)))))).snoc (us := us0 ++ [.none]) (.tail _ (.tail _ (.head _))) (RowAre.snoc (v := .none) (d := none) ((hrow2 _).mono fun q hq => .tail _ (.tail _ (.tail _ (.tail _ (.tail _ (.tail _ hq)))))) rfl)) (by rw [List.length_append, List.length_singleton]; omega) ?_ ?_ (fun hsl => absurd hsl (unlike hr0)) fun _ => hE2 _ rfl
  ·intro r hr
   rcases List.mem_append.mp hr with hr | hr
   ·exact hR.r8 r hr
   ·rw [List.mem_singleton.mp hr, List.length_append, List.length_singleton]; omega
  ·intro r hr p hp
   rcases List.mem_append.mp hr with hr | hr
   ·exact hR.o1 r hr p hp
   ·rw [List.mem_singleton.mp hr] at hp
    rcases List.mem_append.mp hp with hp | hp
    ·exact hR.o1 r0 hr0m p hp
    ·exact absurd (List.mem_singleton.mp hp) (by simp)
 have hde : d = faultD (-1) := hP.elim (fun h => h.elim) (fun ⟨f, hf, e⟩ => by rw [e, hf])
 subst hde
 intro t7 t8 t9
 refine newTup_q hC (szl rfl) fun T3 fT3 => ?_
 refine datNe_q hC (by decide) (hd2.mono fun p hp => .tail _ (mL hp)) (.tuple (n := 0) (.head _) (.cons (.str _ _) (.cons (.int _ _) .nil))) (kqd_fault _) rfl ?_
 refine ⟨rfl, ?_⟩
 rw [ap4, ll_add]
 exact hK _ (_ :: _) hT2
theorem sR (E : LawE c z env F ys) {x : LawX} {s t r d k a o e : Option Value} (hp : 0 <= x.p) (d1 : x.o1.data = .cell (some (.ref F.S)))
  (hK : ∀ T da px py t1 t2 t3 t4 p tt new, ok16 px -> ok16 py -> 0 <= p -> (T, instObj 302 da) ∈ new -> (da, ancD w px py t1 t2 t3 t4) ∈ new -> WQ c z (execs (List.drop 22 (lawB w)) env) K (lm s t r d k a (some (.ref T)) e) (ll F ((x.sp p tt).add new))) :
  WQ c z (execs (List.drop 21 (lawB w)) env) K (lm s t r d k a o e) (ll F x) := by
 have hC := E.b.hC
 have V := E.b.V
 refine cut_q (a := [_]) (b := List.drop 22 (lawB w)) ?_
 refine run_ok V E.b.hf hC (by decide) (by decide) 40 _ _ _ _ ?_
 refine cell_q V rfl E.b.c1 (m1 F _) d1 ?_
 refine lnum_q (hC.mo rfl) E.hcs E.hne E.h60 (mC F _) (fun q t => rS F _ q t) (.inr E.fS) fun px t1 t2 ox => ?_
 refine cell_q V rfl E.b.c1 (m1 F _) d1 ?_
 refine lnum_q (hC.mo rfl) E.hcs E.hne E.h60 (mC F _) (fun q t => rS F _ q t) (.inr E.fS) fun py t3 t4 oy => ?_
 refine anc_q (hC.mo rfl) fun T da t5 t6 lt fa fd => ?_
 exact ⟨rfl, hK T da px py _ _ _ _ _ _ [_, _] ox oy (by show 0 <= x.p + 1 + 1 + 1 + 1; omega) (.head _) (.tail _ (.head _))⟩
theorem sS (E : LawE c z env F ys) {x : LawX} (hp : 0 <= x.p) (d1 : x.o1.data = .cell (some (.ref F.S))) (d10 : x.o10.data = .cell none)
  (hK : ∀ T da px t1 t2 t3 t4 p tt o10' new, -1000000 <= px -> px <= 1000000 -> 0 <= p -> (T, instObj 302 da) ∈ new -> (da, ancD w px 40000 t1 t2 t3 t4) ∈ new -> o10'.data = .cell (some (.ref T)) -> WQ c z (execs (List.drop 23 (lawB w)) env) K m0 (ll F (((x.sp p tt).s10 o10').add new))) :
  WQ c z (execs (List.drop 22 (lawB w)) env) K m0 (ll F x) := by
 have hC := E.b.hC
 have V := E.b.V
 refine cut_q (a := [_]) (b := List.drop 23 (lawB w)) ?_
 refine run_ok V E.b.hf hC (by decide) (by decide) 40 _ _ _ _ ?_
 intro t0 t1 t2 t3
 refine newTup_q hC (szl rfl) fun Tm fTm => ?_
 refine cell_q V rfl E.b.c1 (.tail _ (m1 F _)) d1 ?_
 intro t4
 refine draw_q (hC.mo rfl) E.hcs E.hne E.h60 (by decide) (.tail _ (mC F _)) (fun q t => .tail (rS F _ q t)) (.inr E.fS) fun v t5 t6 v0 v1 => ?_
 refine itemTI_q (ns := [32768, -32769, 0]) (.head _) (.cons _ _ (.cons _ _ (.cons _ _ .nil))) v0 v1 (by omega) fun t7 => ?_
 intro t8
 refine anc_q (hC.mo rfl) fun T da t9 t10 lt fa fd => ?_
 refine cset_q hC E.b.hf rfl E.b.c10 (fun o' => .tail (.tail (.tail (r10 F _ o')))) ⟨_, d10⟩ (.inr (E.b.fc 9 rfl)) fun o10' d10' => ?_
 exact ⟨rfl, hK T da _ _ _ _ _ _ _ o10' [_, _, _] oth_bnd.1 oth_bnd.2 (by show 0 <= x.p + 1; omega) (.head _) (.tail _ (.head _)) d10'⟩
theorem sT (E : LawE c z env F ys) {x : LawX} {s t r d k a e : Option Value} {T da U db : Addr} {px py qx : Int} {t1 t2 t3 t4 u1 u2 u3 u4 : Tok} (hT : TabOk x.ps 353) (h1 : (T, instObj 302 da) ∈ x.own) (h2 : (da, ancD w px py t1 t2 t3 t4) ∈ x.own) (h3 : (U, instObj 302 db) ∈ x.own) (h4 : (db, ancD w qx 40000 u1 u2 u3 u4) ∈ x.own) (hx0 : -1000000 <= qx) (hx1 : qx <= 1000000) (d10 : x.o10.data = .cell (some (.ref U)))
  (hK : ∀ ps' new, TabOk ps' 354 -> WQ c z (execs (List.drop 24 (lawB w)) env) K (lm s t r d k a (some (.ref T)) e) (ll F ((x.sps ps').add new))) :
  WQ c z (execs (List.drop 23 (lawB w)) env) K (lm s t r d k a (some (.ref T)) e) (ll F x) := by
 have hC := E.b.hC
 have V := E.b.V
 refine cut_q (a := [_]) (b := List.drop 24 (lawB w)) ?_
 refine run_ok V E.b.hf hC (by decide) (by decide) 40 _ _ _ _ ?_
 refine cell_q V rfl E.b.c10 (m10 F _) d10 ?_
 refine diff_q (hC.mo rfl) (mo F _ h1) (mo F _ h2) (mo F _ h3) (mo F _ h4) fun T1 v1 v2 fT1 => ?_
 refine attr_q hC (.tail _ (mo F _ h1)) (.tail _ (mo F _ h2)) (.tail _ (.tail _ (.tail _ (.head _)))) rfl rfl ?_
 refine cell_q V rfl E.b.c10 (.tail _ (m10 F _)) d10 ?_
 refine attr_q hC (.tail _ (mo F _ h3)) (.tail _ (mo F _ h4)) (.tail _ (.tail _ (.tail _ (.head _)))) rfl rfl ?_
 intro v3
 refine attr_q hC (.tail _ (mo F _ h1)) (.tail _ (mo F _ h2)) (.tail _ (.tail _ (.tail _ (.tail _ (.head _))))) rfl rfl ?_
 refine cell_q V rfl E.b.c10 (.tail _ (m10 F _)) d10 ?_
 refine attr_q hC (.tail _ (mo F _ h3)) (.tail _ (mo F _ h4)) (.tail _ (.tail _ (.tail _ (.tail _ (.head _))))) rfl rfl ?_
 intro v4
 refine newTup_q hC (szl rfl) fun T2 fT2 => ?_
 refine datNe_q (d := .tuple [.int (px - qx), .int (py - 40000)]) hC (by decide) (.tuple (n := 0) (.tail _ (.head _)) (.cons (.int _ _) (.cons (.int _ _) .nil))) (.tuple (n := 0) (.head _) (.cons (.int _ _) (.cons (.int _ _) .nil))) (kqd_pt _ _) rfl ?_
 refine lam_q hC E.b.he (by kernel_rfl) (fun ps' => .tail (.tail (rTp F x ps'))) (.inl E.b.h496) hT (by decide) (clos_q E.b.ce rfl) rfl fun f c' oc vsl tl ctv hoc hv hT2 _ ff fc => ?_
 refine caught_q (P := fun _ => False) (Flt := fun f => f = -1) caughtSpec (hC.mo rfl) E.b.ho E.b.fr rfl (.head _) (fun nd => work_q nd (.head _) (.tail _ (.head _)) hoc hv (fun c2 z2 env2 K2 hC2 V2 W2 hcl2 hE2 hK2 => ?_) rfl rfl rfl rfl (by decide) rfl) (fun d e => e.elim) fun T3 d out2 hP hd2 fo2 => ?_
 ·refine free_q W2 rfl (lkc hcl2 rfl) (.tail _ (.tail _ (.tail _ (.tail _ (m10 F _))))) d10 ?_
  exact wanchor_q (hC2.mo rfl) hx0 hx1 (by decide) (by decide) (.tail _ (.tail _ (.tail _ (.tail _ (mo F (x.sps _) h3))))) (.tail _ (.tail _ (.tail _ (.tail _ (mo F (x.sps _) h4))))) (fun h => absurd h.2.2 (by decide)) fun _ => hE2 _ rfl
 have hde : d = faultD (-1) := hP.elim (fun h => h.elim) (fun ⟨f, hf, e⟩ => by rw [e, hf])
 subst hde
 intro t7 t8 t9
 refine newTup_q hC (szl rfl) fun T4 fT4 => ?_
 refine datNe_q hC (by decide) (hd2.mono fun p hp => .tail _ (mL hp)) (.tuple (n := 0) (.head _) (.cons (.str _ _) (.cons (.int _ _) .nil))) (kqd_fault _) rfl ?_
 refine ⟨rfl, ?_⟩
 rw [ap4, ap4, ll_add]
 exact hK _ (_ :: _) hT2
theorem sU (E : LawE c z env F ys) {x : LawX} {s t r d k a e : Option Value} {T da : Addr} {px py : Int} {t1 t2 t3 t4 : Tok} (h1 : (T, instObj 302 da) ∈ x.own) (h2 : (da, ancD w px py t1 t2 t3 t4) ∈ x.own) (hx : ok16 px) (hy : ok16 py)
  (hK : ∀ new, WQ c z (execs (List.drop 25 (lawB w)) env) K (lm s t r d k a (some (.ref T)) e) (ll F (x.add new))) :
  WQ c z (execs (List.drop 24 (lawB w)) env) K (lm s t r d k a (some (.ref T)) e) (ll F x) := by
 have hC := E.b.hC
 have V := E.b.V
 have hx' := hx
 have hy' := hy
 unfold ok16 at hx' hy'
 have hra := rdA_anc hx hy
 refine cut_q (a := [_]) (b := List.drop 25 (lawB w)) ?_
 refine run_ok V E.b.hf hC (by decide) (by decide) 40 _ _ _ _ ?_
 refine callM_q hC V ?_ rfl
 refine wanchor_q (hC.mo rfl) (by omega) (by omega) (by omega) (by omega) (mo F _ h1) (mo F _ h2) (fun _ t0 => ?_) fun q => absurd ⟨hx, hy⟩ q
 intro v1
 refine read_anchor_q (hC.mo rfl) (by rw [anc_len]; decide) (fun qx qy hrd b db u1 u2 u3 u4 lt fb fdb => ?_) fun f e => (er_no e hra).elim
 rw [hra] at hrd
 cases hrd
 refine meth_q hC (.head _) (.tail _ (.head _)) rfl rfl ?_
 refine told_q (hC.mo rfl) (.head _) (.tail _ (.head _)) fun T1 fT1 => ?_
 refine attr_q hC (.tail _ (.tail _ (.tail _ (mo F _ h1)))) (.tail _ (.tail _ (.tail _ (mo F _ h2)))) (.tail _ (.tail _ (.tail _ (.head _)))) rfl rfl ?_
 refine attr_q hC (.tail _ (.tail _ (.tail _ (mo F _ h1)))) (.tail _ (.tail _ (.tail _ (mo F _ h2)))) (.tail _ (.tail _ (.tail _ (.tail _ (.head _))))) rfl rfl ?_
 refine newTup_q hC (szl rfl) fun T2 fT2 => ?_
 refine datNe_q (d := .tuple [.int px, .int py]) hC (by decide) (.tuple (n := 0) (.tail _ (.head _)) (.cons (.int _ _) (.cons (.int _ _) .nil))) (.tuple (n := 0) (.head _) (.cons (.int _ _) (.cons (.int _ _) .nil))) (kqd_pt _ _) rfl ?_
 exact ⟨rfl, hK [_, _, _, _]⟩
end
end
section
set_option tactic.hygienic false
open PySem PySem.W PyProof.Rows PySem.Calls PySem.Spec
structure GlF (own : Led) (Gy : Addr) (us : List Value) (nn : Nat) (gs : List Int) : Prop where
 mG : (Gy, PySem.W.listOf us.toArray nn) ∈ own
 hus : IntsAre us gs
 nd : gs.Nodup
 ord : gs.Pairwise (· <= ·)
 n3 : gs.length <= 3
theorem GlF.mono {own own' : Led} {Gy : Addr} {us : List Value} {nn : Nat} {gs : List Int} (h : GlF own Gy us nn gs) (hs : ∀ q ∈ own, q ∈ own') : GlF own' Gy us nn gs := ⟨hs _ h.mG, h.hus, h.nd, h.ord, h.n3⟩
noncomputable def RdM (l : List UInt8) (a cl : Int) (gs : List Int) (d : Dat) : Prop := (∃ ms, rdM l a cl gs = .ok ms /\ d = mksD ms) \/ ∃ f, rdM l a cl gs = .error f /\ d = faultD f
noncomputable def RdR (l : List UInt8) (a : Int) (d : Dat) : Prop := (∃ rs, rdRows l a (-1) 2 = .ok rs /\ d = rowsD rs) \/ ∃ f, rdRows l a (-1) 2 = .error f /\ d = faultD f
section
variable {w : World} {c : Cf w} {z : Zs} {env : Env} {F : LawF} {ys : List Int} {K : Flow -> Loc -> Led -> Prop} {m0 : Loc}
theorem sW (E : LawE c z env F ys) {x : LawX} {c0 : Int} {t0 : Tok} (hp : 0 <= x.p) (d1 : x.o1.data = .cell (some (.ref F.S))) (d5 : x.o5.data = .cell (some (.int c0 t0)))
  (hK : ∀ v tv p tt o5', 0 <= v -> v < 4 -> 0 <= p -> o5'.data = .cell (some (.int v tv)) -> WQ c z (execs (List.drop 26 (lawB w)) env) K m0 (ll F ((x.sp p tt).s5 o5'))) :
  WQ c z (execs (List.drop 25 (lawB w)) env) K m0 (ll F x) := by
 have hC := E.b.hC
 have V := E.b.V
 refine cut_q (a := [_]) (b := List.drop 26 (lawB w)) ?_
 refine run_ok V E.b.hf hC (by decide) (by decide) 40 _ _ _ _ ?_
 refine cell_q V rfl E.b.c1 (m1 F _) d1 ?_
 intro t1
 refine draw_q (hC.mo rfl) E.hcs E.hne E.h60 (by decide) (mC F _) (fun q t => rS F _ q t) (.inr E.fS) fun v t2 t3 v0 v1 => ?_
 refine cset_q hC E.b.hf rfl E.b.c5 (fun o' => r5 F _ o') ⟨_, d5⟩ (.inr (E.b.fc 4 rfl)) fun o5' d5' => ?_
 exact ⟨rfl, hK v _ _ _ o5' v0 v1 (by show 0 <= x.p + 1; omega) d5'⟩
theorem sX (E : LawE c z env F ys) {x : LawX} {v5 : Int} {t5 ta : Tok} {ah : List UInt8} (hp : 0 <= x.p) (d1 : x.o1.data = .cell (some (.ref F.S))) (d3 : x.o3.data = .cell (some (.bytes ah.toArray ta))) (d5 : x.o5.data = .cell (some (.int v5 t5))) (d7 : x.o7.data = .cell none) (d8 : x.o8.data = .cell none) (hah : ah.length <= 2) (hv0 : 0 <= v5) (hv4 : v5 < 4)
  (hK : ∀ (bs : List UInt8) tb Gy us gs nn p tt n o7' o8' new, 0 <= p -> bs.length <= 100 -> GlF new Gy us nn gs -> o7'.data = .cell (some (.bytes (ah ++ bs).toArray tb)) -> o8'.data = .cell (some (.ref Gy)) -> WQ c z (execs (List.drop 28 (lawB w)) env) K m0 (ll F ((((x.sn p tt n).s7 o7').s8 o8').add new))) :
  WQ c z (execs (List.drop 26 (lawB w)) env) K m0 (ll F x) := by
 have hC := E.b.hC
 have V := E.b.V
 refine cut_q (a := [_, _]) (b := List.drop 28 (lawB w)) ?_
 refine run_ok V E.b.hf hC (by decide) (by decide) 40 _ _ _ _ ?_
 refine cell_q V rfl E.b.c3 (m3 F _) d3 ?_
 refine cell_q V rfl E.b.c1 (m1 F _) d1 ?_
 refine cell_q V rfl E.b.c5 (m5 F _) d5 ?_
 intro t0
 refine llaid_q (hC.mo rfl) E.hcs E.hne E.h60 hp hv0 hv4 (mC F _) (fun q t n => rSn F _ q t n) (.inr E.fS) fun q tq nq Pl us0 ns n0 hq hi0 hl0 ho0 fPl => ?_
 refine bytes_q hC (.head _) hi0 ho0 (by omega) fun t1 => ?_
 refine catB_q (by rw [octB_len]; omega) fun t2 => ?_
 refine cset_q hC E.b.hf rfl E.b.c7 (fun o' => .tail (r7 F _ o')) ⟨_, d7⟩ (.inr (E.b.fc 6 rfl)) fun o7' d7' => ?_
 intro t3 t4 t5
 refine newList_q hC (szl rfl) fun Lg fLg => ?_
 refine cell_q V rfl E.b.c5 (.tail _ (.tail _ (m5 F _))) d5 ?_
 refine cell_q V rfl E.b.c5 (.tail _ (.tail _ (m5 F _))) d5 ?_
 intro t6
 refine newTup_q hC (szl rfl) fun Tg fTg => ?_
 refine cell_q V rfl E.b.c1 (.tail _ (.tail _ (.tail _ (m1 F _)))) d1 ?_
 intro t7
 refine draw_q (hC.mo rfl) E.hcs E.hne E.h60 (by decide) (.tail _ (.tail _ (.tail _ (mC F _)))) (fun q t => .tail (.tail (.tail (rS F _ q t)))) (.inr E.fS) fun v t8 t9 v0 v1 => ?_
 refine itemTI_q (ns := [v5, v5, 2]) (.head _) (.cons _ _ (.cons _ _ (.cons _ _ .nil))) v0 v1 (by omega) fun t10 => ?_
 have hj : 0 <= [v5, v5, 2].getD v.toNat (0 : Int) := menu_of (P := fun x => 0 <= x) (by simp only [List.length_cons, List.length_nil]; omega) (by simp only [List.forall_mem_cons]; exact ⟨hv0, hv0, by decide, fun _ h => absurd h List.not_mem_nil⟩)
 generalize [v5, v5, 2].getD v.toNat (0 : Int) = j at hj
 have h358 : IntsAre [.int 3 t3, .int 5 t4, .int 8 t5] [3, 5, 8] := .cons _ _ (.cons _ _ (.cons _ _ .nil))
 refine sliceIT_q hC (.tail _ (.head _)) .none (.int _ _) (kmk_upto h358 hj) (szl rfl) fun Gy us hus fGy => ?_
 refine cset_q hC E.b.hf rfl E.b.c8 (fun o' => .tail (.tail (.tail (.tail (r8 F _ o'))))) ⟨_, d8⟩ (.inr (E.b.fc 7 rfl)) fun o8' d8' => ?_
 exact ⟨rfl, hK (octB ns) _ Gy us _ 0 _ _ _ o7' o8' [_, _, _, _] (by show 0 <= q + 1; omega) (by rw [octB_len]; exact hl0) ⟨.head _, hus, (take358 _).1, (take358 _).2.1, (take358 _).2.2⟩ (by rw [<- List.append_toArray] at d7' ⊢; exact d7') d8'⟩
theorem sZ (E : LawE c z env F ys) {x : LawX} (hp : 0 <= x.p) (d1 : x.o1.data = .cell (some (.ref F.S))) (d4 : x.o4.data = .cell none)
  (hK : ∀ cl tc p tt o4' new, o4'.data = .cell (some (.int cl tc)) -> WQ c z (execs (List.drop 29 (lawB w)) env) K m0 (ll F (((x.sp p tt).s4 o4').add new))) :
  WQ c z (execs (List.drop 28 (lawB w)) env) K m0 (ll F x) := by
 have hC := E.b.hC
 have V := E.b.V
 refine cut_q (a := [_]) (b := List.drop 29 (lawB w)) ?_
 refine run_ok V E.b.hf hC (by decide) (by decide) 40 _ _ _ _ ?_
 intro t0 t1 t2
 refine newTup_q hC (szl rfl) fun Tm fTm => ?_
 refine cell_q V rfl E.b.c1 (.tail _ (m1 F _)) d1 ?_
 intro t4
 refine draw_q (hC.mo rfl) E.hcs E.hne E.h60 (by decide) (.tail _ (mC F _)) (fun q t => .tail (rS F _ q t)) (.inr E.fS) fun v t5 t6 v0 v1 => ?_
 refine itemTI_q (ns := [65536, 1, 12]) (.head _) (.cons _ _ (.cons _ _ (.cons _ _ .nil))) v0 v1 (by omega) fun t7 => ?_
 refine cset_q hC E.b.hf rfl E.b.c4 (fun o' => .tail (r4 F _ o')) ⟨_, d4⟩ (.inr (E.b.fc 3 rfl)) fun o4' d4' => ?_
 exact ⟨rfl, hK _ _ _ _ o4' [_] d4'⟩
theorem sAA (E : LawE c z env F ys) {x : LawX} {s t r d k a o e : Option Value} {ah bs : List UInt8} {ta tb tc : Tok} {cl : Int} {Gy : Addr} {us : List Value} {gs : List Int} {nn : Nat} (hT : TabOk x.ps 361) (d3 : x.o3.data = .cell (some (.bytes ah.toArray ta))) (d4 : x.o4.data = .cell (some (.int cl tc))) (d7 : x.o7.data = .cell (some (.bytes (ah ++ bs).toArray tb))) (d8 : x.o8.data = .cell (some (.ref Gy))) (hG : GlF x.own Gy us nn gs) (hdl : (ah ++ bs).length <= 1000) (hah : ah.length <= 2)
  (hK : ∀ ps' T dt new, TabOk ps' 362 -> RdM (ah ++ bs) ah.length cl gs dt -> DatIn new (.ref T) dt -> WQ c z (execs (List.drop 30 (lawB w)) env) K (lm s t r d k a o (some (.ref T))) (ll F ((x.sps ps').add new))) :
  WQ c z (execs (List.drop 29 (lawB w)) env) K (lm s t r d k a o e) (ll F x) := by
 have hC := E.b.hC
 have V := E.b.V
 have h3 := hG.n3
 refine cut_q (a := [_]) (b := List.drop 30 (lawB w)) ?_
 refine run_ok V E.b.hf hC (by decide) (by decide) 40 _ _ _ _ ?_
 refine lam_q hC E.b.he (by kernel_rfl) (fun ps' => rTp F x ps') (.inl E.b.h496) hT (by decide) (clos_q E.b.ce rfl) rfl fun f c' oc vsl tl ctv hoc hv hT2 _ ff fc => ?_
 refine caught_q (P := fun d => ∃ ms, rdM (ah ++ bs) ah.length cl gs = .ok ms /\ d = mksD ms) (Flt := fun f => rdM (ah ++ bs) ah.length cl gs = .error f) caughtSpec (hC.mo rfl) E.b.ho E.b.fr rfl (.head _) (fun nd => work_q nd (.head _) (.tail _ (.head _)) hoc hv (fun c2 z2 env2 K2 hC2 V2 W2 hcl2 hE2 hK2 => ?_) rfl rfl rfl rfl (by decide) rfl) (fun d ⟨ms, _, e⟩ => ⟨_, e⟩) fun T2 d out2 hP hd2 fo2 => ?_
 ·refine free_q W2 rfl (lkc hcl2 rfl) (.tail _ (.tail _ (m7 F _))) d7 ?_
  refine free_q W2 rfl (lkc hcl2 rfl) (.tail _ (.tail _ (m3 F _))) d3 ?_
  refine lenB_q (by omega) fun t4 => ?_
  refine free_q W2 rfl (lkc hcl2 rfl) (.tail _ (.tail _ (m8 F _))) d8 ?_
  refine cov_q (hC2.mo rfl) (.tail _ (.tail _ (mo F (x.sps _) hG.mG))) hG.hus (by omega) hG.ord hG.nd fun Cv dc Gl us t5 hus lt f1 f2 f3 => ?_
  refine free_q W2 rfl (lkc hcl2 rfl) (.tail _ (.tail _ (.tail _ (.tail _ (.tail _ (m4 F _)))))) d4 ?_
  refine rmarks_q (hC2.mo rfl) (.inl rfl) (by omega) (by omega) hus hG.nd hG.ord (by omega) lt (.head _) (.tail _ (.head _)) (.tail _ (.tail _ (.head _))) (fun ms e M' o' kvs' own hd lo hM hg mM fr => ?_) fun f e => hE2 f e
  refine tmarks_q (hC2.mo rfl) (mL mM) hd lo (hM.mono fun q hq => List.mem_append_left _ hq) (by have := congrArg List.length hg; rw [List.length_map] at this; omega) fun T3 out3 hT3 fo3 => ?_
  exact hK2 _ _ _ _ out3 ⟨ms, e, rfl⟩ hT3 fun p hp => ⟨List.mem_append_left _ hp, fo3 p hp⟩
 refine ⟨rfl, ?_⟩
 rw [ap4, ll_add]
 exact hK _ T2 d _ hT2 hP (hd2.mono fun p hp => List.mem_append_left _ hp)
theorem sAB (E : LawE c z env F ys) {x : LawX} {s t r d k a o : Option Value} {ah bs : List UInt8} {ta tb tc : Tok} {cl : Int} {Gy Tr : Addr} {us : List Value} {gs : List Int} {nn : Nat} {dr : Dat} (hT : TabOk x.ps 362) (d3 : x.o3.data = .cell (some (.bytes ah.toArray ta))) (d4 : x.o4.data = .cell (some (.int cl tc))) (d7 : x.o7.data = .cell (some (.bytes (ah ++ bs).toArray tb))) (d8 : x.o8.data = .cell (some (.ref Gy))) (hG : GlF x.own Gy us nn gs) (hdl : (ah ++ bs).length <= 1000) (hah : ah.length <= 2)
  (hr : RdM (ah ++ bs) ah.length cl gs dr) (hD : DatIn x.own (.ref Tr) dr)
  (hK : ∀ ps' new, TabOk ps' 363 -> WQ c z (execs (List.drop 31 (lawB w)) env) K (lm s t r d k a o (some (.ref Tr))) (ll F ((x.sps ps').add new))) :
  WQ c z (execs (List.drop 30 (lawB w)) env) K (lm s t r d k a o (some (.ref Tr))) (ll F x) := by
 have hC := E.b.hC
 have V := E.b.V
 have h3 := hG.n3
 have hD2 : ∀ ps', DatIn (ll F (x.sps ps')) (.ref Tr) dr := fun ps' => hD.mono fun p hp => mo F (x.sps ps') hp
 refine cut_q (a := [_]) (b := List.drop 31 (lawB w)) ?_
 refine run_ok V E.b.hf hC (by decide) (by decide) 40 _ _ _ _ ?_
 refine lam_q hC E.b.he (by kernel_rfl) (fun ps' => rTp F x ps') (.inl E.b.h496) hT (by decide) (clos_q E.b.ce rfl) rfl fun f c' oc vsl tl ctv hoc hv hT2 _ ff fc => ?_
 refine caught_q (P := fun d => ∃ ms, rdM (ah ++ bs) ah.length cl gs = .ok ms /\ d = mksD ms) (Flt := fun f => rdM (ah ++ bs) ah.length cl gs = .error f) caughtSpec (hC.mo rfl) E.b.ho E.b.fr rfl (.head _) (fun nd => work_q nd (.head _) (.tail _ (.head _)) hoc hv (fun c2 z2 env2 K2 hC2 V2 W2 hcl2 hE2 hK2 => ?_) rfl rfl rfl rfl (by decide) rfl) (fun d ⟨ms, _, e⟩ => ⟨_, e⟩) fun T2 d out2 hP hd2 fo2 => ?_
 ·refine free_q W2 rfl (lkc hcl2 rfl) (.tail _ (.tail _ (m7 F _))) d7 ?_
  refine free_q W2 rfl (lkc hcl2 rfl) (.tail _ (.tail _ (m3 F _))) d3 ?_
  refine lenB_q (by omega) fun t4 => ?_
  refine free_q W2 rfl (lkc hcl2 rfl) (.tail _ (.tail _ (m8 F _))) d8 ?_
  refine free_q W2 rfl (lkc hcl2 rfl) (.tail _ (.tail _ (m4 F _))) d4 ?_
  refine lmarks_q (hC2.mo rfl) (by omega) (by omega) hG.hus (by omega) (.tail _ (.tail _ (mo F (x.sps _) hG.mG))) (fun ms e v out hd fr => ?_) fun f e => hE2 f e
  exact hK2 _ _ _ _ out ⟨ms, e, rfl⟩ hd fun p hp => ⟨List.mem_append_left _ hp, fr p hp⟩
 refine datNe_q hC (by decide) ((hD2 _).mono fun p hp => List.mem_append_right _ (.tail _ (.tail _ hp))) (hd2.mono fun p hp => List.mem_append_left _ hp) (kqd_read hr) (read_eq hr hP) ?_
 refine ⟨rfl, ?_⟩
 rw [ap4, ll_add]
 exact hK _ _ hT2
theorem sAC (E : LawE c z env F ys) {x : LawX} {s t r d k a o e : Option Value} {ah bs : List UInt8} {ta tb : Tok} (hT : TabOk x.ps 364) (d3 : x.o3.data = .cell (some (.bytes ah.toArray ta))) (d7 : x.o7.data = .cell (some (.bytes (ah ++ bs).toArray tb))) (hdl : (ah ++ bs).length <= 1000) (hah : ah.length <= 2)
  (hK : ∀ ps' T dt new, TabOk ps' 365 -> RdR (ah ++ bs) ah.length dt -> DatIn new (.ref T) dt -> WQ c z (execs (List.drop 32 (lawB w)) env) K (lm s t r d k a o (some (.ref T))) (ll F ((x.sps ps').add new))) :
  WQ c z (execs (List.drop 31 (lawB w)) env) K (lm s t r d k a o e) (ll F x) := by
 have hC := E.b.hC
 have V := E.b.V
 refine cut_q (a := [_]) (b := List.drop 32 (lawB w)) ?_
 refine run_ok V E.b.hf hC (by decide) (by decide) 40 _ _ _ _ ?_
 refine lam_q hC E.b.he (by kernel_rfl) (fun ps' => rTp F x ps') (.inl E.b.h496) hT (by decide) (clos_q E.b.ce rfl) rfl fun f c' oc vsl tl ctv hoc hv hT2 _ ff fc => ?_
 refine caught_q (P := fun d => ∃ rs, rdRows (ah ++ bs) ah.length (-1) 2 = .ok rs /\ d = rowsD rs) (Flt := fun f => rdRows (ah ++ bs) ah.length (-1) 2 = .error f) caughtSpec (hC.mo rfl) E.b.ho E.b.fr rfl (.head _) (fun nd => work_q nd (.head _) (.tail _ (.head _)) hoc hv (fun c2 z2 env2 K2 hC2 V2 W2 hcl2 hE2 hK2 => ?_) rfl rfl rfl rfl (by decide) rfl) (fun d ⟨ms, _, e⟩ => ⟨_, e⟩) fun T2 d out2 hP hd2 fo2 => ?_
 ·refine free_q W2 rfl (lkc hcl2 rfl) (.tail _ (.tail _ (m7 F _))) d7 ?_
  refine free_q W2 rfl (lkc hcl2 rfl) (.tail _ (.tail _ (m3 F _))) d3 ?_
  refine lenB_q (by omega) fun t4 => ?_
  intro t5 t6 t7
  refine rrows_q (hC2.mo rfl) (by omega) (by omega) (by decide) (by decide) (fun rs e Pl vsl nl own hM mP fr => ?_) fun f e => hE2 f e
  refine trows_q (hC2.mo rfl) (mL mP) (hM.mono fun q hq => List.mem_append_left _ hq) (rd_bn e) (rd_pr e (by decide)) fun T4 out3 hT3 fo3 => ?_
  exact hK2 _ _ _ _ out3 ⟨rs, e, rfl⟩ hT3 fun p hp => ⟨List.mem_append_left _ hp, fo3 p hp⟩
 refine ⟨rfl, ?_⟩
 rw [ap4, ll_add]
 exact hK _ T2 d _ hT2 hP (hd2.mono fun p hp => List.mem_append_left _ hp)
theorem sAD (E : LawE c z env F ys) {x : LawX} {s t r d k a o : Option Value} {ah bs : List UInt8} {ta tb : Tok} {Tr : Addr} {dr : Dat} (hT : TabOk x.ps 365) (d3 : x.o3.data = .cell (some (.bytes ah.toArray ta))) (d7 : x.o7.data = .cell (some (.bytes (ah ++ bs).toArray tb))) (hdl : (ah ++ bs).length <= 1000) (hah : ah.length <= 2)
  (hr : RdR (ah ++ bs) ah.length dr) (hD : DatIn x.own (.ref Tr) dr)
  (hK : ∀ ps' new, K (.ret (.bool true)) (lm s t r d k a o (some (.ref Tr))) (ll F ((x.sps ps').add new))) :
  WQ c z (execs (List.drop 32 (lawB w)) env) K (lm s t r d k a o (some (.ref Tr))) (ll F x) := by
 have hC := E.b.hC
 have V := E.b.V
 have hD2 : ∀ ps', DatIn (ll F (x.sps ps')) (.ref Tr) dr := fun ps' => hD.mono fun p hp => mo F (x.sps ps') hp
 show WQ c z (execs [_] env) _ _ _
 refine run_ok V E.b.hf hC (by decide) (by decide) 40 _ _ _ _ ?_
 refine lam_q hC E.b.he (by kernel_rfl) (fun ps' => rTp F x ps') (.inl E.b.h496) hT (by decide) (clos_q E.b.ce rfl) rfl fun f c' oc vsl tl ctv hoc hv hT2 _ ff fc => ?_
 refine caught_q (P := fun d => ∃ rs, rdRows (ah ++ bs) ah.length (-1) 2 = .ok rs /\ d = rowsD rs) (Flt := fun f => rdRows (ah ++ bs) ah.length (-1) 2 = .error f) caughtSpec (hC.mo rfl) E.b.ho E.b.fr rfl (.head _) (fun nd => work_q nd (.head _) (.tail _ (.head _)) hoc hv (fun c2 z2 env2 K2 hC2 V2 W2 hcl2 hE2 hK2 => ?_) rfl rfl rfl rfl (by decide) rfl) (fun d ⟨ms, _, e⟩ => ⟨_, e⟩) fun T2 d out2 hP hd2 fo2 => ?_
 ·refine free_q W2 rfl (lkc hcl2 rfl) (.tail _ (.tail _ (m7 F _))) d7 ?_
  refine free_q W2 rfl (lkc hcl2 rfl) (.tail _ (.tail _ (m3 F _))) d3 ?_
  refine lenB_q (by omega) fun t4 => ?_
  intro t5 t6 t7
  refine lrows_q (hC2.mo rfl) (by omega) (by omega) (by decide) (by decide) (by decide) (fun rs e v out hd fr => ?_) fun f e => hE2 f e
  exact hK2 _ _ _ _ out ⟨rs, e, rfl⟩ hd fun p hp => ⟨List.mem_append_left _ hp, fr p hp⟩
 refine datEq_q hC (by decide) ((hD2 _).mono fun p hp => List.mem_append_right _ (.tail _ (.tail _ hp))) (hd2.mono fun p hp => List.mem_append_left _ hp) (kqd_readR hr) (read_eq hr hP) ?_
 show K _ _ _
 rw [ap4, ll_add]
 exact hK _ _
end
end
section
open PySem PySem.W PyProof.Rows PySem.Calls PySem.Spec
noncomputable def allC (F : Addr -> Prop) : List (Str × Addr) -> (Led -> Prop) -> Prop
 | [], P => P []
 | (_, a) :: r, P => ∀ o : Obj, o.data = .cell none -> F a -> allC F r fun l => P ((a, o) :: l)
theorem allC_elim {cm : Str -> Option Value} {F : Addr -> Prop} {cs : List (Str × Addr)} {cells : Led} (x : CellsAre cm cs cells) (hn : ∀ p ∈ cs, cm p.1 = none) : ∀ {P : Led -> Prop}, (∀ p ∈ cells, F p.1) -> allC F cs P -> P cells := by
 induction x with
 | nil => exact fun _ h => h
 | cons h _ ih =>
  rename_i n a o cs r _
  exact fun {P} hf k => ih (fun p hp => hn p (.tail _ hp)) (P := fun l => P ((a, o) :: l)) (fun p hp => hf p (.tail _ hp)) (k _ (by rw [h, hn _ (.head _)]) (hf _ (.head _)))
section
variable {w : World} {c : Cf w} {z : Zs} {env : Env} {K : Flow -> Loc -> Led -> Prop}
theorem law_run {L P : Addr} {nn : Nat} {vs : List Value} {xs : List Int} {o1 o2 o3 o4 o5 o6 o7 o8 o9 o10 o11 o12 : Obj} (E0 : LawE0 c z env L) (hx : IntsAre vs xs) (hlen : xs.length <= 100)
  (d1 : o1.data = .cell none) (d2 : o2.data = .cell none) (d3 : o3.data = .cell none) (d4 : o4.data = .cell none) (d5 : o5.data = .cell none) (d6 : o6.data = .cell none) (d7 : o7.data = .cell none) (d8 : o8.data = .cell none) (d9 : o9.data = .cell none) (d10 : o10.data = .cell none) (d11 : o11.data = .cell none) (d12 : o12.data = .cell none)
  (hK : ∀ m l ps, (496, tabObj ps) ∈ l -> (P, PySem.W.listOf vs.toArray nn) ∈ l -> K (.ret (.bool true)) m l) :
  WQ c z (execs (lawB w) env) K (lm (some (.ref P)) none none none none none none none) [(L + 1 + 1 + 1 + 1 + 1 + 1 + 1 + 1 + 1 + 1 + 1 + 1, o12), (L + 1 + 1 + 1 + 1 + 1 + 1 + 1 + 1 + 1 + 1 + 1, o11), (L + 1 + 1 + 1 + 1 + 1 + 1 + 1 + 1 + 1 + 1, o10), (L + 1 + 1 + 1 + 1 + 1 + 1 + 1 + 1 + 1, o9), (L + 1 + 1 + 1 + 1 + 1 + 1 + 1 + 1, o8), (L + 1 + 1 + 1 + 1 + 1 + 1 + 1, o7), (L + 1 + 1 + 1 + 1 + 1 + 1, o6), (L + 1 + 1 + 1 + 1 + 1, o5), (L + 1 + 1 + 1 + 1, o4), (L + 1 + 1 + 1, o3), (L + 1 + 1, o2), (L + 1, o1), (496, tabObj #[]), (P, PySem.W.listOf vs.toArray nn)] := by
 refine sA1 E0 hx hlen d1 fun S C cs ys t n n2 o1' E e1 => ?_
 refine sA2 E (Int.le_refl 0) e1 d2 fun M oM kvs own p t v1 o2' hdM h5 hnd hkv lo mM hp e2 => ?_
 refine hideG ?_; intro PG9 hG9
 obtain ⟨ms, hMA, hml, hmk, hnd2⟩ := marks_of hkv hnd
 refine hG9 ?_; clear hG9 PG9
 have n5 : ms.length <= 5 := by rw [hml]; exact h5
 have hF : MkF w own M oM kvs ms := ⟨mM, hdM, lo, hMA, n5, hmk, hnd2⟩
 clear h5 hnd hkv hMA hml
 have hF := hF.mono fun q hq => List.mem_append_left [] hq
 refine sB E hp e1 d11 d12 fun Rl vs2 rs nn2 own2 p t v1 v2 v9 tw o11' o12' hRA hrs3 hrok hv0 hv3 mR hp e11 e12 => ?_
 have hR : RwF w own2 Rl vs2 rs nn2 v9 := ⟨mR, hRA, hrs3, hrok, hv0, hv3⟩
 have hR := hR.mono fun q hq => List.mem_append_left (own ++ []) hq
 have hF := hF.mono fun q hq => List.mem_append_right own2 hq
 refine sC E hp e1 e2 d3 d6 hF fun ah ta Cv dc Gl us t1 p t o3' o6' new hah hCv hp e3 e6 => ?_
 have hCv := hCv.mono fun q hq => List.mem_append_left (own2 ++ (own ++ [])) hq
 have hR := hR.mono fun q hq => List.mem_append_right new hq
 have hF := hF.mono fun q hq => List.mem_append_right new hq
 have hmk2 : ∀ m ∈ ms, ok16 m.x /\ ok16 m.y /\ 0 <= m.c /\ m.c < 65536 := fun m hm => ⟨(hmk m hm).1, (hmk m hm).2.1, (hmk m hm).2.2.1, Int.lt_trans (hmk m hm).2.2.2.1 (by decide)⟩
 have hrt : rdM (ah ++ wmB ms) ah.length 65536 (ms.map (·.g)) = .ok ms := rdM_wmB (by omega) rfl rfl (by decide) hmk2
 have hwl : (wmB ms).length <= 1000 := Nat.le_trans wmB_le (by omega)
 refine sD E e2 hF fun D new2 hD => ?_
 have hCv := hCv.mono fun q hq => List.mem_append_right new2 hq
 have hR := hR.mono fun q hq => List.mem_append_right new2 hq
 have hF := hF.mono fun q hq => List.mem_append_right new2 hq
 have hD := hD.mono fun q hq => List.mem_append_left (new ++ (own2 ++ (own ++ []))) hq
 refine sE E e2 d9 hF fun t9 o9' e9 => ?_
 refine sF E (TabOk.nil.mono (Nat.zero_le _)) e2 e3 e6 e9 hF hCv hD hah hwl hrt fun ps new3 hT => ?_
 have hCv := hCv.mono fun q hq => List.mem_append_right new3 hq
 have hR := hR.mono fun q hq => List.mem_append_right new3 hq
 have hF := hF.mono fun q hq => List.mem_append_right new3 hq
 have hD := hD.mono fun q hq => List.mem_append_right new3 hq
 refine sG E e3 e6 e9 hF hCv hah hwl hrt fun Kp oK kvs' new4 hFk => ?_
 have hR := hR.mono fun q hq => List.mem_append_right new4 hq
 have hD := hD.mono fun q hq => List.mem_append_right new4 hq
 have hFk := hFk.mono fun q hq => List.mem_append_left (new3 ++ (new2 ++ (new ++ (own2 ++ (own ++ []))))) hq
 clear hF hCv
 refine sH E hFk hD fun new5 => ?_
 have hR := hR.mono fun q hq => List.mem_append_right new5 hq
 have hD := hD.mono fun q hq => List.mem_append_right new5 hq
 have hFk := hFk.mono fun q hq => List.mem_append_right new5 hq
 refine sI E hFk hD e9 fun new6 => ?_
 have hR := hR.mono fun q hq => List.mem_append_right new6 hq
 clear hFk hD
 refine sK E e11 hR fun D2 new7 hD => ?_
 have hR := hR.mono fun q hq => List.mem_append_right new7 hq
 have hD := hD.mono fun q hq => List.mem_append_left (new6 ++ (new5 ++ (new4 ++ (new3 ++ (new2 ++ (new ++ (own2 ++ (own ++ [])))))))) hq
 refine sL E e9 e11 hR fun t9 o9'' e9 => ?_
 refine sMN E hR hD e9 e11 e12 fun Sa new8 => ?_
 have hR := hR.mono fun q hq => List.mem_append_right new8 hq
 have hD := hD.mono fun q hq => List.mem_append_right new8 hq
 have hrA := rdRows_war (ah := ah) (at_ := ah.length) (cnt := -1) (cl := 1 + v9) (n := (1 + v9).toNat) (Nat.le_trans hrs3 (by decide)) (by omega) rfl (by omega) hR.wd hR.o2 (.inl rfl)
 have hrB := rdRows_war (ah := ah) (at_ := ah.length) (cnt := rs.length) (cl := 1 + v9) (n := (1 + v9).toNat) (Nat.le_trans hrs3 (by decide)) (by omega) rfl (by omega) hR.wd hR.o2 (.inr rfl)
 refine sO E (hT.mono (by decide)) hR hD e3 d5 e9 e11 e12 hah hrA hrB fun ps o5' cv tv new9 hT e5 => ?_
 have hR := hR.mono fun q hq => List.mem_append_right new9 hq
 clear hD hrA hrB
 refine sP E (hT.mono (by decide)) hR e9 e11 e12 (rdRows_more (n := 0) (Nat.le_trans hrs3 (by decide))) fun ps new10 hT => ?_
 have hR := hR.mono fun q hq => List.mem_append_right new10 hq
 refine sQ E (hT.mono (by decide)) hR e11 fun ps new11 hT => ?_
 clear hR
 refine sR E hp e1 fun T1 da px py q1 q2 q3 q4 p tt new12 ox oy hp m1 m2 => ?_
 refine sS E hp e1 d10 fun T2 db qx u1 u2 u3 u4 p tt o10' new13 hx0 hx1 hp m3 m4 e10 => ?_
 refine sT E (hT.mono (by decide)) (List.mem_append_right _ (mL m1)) (List.mem_append_right _ (mL m2)) (mL m3) (mL m4) hx0 hx1 e10 fun ps new14 hT => ?_
 refine sU E (List.mem_append_right _ (List.mem_append_right _ (mL m1))) (List.mem_append_right _ (List.mem_append_right _ (mL m2))) ox oy fun new15 => ?_
 refine sW E hp e1 e5 fun v5 tv5 p tt o5'' hv50 hv54 hp e5 => ?_
 refine sX E hp e1 e3 e5 d7 d8 hah hv50 hv54 fun bs tb Gy ugs gs ngy p tt n o7' o8' new16 hp hbs hG e7 e8 => ?_
 have hdl : (ah ++ bs).length <= 1000 := by rw [List.length_append]; omega
 refine sZ E hp e1 d4 fun cl tc p tt o4' new17 e4 => ?_
 refine sAA E (hT.mono (by decide)) e3 e4 e7 e8 (hG.mono fun q hq => List.mem_append_right _ (mL hq)) hdl hah fun ps Tr dt new18 hT hr hD => ?_
 refine sAB E hT e3 e4 e7 e8 (hG.mono fun q hq => List.mem_append_right _ (List.mem_append_right _ (mL hq))) hdl hah hr (hD.mono fun q hq => List.mem_append_left _ hq) fun ps new19 hT => ?_
 refine sAC E (hT.mono (by decide)) e3 e7 hdl hah fun ps Tr dt new20 hT hr hD => ?_
 refine sAD E hT e3 e7 hdl hah hr (hD.mono fun q hq => List.mem_append_left _ hq) fun ps new21 => ?_
 exact hK _ _ ps (mT _ _) (mP _ _)
end
section
variable {w : World} {mean : ExcName -> Option Value} {mg mb : Str -> Option Value} {A : Around} {base : Heap} {outer : List Env} {s : Shared} {R : Result -> Shared -> Prop}
theorem law_spec {P : Addr} {nn : Nat} {vs : List Value} {xs : List Int} (hout : outer = []) (hx : IntsAre vs xs) (hlen : xs.length <= 100) (B : Below A base outer s.heap) (G : Gd w mean mg mb base) (hh : A.handled = none) (hdp : A.depth < 305) (hu : A.units + 5200 < cLine) (hP9 : @Ne Nat P 496)
  (hkn : Kn base outer s.heap [(496, tabObj #[]), (P, PySem.W.listOf vs.toArray nn)])
  (hR : ∀ h' tk' ps', (∀ b o, s.heap.get? b = some o -> b ≠ 496 -> b ≠ P -> h'.get? b = some o) -> h'.get? P = some (PySem.W.listOf vs.toArray nn) -> h'.get? 496 = some (tabObj ps') -> R (.ok (.ret (.bool true))) { s with heap := h', toks := tk' }) :
  codeS (model PW w) A (.call (.ref 499) ⟨[.ref P], []⟩) R s := by
 refine enterQL 0 [496] (fun _ => False) B G hh hdp hu hkn (binds := [("script", .ref P)]) (by k_is) (by k_is) (by decide) (by decide) (BindsTo.of_eq rfl) rfl (by decide +kernel) (.cons (nn3 hP9.symm) (.cons nn1 .nil)) (fun _ h => h.elim) ?_ rfl rfl rfl (by decide)
 intro c z env K L cells Y hcl hfc hC V hf ho hcL he hS h1 h2 h3 hK
 refine allC_elim (F := Fre c) (P := fun cells => run c z env _ 0 _ K _ (cells ++ _)) Y ?_ hfc ?_
 ·repeat (refine List.forall_mem_cons.mpr ⟨rfl, ?_⟩)
  exact fun _ h => absurd h List.not_mem_nil
 clear Y hfc
 intro o12 d12 f12 o11 d11 f11 o10 d10 f10 o9 d9 f9 o8 d8 f8 o7 d7 f7 o6 d6 f6 o5 d5 f5 o4 d4 f4 o3 d3 f3 o2 d2 f2 o1 d1 f1
 have fc : ∀ k, Nat.blt k 12 = true -> Fre c (L + 1 + k) := fun k hk => by
  match k, hk with
  | 0, _ => exact f1
  | 1, _ => exact f2
  | 2, _ => exact f3
  | 3, _ => exact f4
  | 4, _ => exact f5
  | 5, _ => exact f6
  | 6, _ => exact f7
  | 7, _ => exact f8
  | 8, _ => exact f9
  | 9, _ => exact f10
  | 10, _ => exact f11
  | 11, _ => exact f12
 have E : LawE0 c z env L := ⟨hC, V, hf, hcl, by rw [hcl, hcL]; exact he, hf.ev.symm, ho.trans hout, by rw [hS]; exact .head _, fc⟩
 refine law_run E hx hlen d1 d2 d3 d4 d5 d6 d7 d8 d9 d10 d11 d12 fun m l ps mT mP => hK _ _ _ fun h' tk y => ?_
 exact hR h' tk ps (fun b o e n1 n2 => y.kp.kp b o e fun q => n1 (List.mem_singleton.mp q)) (y.at_ _ mP) (y.at_ _ mT)
end
end
section
open PySem PySem.W PyProof.Rows PySem.Calls PySem.Spec
theorem cl_base : Cl Γ0 := ⟨by decide, fun _ h => absurd h List.not_mem_nil⟩
theorem wp0_S {α : Type} {M : Model} {t : Sem α} {Q : α -> Shared -> Prop} {E : Value -> Shared -> Prop} {s : Shared} (h : wpS M callerA t Q E s) : wp0 M t Q E s := fun p => h Γ0 p caller_in cl_base
theorem list_obj {P : Params} {h : Heap} {a : Addr} {ys : List Value} {xs : List PyData} (w1 : Well P h (.ref a) (ofPy (PyData.list xs))) (hL : h.IsList a ys.toArray) : h.get? a = some (PySem.W.listOf ys.toArray 0) := by
 generalize hv : Value.ref a = v at w1
 generalize hd : ofPy (PyData.list xs) = d at w1
 cases w1 <;> first | (cases hv; done) | skip
 all_goals first
  | (exfalso; simp [ofPy] at hd; done)
  | skip
 rename_i hg _
 cases hv
 refine hideG ?_; intro PG9 hG9
 obtain ⟨o, ho, hc, n, hdt⟩ := hL
 refine hG9 ?_; clear hG9 PG9
 rw [hg] at ho
 cases ho
 have e := (Data.seq.inj hdt).1
 rw [hg, <- e]
theorem hid_get {h : Heap} {P b : Addr} {o oP : Obj} (hP : h.get? P = some oP) (e : h.get? b = some o) (hn : o ≠ oP) : (hideAll h [P]).get? b = some o := hideAll_get _ e fun q => by
 rw [List.mem_singleton.mp q, hP] at e
 exact hn (Option.some.inj e).symm
theorem hid_ns {h : Heap} {P a : Addr} {vs : List Value} {mm : Str -> Option Value} (hP : h.get? P = some (PySem.W.listOf vs.toArray 0)) (x : h.Ns a mm) : (hideAll h [P]).Ns a mm :=
 let ⟨o, es, ep, e, hd, r⟩ := x; ⟨o, es, ep, hid_get hP e (fun q => by rw [q] at hd; cases hd), hd, r⟩
theorem hid_top {h : Heap} {P : Addr} {vs : List Value} {l : List Str} {mean : ExcName -> Option Value} {mg mb : Str -> Option Value} (hP : h.get? P = some (PySem.W.listOf vs.toArray 0)) (T : Top topProg l mean mg mb h) : Top topProg l mean mg mb (hideAll h [P]) where
 g := hid_ns hP T.g
 b := hid_ns hP T.b
 nolimit := let ⟨mc, a, r⟩ := T.nolimit; ⟨mc, hid_ns hP a, r⟩
 nodigits := let ⟨mc, a, r⟩ := T.nodigits; ⟨mc, hid_ns hP a, r⟩
 fn := fun d hd => absurd (show d ∈ ([] : List DefRec) from hd) List.not_mem_nil
 own := fun o ho => absurd (show o ∈ ([] : List OwnSpec) from ho) List.not_mem_nil
 const := fun x d e => by cases (show (none : Option PyData) = some d from e)
 free := T.free
 builtins := T.builtins
 tab := fun d hd => absurd (show d ∈ ([] : List DefRec) from hd) List.not_mem_nil
 bmain := let ⟨bm, ob, a1, a2, a3, a4, r⟩ := T.bmain; ⟨bm, ob, a1, a2, hid_get hP a3 (fun q => by rw [q] at a4; exact absurd (show Value.type "list" = Value.type "module" from a4) (by decide)), a4, r⟩
 seer := fun e => absurd (show false = true from e) Bool.false_ne_true
noncomputable def noLists (K : Frag) : Bool := K.all fun p => match p.2.cls with
 | .type x => x != "list"
 | _ => true
theorem hid_K {h : Heap} {P : Addr} {vs : List Value} {K : Frag} (hP : h.get? P = some (PySem.W.listOf vs.toArray 0)) (X : K.In h) (hK : noLists K = true) : K.In (hideAll h [P]) := fun a o e => by
 refine hid_get hP (X a o e) fun q => ?_
 have h2 := List.all_eq_true.mp hK (a, o) (mem_of_lookupK e)
 subst q
 exact absurd (show false = true from h2) Bool.false_ne_true
theorem noL (P : Params) : noLists (Mine.hd.heap_1 P) = true := by kernel_rfl
theorem noT (P : Params) : noTabs (Mine.hd.heap_1 P) = true := by kernel_rfl
theorem LO_eq : looseW vw lo ++ (recsOf vw).map (·.name) ++ (litsOf vw).map (·.1) ++ (clssOf vw (looseW vw lo)).map (·.name) = LO := by kernel_rfl
theorem law_end {w : World} {mean : ExcName -> Option Value} {mg mb : Str -> Option Value} {s : Shared} {l : Addr} {ys : List Value} {ns : List Int} {Q : Value -> Shared -> Prop} {E : Value -> Shared -> Prop} (KX : (Mine.hd.heap_1 w.params).In s.heap) (T : Top vw (looseW vw lo) mean mg mb s.heap) (hT9 : TabsAt [(498, 496)] s.heap)
  (hP : s.heap.get? l = some (PySem.W.listOf ys.toArray 0)) (hI : IntsAre ys ns) (hlen : ns.length <= 63) (hR : ∀ h' tk', OldK s.heap h' -> Q (.bool true) { s with heap := h', toks := tk' }) : wp0 (model PW w) (call (.ref 499) [.ref l]) Q E s := by
 have h96 : s.heap.get? 496 = some (tabObj #[]) := (hT9 _ (.head _)).2
 have h9 : @Ne Nat l 496 := fun q => by
  rw [q, h96] at hP
  have := congrArg Obj.cls (Option.some.inj hP)
  cases this
 have hPg : (ghostOf s.heap [(498, 496)]).get? l = some (PySem.W.listOf ys.toArray 0) := ghost_get hT9 hP fun q => by
  have := congrArg Obj.cls q
  cases this
 have hTg := ghost_top hT9 T
 rw [LO_eq] at hTg
 have G : Gd w mean mg mb (hideAll (ghostOf s.heap [(498, 496)]) [l]) := ⟨hid_K hPg (ghost_K hT9 KX (noT _)) (noL _), hid_top hPg hTg⟩
 have B : Below callerA (hideAll (ghostOf s.heap [(498, 496)]) [l]) [] s.heap := ⟨rfl, fun b o e => of_hideAll _ (of_hideAll _ e), trivial⟩
 have kn : Kn (hideAll (ghostOf s.heap [(498, 496)]) [l]) [] s.heap [(496, tabObj #[]), (l, PySem.W.listOf ys.toArray 0)] := fun p hp => by
  rcases List.mem_cons.mp hp with rfl | hp
  ·refine ⟨h96, ?_, List.not_mem_nil⟩
   cases q : (hideAll (ghostOf s.heap [(498, 496)]) [l]).get? 496 with
   | none => rfl
   | some o =>
    have e1 := of_hideAll _ q
    have e2 : (ghostOf s.heap [(498, 496)]).get? 496 = none := hideAll_none _ (.head _)
    rw [e2] at e1
    cases e1
  ·rw [List.mem_singleton.mp hp]
   exact ⟨hP, hideAll_none _ (.head _), List.not_mem_nil⟩
 refine wp0_S (wpS_call (law_spec rfl hI (Nat.le_trans hlen (by decide)) B G rfl (by decide) (by decide) h9 kn fun h' tk' ps' k1 k2 k3 => hR h' tk' ⟨fun b o e => ?_, fun b o e => ?_⟩))
 ·by_cases q : b = 496
  ·subst q
   rw [h96] at e
   cases e
   exact .inr (.inl ⟨(CodeHd.tab (hT9 _ (.head _)).1 h96).isCodeTable, rfl, #[], ps', rfl, by rw [k3]; simp [tabObj]⟩)
  ·by_cases q2 : b = l
   ·subst q2
    rw [hP] at e
    cases e
    exact .inl k2
   ·exact .inl (k1 b o e q q2)
 ·by_cases q : b = 496
  ·subst q; exact ⟨_, k3⟩
  ·by_cases q2 : b = l
   ·subst q2; exact ⟨_, k2⟩
   ·exact ⟨_, k1 b o e q q2⟩
theorem post_ok (a b : List WData) : PySem.Challenge.rw_nu0180_01.row.claim.post a (.bool true) b = true := by
 kernel_rfl
theorem law_holds : PySem.Challenge.rw_nu0180_01.Holds := by
 refine Mine.hd.2 ?_
 delta Mine.hd
 unfold Subtype.val
 k_fill
 intro w s₀ s₁ mg mb G Y fa o pm cd doc dV kV ho hd hcd hD hmg hg args vals as hpre hlay hrd hwl hlo
 have KX := km_in_of Y
 km_tabs Y
 have X := (Ground.X G).1
 have V := (Ground.X G).2
 refine Ground.open G ?_
 intro T B D TE TW
 try (refine guard_noD D (by decide +kernel) ?_; clear D)
 km_lay T hmg ho hd cd
 wrow_args hpre hlay hrd hwl hlo
 rename IntsAre _ _ => hI
 rename Heap.IsList _ _ _ => hL
 rename Well _ _ _ _ => hW
 rename ¬ _ < _ => hlen
 have hfa := hmg.symm.trans (mg_of KX T.g (show nsIn (Mine.hd.heap_1 w.params) mainGlobals "law" = some (some (.ref 499)) from rfl))
 cases hfa
 have hP := list_obj hW hL
 refine law_end KX T hT9 hP hI (by omega) fun h' tk' k => ?_
 refine ⟨.inl ⟨.bool true, .bool true, [], rfl, fun _ => rfl, .bool true, ?_, fun _ => ⟨.nil, fun _ h => absurd h List.not_mem_nil⟩⟩, k, rfl, .of_eq hg⟩
 exact post_ok _ _
end
end Mine
theorem PySem.Challenge.cw_nu0180_01_holds : PySem.Challenge.rw_nu0180_01.Holds :=
  Mine.law_holds
