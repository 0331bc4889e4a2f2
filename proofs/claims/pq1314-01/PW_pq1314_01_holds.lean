import PyProof.Rows.All
import Wide.All
import OpenK.AllK
import Wide.FinOn
import PySem.Challenge.RW_pq1314_01
open PySem PySem.W PyProof.Rows
set_option Elab.async false
set_option maxRecDepth 100000
open PySem PySem.W PyProof.Rows
namespace Mine
theorem both {G A B C : Prop} (hl : A) (hw : B) (hc : C) (main : G) : G := have _ := hl; have _ := hw; have _ := hc; main
set_option maxRecDepth 100000 in
set_option maxHeartbeats 8000000 in
def hd : PSigma fun T : Prop => T → PySem.Challenge.rw_pq1314_01.Holds := ⟨_, by
  intro walk
  w_on
  o_law
  apply both
  case main => k_head
  case hw => w_witness2
  case hc => exact walk
  case hl =>
    intro w
    delta openEnds fencedOpening topFrom
    first | rewrite [Fast.te10274390034422433532, Fast.te14364793385576792824, Fast.te1435165496053646825, Fast.te14289696077712309145, Fast.te14082659384304107361, Fast.te8920871248978507458, Fast.te5923862056798008813, Fast.te4187177175401517315] | skip
    kernel_rfl⟩
theorem top (h : hd.1) : PySem.Challenge.rw_pq1314_01.Holds := hd.2 h
end Mine
theorem Mine.off : True := by
  w_top off
  trivial
local macro_rules | `(tactic| walk_at $s:str) => `(tactic| k_extra $(Lean.Syntax.mkStrLit ("m " ++ s.getString)))
local macro_rules | `(tactic| k_all) => `(tactic| k_extra "m k_all")
local macro_rules | `(tactic| k_mem) => `(tactic| k_extra "m k_mem")
local macro_rules | `(tactic| k_handed) => `(tactic| k_extra "m k_handed")
local macro_rules | `(tactic| k_inst) => `(tactic| k_extra "m k_inst")
local macro_rules | `(tactic| mul_fits) => `(tactic| k_extra "m mul_fits")
local macro_rules | `(tactic| is_list) => `(tactic| k_extra "m is_list")
local macro_rules | `(tactic| k_upd) => `(tactic| k_extra "m k_upd")
local macro_rules | `(tactic| k_ne) => `(tactic| k_extra "m k_ne")
section
namespace Mine
open PySem PySem.W PySem.Calls PySem.Spec PyProof.Rows

noncomputable def Ext (h h' : Heap) : Prop := ∀ b o, h.get? b = some o → h'.get? b = some o
theorem Ext.refl (h : Heap) : Ext h h := fun _ _ e => e
theorem Ext.trans {a b c : Heap} (x : Ext a b) (y : Ext b c) : Ext a c := fun q o e => y q o (x q o e)
noncomputable def NewIn (h h' : Heap) (nx : List (Addr × Obj)) : Prop := ∀ p ∈ nx, h'.get? p.1 = some p.2 ∧ h.get? p.1 = none

section
variable {prog : Program} {w : World} {A₀ : Around} {s : Shared} {base h₀ : Heap} {outer : List Env} {L : Addr} {m mg mb : Str → Option Value} {K : Frag} {p : Program} {loose : List Str} {mean : ExcName → Option Value}
  {dp un : Nat} {gd : Option (List Code)} {cn : Str} {cs : Scope} {a : Addr} {ccd : Value} {cl : List (Str × Addr)}
  {name qual : Str} {params : Arguments} {body : List Stmt} {scope : Scope} {dV kV doc pm cdv ct oc : Value} {an od : Option Addr} {osl : Array (Option Value)} {f : Addr} {vals : List Value} {binds : List (Str × Value)}
  {Q E : Value → Shared → Prop}

theorem enterP (B : Below A₀ base outer h₀) (F : Fr h₀ L s.heap m) (X : K.In h₀) (T : Top p loose mean mg mb h₀) (hk : cs.kind = .function)
    (ho : K.lookup f = some ⟨oc, od, .func (fnOf name qual params body scope dV kV doc pm an cdv ct), osl⟩) (hcd : codeIn K cdv qual = true) (hroom : dp < recursionLimit)
    (hbind : BindsTo s (fnOf name qual params body scope dV kV doc pm an cdv ct) ⟨vals, []⟩ binds) (hloc : ∀ y ∈ binds, scope.names.lookup y.1 = some .local)
    (h : ∀ h₁ L', Fr s.heap L' h₁ (fun y => binds.reverse.lookup y) → News s.heap L' h₁ [] → Below (ktrTop dp un gd cn cs L a ccd cl outer) base (envX cn cs L a ccd cl :: outer) s.heap → K.In s.heap → Top p loose mean mg mb s.heap →
      wpAny (model prog w) (ktrTop (dp + 1) (un + 3) gd qual scope L' f cdv [] (envX cn cs L a ccd cl :: outer)) (execs body (envX qual scope L' f cdv []))
        (fun fl s' => Q (match fl with | .ret v => v | _ => .none) s')
        (fun e s' => wpAny (model prog w) (ktrTop (dp + 1) (un + 3) gd qual scope L' f cdv [] (envX cn cs L a ccd cl :: outer)) (leaving (envX qual scope L' f cdv []) e) (fun _ s'' => E e s'') (fun e' s'' => E e' s'') s')
        { s with heap := h₁, toks := s.toks + binds.length })
    (hco : scope.isCoroutine = false) (hgen : scope.isGenerator = false) (hks : scope.kind = .function)
    (hcell : ∀ x ∈ scope.names, x.2 ≠ .cell) : wpAny (model prog w) (ktrTop dp un gd cn cs L a ccd cl outer) (call (.ref f) vals) Q E s := by
  refine wpAny_call ?_
  have XS := X.keeps F.keep
  have BG := pushX (env := envX cn cs L a ccd cl) B F rfl hk
  refine codeAny_call_def (fd := fnOf name qual params body scope dV kV doc pm an cdv ct) (body := body) (binds := binds) hroom (XS _ _ ho) rfl (T.nolimit.keeps F.keep) (codeRec_of XS hcd) rfl hbind hcell hloc (fun h₁ hns hk₁ => ?_) hco hgen hks
  exact wpAny_mono (h h₁ s.heap.objs.size ⟨hns, hk₁, Nat.le_refl _⟩ News.nil ⟨rfl, BG.stays, BG.frames⟩ XS (T.keeps F.keep)) (fun fl s' hl => hl) fun _ _ y => y

theorem enterCH {news : List (Addr × Obj)} (B : Below A₀ base outer h₀) (F : Fr h₀ L s.heap m) (X : K.In h₀) (T : Top p loose mean mg mb h₀) (N : News h₀ L s.heap news) (hk : cs.kind = .function)
    (ho : K.lookup f = some ⟨oc, od, .func (fnOf name qual params body scope dV kV doc pm an cdv ct), osl⟩) (hcd : codeIn K cdv qual = true) (hroom : dp < recursionLimit)
    (hbind : BindsTo s (fnOf name qual params body scope dV kV doc pm an cdv ct) ⟨vals, []⟩ binds) (hkind : (binds.all fun y => scope.names.lookup y.1 == some .local || scope.names.lookup y.1 == some .cell) = true)
    (hnd : ((cellsFrom 0 scope.names []).map (·.1)).Nodup)
    (h : ∀ h₁ L' tk cells, Fr (hideAll s.heap (news.map (·.1))) L' h₁ (bindL (envOfC qual scope L' f cdv).kindOf binds fun _ => none) → News (hideAll s.heap (news.map (·.1))) L' h₁ (cells ++ news) →
      CellsAre (bindC (envOfC qual scope L' f cdv).kindOf binds fun _ => none) (cellsFrom (L' + 1) scope.names []) cells → (∀ p ∈ news, p.1 < L') →
      Below (ktrTop dp un gd cn cs L a ccd cl outer) base (envX cn cs L a ccd cl :: outer) (hideAll s.heap (news.map (·.1))) → K.In (hideAll s.heap (news.map (·.1))) → Top p loose mean mg mb (hideAll s.heap (news.map (·.1))) →
      wpAny (model prog w) (ktrTop (dp + 1) (un + 3) gd qual scope L' f cdv (cellsFrom (L' + 1) scope.names []) (envX cn cs L a ccd cl :: outer)) (execs body (envX qual scope L' f cdv (cellsFrom (L' + 1) scope.names [])))
        (fun fl s' => Q (match fl with | .ret v => v | _ => .none) s')
        (fun e s' => wpAny (model prog w) (ktrTop (dp + 1) (un + 3) gd qual scope L' f cdv (cellsFrom (L' + 1) scope.names []) (envX cn cs L a ccd cl :: outer)) (leaving (envX qual scope L' f cdv (cellsFrom (L' + 1) scope.names [])) e) (fun _ s'' => E e s'') (fun e' s'' => E e' s'') s')
        { s with heap := h₁, toks := tk })
    (hco : scope.isCoroutine = false) (hgen : scope.isGenerator = false) (hks : scope.kind = .function) : wpAny (model prog w) (ktrTop dp un gd cn cs L a ccd cl outer) (call (.ref f) vals) Q E s := by
  refine wpAny_call ?_
  obtain ⟨FG, BG, st, lv⟩ := groundX (R := fun _ _ => True) (env := envX cn cs L a ccd cl) (A := ktrTop dp un gd cn cs L a ccd cl outer) B F N rfl rfl hk
  have XS := X.keeps F.keep
  refine codeAny_call_function hroom (XS _ _ ho) rfl hco hgen rfl (codeRec_of XS hcd) (hbind _ _ _ _ ?_)
  refine wpAny_newFunctionEnv_cells hks (kindsX hkind _) fun env' he s' x => ?_
  subst he
  refine ⟨(T.nolimit.keeps F.keep).keeps x.toInCall.keep, codeAny_func ?_⟩
  obtain ⟨h₁, tk, rfl, _⟩ := x.done
  have hk₁ := x.toInCall.keep
  obtain ⟨cells, NC, Y⟩ := Cl.news (h₀ := s.heap) (Nat.le_refl _) fun n c hm => ⟨x.cell n c (lookup_of_mem_nodup (cellsFrom_names scope.names 0 (s.heap.objs.size + 1) [] [] rfl ▸ hnd) hm), x.above n c hm⟩
  refine wpAny_mono (h h₁ s.heap.objs.size tk cells ⟨x.toInCall.ns, fun b o e => hk₁ b o (of_hideAll _ e), Nat.le_of_eq (hideAll_size _ _)⟩ (fun p hp => ?_) Y (fun p hp => Heap.lt_size (N p hp).1) BG (X.keeps st) (T.keeps st)) (fun fl s' hl => hl) fun _ _ y => y
  rcases List.mem_append.mp hp with hp | hp
  · refine ⟨(NC p hp).1, (NC p hp).2.1, ?_⟩
    cases q : (hideAll s.heap (news.map (·.1))).get? p.1 with
    | none => rfl
    | some o => have := of_hideAll _ q; rw [(NC p hp).2.2] at this; cases this
  · exact ⟨hk₁ _ _ (N p hp).1, Nat.ne_of_lt (Heap.lt_size (N p hp).1), hideAll_none _ (List.mem_map_of_mem hp)⟩

theorem enterC (B : Below A₀ base outer h₀) (F : Fr h₀ L s.heap m) (X : K.In h₀) (T : Top p loose mean mg mb h₀) (hk : cs.kind = .function)
    (ho : K.lookup f = some ⟨oc, od, .func (fnOf name qual params body scope dV kV doc pm an cdv ct), osl⟩) (hcd : codeIn K cdv qual = true) (hroom : dp < recursionLimit)
    (hbind : BindsTo s (fnOf name qual params body scope dV kV doc pm an cdv ct) ⟨vals, []⟩ binds) (hkind : (binds.all fun y => scope.names.lookup y.1 == some .local || scope.names.lookup y.1 == some .cell) = true)
    (hnd : ((cellsFrom 0 scope.names []).map (·.1)).Nodup)
    (h : ∀ h₁ L' tk cells, Fr s.heap L' h₁ (bindL (envOfC qual scope L' f cdv).kindOf binds fun _ => none) → News s.heap L' h₁ cells →
      CellsAre (bindC (envOfC qual scope L' f cdv).kindOf binds fun _ => none) (cellsFrom (L' + 1) scope.names []) cells →
      Below (ktrTop dp un gd cn cs L a ccd cl outer) base (envX cn cs L a ccd cl :: outer) s.heap → K.In s.heap → Top p loose mean mg mb s.heap →
      wpAny (model prog w) (ktrTop (dp + 1) (un + 3) gd qual scope L' f cdv (cellsFrom (L' + 1) scope.names []) (envX cn cs L a ccd cl :: outer)) (execs body (envX qual scope L' f cdv (cellsFrom (L' + 1) scope.names [])))
        (fun fl s' => Q (match fl with | .ret v => v | _ => .none) s')
        (fun e s' => wpAny (model prog w) (ktrTop (dp + 1) (un + 3) gd qual scope L' f cdv (cellsFrom (L' + 1) scope.names []) (envX cn cs L a ccd cl :: outer)) (leaving (envX qual scope L' f cdv (cellsFrom (L' + 1) scope.names [])) e) (fun _ s'' => E e s'') (fun e' s'' => E e' s'') s')
        { s with heap := h₁, toks := tk })
    (hco : scope.isCoroutine = false) (hgen : scope.isGenerator = false) (hks : scope.kind = .function) : wpAny (model prog w) (ktrTop dp un gd cn cs L a ccd cl outer) (call (.ref f) vals) Q E s :=
  enterCH (news := []) B F X T News.nil hk ho hcd hroom hbind hkind hnd (fun h₁ L' tk cells F N Y _ B X T => h h₁ L' tk cells F (by rw [List.append_nil] at N; exact N) Y B X T) hco hgen hks
end
end Mine
end
section
open PySem PySem.W PySem.Calls PySem.Spec PyProof.Rows
theorem Mine.dev : (PySem.Challenge.rw_pq1314_01.foot = 6) → Mine.hd.heap_39 = Mine.hd.heap_39 := by
  k_fill
  intro _; rfl
namespace Mine
theorem regB2_1 : True := by
  k_with_none
  k_with "m k_ne" => (refine neN ?_; (try dsimp only); first
    | with_reducible assumption
    | exact Ne.symm (by with_reducible assumption)
    | ((repeat (rename _ ∧ _ => q8z9; rcases q8z9 with ⟨_, _⟩)); first
      | with_reducible assumption
      | exact Ne.symm (by with_reducible assumption)
      | exact Nat.ne_of_gt (by with_reducible assumption)
      | exact Nat.ne_of_lt (by with_reducible assumption)))
  k_with "m k_all" => assumption
  trivial
structure Apart (news nx : List (Addr × Obj)) : Prop where
  out : ∀ q ∈ news, ∀ p ∈ nx, @Ne Nat q.1 p.1

noncomputable def Con (w : World) (dep : Nat) (f : Addr) (vs : List Value) (Pre : Heap → Prop) (Post : Value → List (Addr × Obj) → Prop) : Prop :=
  ∀ (loose : List Str) (mean : ExcName → Option Value) (mg mb : Str → Option Value) (dp un : Nat) (gd : Option (List Code)) (cn : Str) (cs : Scope) (a : Addr) (ccd : Value) (cl : List (Str × Addr)) (outer : List Env) (A₀ : Around) (base h₀ : Heap) (L : Addr) (m : Str → Option Value) (news : List (Addr × Obj)) (s : Shared) (Q E : Value → Shared → Prop),
    Below A₀ base outer h₀ → Fr h₀ L s.heap m → (hd.heap_39 w.params).In h₀ → News h₀ L s.heap news → Top hd.view_39 loose mean mg mb h₀ → cs.kind = .function → dp + dep < recursionLimit → un + 8 * dep < cLine → Pre s.heap →
    (∀ r nx h' tk', Fr h₀ L h' m → News h₀ L h' (nx ++ news) → (∀ q ∈ news, ∀ p ∈ nx, @Ne Nat q.1 p.1) → Post r nx → Q r { s with heap := h', toks := tk' }) →
    wpAny (model PySem.Challenge.rw_pq1314_01.row.prog w) (ktrTop dp un gd cn cs L a ccd cl outer) (call (.ref f) vs) Q E s

abbrev ent (w : World) (k : String) (t : Nat) (v : Value) : DictEntry := ⟨PyData.keyHash w.params (Str.ofString k), .str (Str.ofString k) t, v⟩
abbrev vecD (w : World) (t1 t2 t3 t4 t5 : Nat) (kv iv av : Value) : Obj := dictOf [ent w "kind" t1 kv, ent w "items" t2 iv, ent w "attrs" t3 av, ent w "shared" t4 (.bool false), ent w "loose" t5 (.bool false)] 5
abbrev nullD (w : World) (t1 t2 t3 : Nat) : Obj := dictOf [ent w "kind" t1 (.str (Str.ofString "NULL") t3), ent w "attrs" t2 .none] 2

set_option maxHeartbeats 4000000 in
theorem vec_con (w : World) (kv iv : Value) (hk : handedIn kv = true) (hi : handedIn iv = true) : Con w 4 99 [kv, iv] (fun _ => True)
    (fun r nx => ∃ x dx t1 t2 t3 t4 t5, r = .ref x ∧ x ≠ dx ∧ nx = [(x, instObj 99 dx), (dx, vecD w t1 t2 t3 t4 t5 kv iv .none)]) := by
  intro loose mean mg mb dp un gd cn cs a ccd cl outer A₀ base h₀ L m news s Q E B F X N T hck hd hu hp hret
  refine call_cls (by k_asm) (by k_asm) (by k_asm) (by k_is) (by k_is) (by k_is) ?_
  intro x' d' h' F' N' l1 l2
  have e1 : ∀ p ∈ news, p.1 ≠ d' := fun p hp => Nat.ne_of_lt (l1 p hp)
  have e2 : ∀ p ∈ news, p.1 ≠ x' := fun p hp => Nat.ne_of_lt (Nat.lt_trans (l1 p hp) l2)
  replace l2 := ltN l2
  (refine' code_def ?k1 ?k2 ?k3 ?k4 ?k5 ?kA ?kF ?kK ?k6 ?k7 ?k8 ?k9 ?kB ?_ ?c2 ?c3 ?c4 ?c5; (case kA => exact rfl); (case kF => exact rfl); (case kK => assumption); (case k1 => k_asm); (case k2 => k_asm); (case k3 => k_asm); (case k4 => k_asm); (case k5 => k_asm); (case k6 => k_is); (case k7 => k_is); (case k8 => ktr_room); (case k9 => first | exact BindsTo.of_eq rfl | exact binds_K (by k_in) rfl (by k_is) rfl rfl rfl); (case c5 => decide); (case kB => exact locs rfl); (case c2 => exact rfl); (case c3 => exact rfl); (case c4 => exact rfl); k_whole; intro g' L' h' FG' F' N' B' X' T'; (try dsimp only); (try k_fold))
  k_steps
  refine hret _ [_, _] _ _ (by assumption) (by assumption) ?_ ⟨_, _, _, _, _, _, _, rfl, (Nat.ne_of_gt l2), rfl⟩
  intro q hq p hp
  rcases List.mem_cons.mp hp with rfl | hp
  · exact e2 q hq
  · rcases List.mem_cons.mp hp with rfl | hp
    · exact e1 q hq
    · cases hp

set_option maxHeartbeats 4000000 in
theorem null_con (w : World) : Con w 4 70 [] (fun _ => True)
    (fun r nx => ∃ x dx t1 t2 t3, r = .ref x ∧ x ≠ dx ∧ nx = [(x, instObj 70 dx), (dx, nullD w t1 t2 t3)]) := by
  intro loose mean mg mb dp un gd cn cs a ccd cl outer A₀ base h₀ L m news s Q E B F X N T hck hd hu hp hret
  refine call_cls (by k_asm) (by k_asm) (by k_asm) (by k_is) (by k_is) (by k_is) ?_
  intro x' d' h' F' N' l1 l2
  have e1 : ∀ p ∈ news, p.1 ≠ d' := fun p hp => Nat.ne_of_lt (l1 p hp)
  have e2 : ∀ p ∈ news, p.1 ≠ x' := fun p hp => Nat.ne_of_lt (Nat.lt_trans (l1 p hp) l2)
  replace l2 := ltN l2
  (refine' code_def ?k1 ?k2 ?k3 ?k4 ?k5 ?kA ?kF ?kK ?k6 ?k7 ?k8 ?k9 ?kB ?_ ?c2 ?c3 ?c4 ?c5; (case kA => exact rfl); (case kF => exact rfl); (case kK => assumption); (case k1 => k_asm); (case k2 => k_asm); (case k3 => k_asm); (case k4 => k_asm); (case k5 => k_asm); (case k6 => k_is); (case k7 => k_is); (case k8 => ktr_room); (case k9 => first | exact BindsTo.of_eq rfl | exact binds_K (by k_in) rfl (by k_is) rfl rfl rfl); (case c5 => decide); (case kB => exact locs rfl); (case c2 => exact rfl); (case c3 => exact rfl); (case c4 => exact rfl); k_whole; intro g' L' h' FG' F' N' B' X' T'; (try dsimp only); (try k_fold))
  k_steps
  refine hret _ [_, _] _ _ (by assumption) (by assumption) ?_ ⟨_, _, _, _, _, rfl, (Nat.ne_of_gt l2), rfl⟩
  intro q hq p hp
  rcases List.mem_cons.mp hp with rfl | hp
  · exact e2 q hq
  · rcases List.mem_cons.mp hp with rfl | hp
    · exact e1 q hq
    · cases hp

section
variable {w : World} {dep : Nat} {f : Addr} {vs : List Value} {Pre : Heap → Prop} {Post : Value → List (Addr × Obj) → Prop}
  {name qual : Str} {params : Arguments} {body : List Stmt} {scope : Scope} {dV kV doc pm cdv ct oc : Value} {an od : Option Addr} {osl : Array (Option Value)} {binds : List (Str × Value)}

theorem con_done {h₀ h' : Heap} {L L' : Addr} {m m' : Str → Option Value} {s : Shared} {news nx : List (Addr × Obj)} (F : Fr h₀ L s.heap m) (N : News h₀ L s.heap news) (F' : Fr s.heap L' h' m') (N' : News s.heap L' h' nx) :
    Fr h₀ L h' m ∧ News h₀ L h' (nx ++ news) ∧ ∀ q ∈ news, ∀ p ∈ nx, q.1 ≠ p.1 := by
  refine ⟨F.keeps F'.keep, fun p hp => ?_, fun q hq p hp e => ?_⟩
  · rcases List.mem_append.mp hp with hp | hp
    · refine ⟨(N' p hp).1, fun e => ?_, ?_⟩
      · obtain ⟨o, _, _, ho, _⟩ := F.ns
        have := (N' p hp).2.2
        rw [e, ho] at this; cases this
      · cases q : h₀.get? p.1 with
        | none => rfl
        | some o => have := (N' p hp).2.2; rw [F.keep _ _ q] at this; cases this
    · exact ⟨F'.keep _ _ (N p hp).1, (N p hp).2⟩
  · have := (N' p hp).2.2
    rw [← e, (N q hq).1] at this; cases this

theorem Con.ofP (ho : (hd.heap_39 w.params).lookup f = some ⟨oc, od, .func (fnOf name qual params body scope dV kV doc pm an cdv ct), osl⟩) (hcd : codeIn (hd.heap_39 w.params) cdv qual = true)
    (hbind : ∀ s, BindsTo s (fnOf name qual params body scope dV kV doc pm an cdv ct) ⟨vs, []⟩ binds) (hloc : ∀ y ∈ binds, scope.names.lookup y.1 = some .local)
    (hco : scope.isCoroutine = false) (hgen : scope.isGenerator = false) (hks : scope.kind = .function) (hcell : ∀ x ∈ scope.names, x.2 ≠ .cell)
    (walk : ∀ (loose : List Str) (mean : ExcName → Option Value) (mg mb : Str → Option Value) (dp un : Nat) (gd : Option (List Code)) (outer : List Env) (A₀ : Around) (base H h₁ : Heap) (L' : Addr) (s : Shared) (Q : Value → Shared → Prop),
      Below A₀ base outer H → Fr H L' h₁ (fun y => binds.reverse.lookup y) → (hd.heap_39 w.params).In H → News H L' h₁ [] → Top hd.view_39 loose mean mg mb H → dp + dep < recursionLimit + 1 → un + 8 * dep < cLine + 3 → Pre H → s.heap = h₁ →
      (∀ r nx h' tk' m', Fr H L' h' m' → News H L' h' nx → Post r nx → Q r { s with heap := h', toks := tk' }) →
      wpAny (model PySem.Challenge.rw_pq1314_01.row.prog w) (ktrTop dp un gd qual scope L' f cdv [] outer) (execs body (envX qual scope L' f cdv [])) (fun fl s' => Q (match fl with | .ret v => v | _ => .none) s') (fun _ _ => False) s) :
    Con w (dep + 1) f vs Pre Post := by
  intro loose mean mg mb dp un gd cn cs a ccd cl outer A₀ base h₀ L m news s Q E B F X N T hck hd hu hp hret
  refine enterP B F X T hck ho hcd (by omega) (hbind s) hloc (fun h₁ L' F' N' B' X' T' => ?_) hco hgen hks hcell
  refine wpAny_mono (walk loose mean mg mb (dp + 1) (un + 3) gd _ _ base s.heap h₁ L' _ Q B' F' X' N' T' (by omega) (by omega) hp rfl (fun r nx h' tk' m' F'' N'' P => ?_)) (fun _ _ x => x) (fun _ _ x => x.elim)
  obtain ⟨a1, a2, a3⟩ := con_done F N F'' N''
  exact hret r nx h' tk' a1 a2 a3 P

theorem Con.ofC (ho : (hd.heap_39 w.params).lookup f = some ⟨oc, od, .func (fnOf name qual params body scope dV kV doc pm an cdv ct), osl⟩) (hcd : codeIn (hd.heap_39 w.params) cdv qual = true)
    (hbind : ∀ s, BindsTo s (fnOf name qual params body scope dV kV doc pm an cdv ct) ⟨vs, []⟩ binds) (hkind : (binds.all fun y => scope.names.lookup y.1 == some .local || scope.names.lookup y.1 == some .cell) = true)
    (hnd : ((cellsFrom 0 scope.names []).map (·.1)).Nodup)
    (hco : scope.isCoroutine = false) (hgen : scope.isGenerator = false) (hks : scope.kind = .function)
    (walk : ∀ (loose : List Str) (mean : ExcName → Option Value) (mg mb : Str → Option Value) (dp un : Nat) (gd : Option (List Code)) (outer : List Env) (A₀ : Around) (base H h₁ : Heap) (L' : Addr) (s : Shared) (cells : List (Addr × Obj)) (Q : Value → Shared → Prop),
      Below A₀ base outer H → Fr H L' h₁ (bindL (envOfC qual scope L' f cdv).kindOf binds fun _ => none) → (hd.heap_39 w.params).In H → News H L' h₁ cells →
      CellsAre (bindC (envOfC qual scope L' f cdv).kindOf binds fun _ => none) (cellsFrom (L' + 1) scope.names []) cells → Top hd.view_39 loose mean mg mb H → dp + dep < recursionLimit + 1 → un + 8 * dep < cLine + 3 → Pre H → s.heap = h₁ →
      (∀ r nx h' tk' m', Fr H L' h' m' → News H L' h' nx → Post r nx → Q r { s with heap := h', toks := tk' }) →
      wpAny (model PySem.Challenge.rw_pq1314_01.row.prog w) (ktrTop dp un gd qual scope L' f cdv (cellsFrom (L' + 1) scope.names []) outer) (execs body (envX qual scope L' f cdv (cellsFrom (L' + 1) scope.names []))) (fun fl s' => Q (match fl with | .ret v => v | _ => .none) s') (fun _ _ => False) s) :
    Con w (dep + 1) f vs Pre Post := by
  intro loose mean mg mb dp un gd cn cs a ccd cl outer A₀ base h₀ L m news s Q E B F X N T hck hd hu hp hret
  refine enterC B F X T hck ho hcd (by omega) (hbind s) hkind hnd (fun h₁ L' tk cells F' N' Y B' X' T' => ?_) hco hgen hks
  refine wpAny_mono (walk loose mean mg mb (dp + 1) (un + 3) gd _ _ base s.heap h₁ L' _ cells Q B' F' X' N' Y T' (by omega) (by omega) hp rfl (fun r nx h' tk' m' F'' N'' P => ?_)) (fun _ _ x => x) (fun _ _ x => x.elim)
  obtain ⟨a1, a2, a3⟩ := con_done F N F'' N''
  exact hret r nx h' tk' a1 a2 a3 P
end
end Mine
end
section
open PySem PySem.W PySem.Calls PySem.Spec PyProof.Rows
theorem Mine.dev3 : (PySem.Challenge.rw_pq1314_01.foot = 6) → Mine.hd.heap_39 = Mine.hd.heap_39 := by
  k_fill
  intro _; rfl
namespace Mine
theorem regB3_1 : True := by
  k_with_none
  k_with "m k_ne" => (refine neN ?_; (try dsimp only); first
    | with_reducible assumption
    | exact Ne.symm (by with_reducible assumption)
    | ((repeat (rename _ ∧ _ => q8z9; rcases q8z9 with ⟨_, _⟩)); first
      | with_reducible assumption
      | exact Ne.symm (by with_reducible assumption)
      | exact Nat.ne_of_gt (by with_reducible assumption)
      | exact Nat.ne_of_lt (by with_reducible assumption)))
  k_with "m k_all" => assumption
  k_with "m k_handed" => assumption
  k_with "m call ref" => (k_here; (with_reducible show wpAny _ _ (call (Value.ref 99) [_, _]) _ _ _); k_dflt (refine' vec_con _ _ _ ?hkz9 ?hiz9 _ _ _ _ _ _ _ _ _ _ _ _ _ _ _ _ _ _ _ _ _ _ ?Bz9 ?Fz9 ?Xz9 ?Nz9 ?Tz9 ?ckz9 ?hdz9 ?huz9 ?hpz9 ?_; (case Bz9 => k_asm); (case Fz9 => k_asm); (case Xz9 => k_asm); (case Nz9 => k_asm); (case Tz9 => k_asm); (case hpz9 => exact True.intro); (case hkz9 => k_handed); (case hiz9 => k_handed); (case ckz9 => first | rfl | assumption); (case hdz9 => omega); (case huz9 => omega); k_whole); intro r'9 nx'9 h'9 tk'9 F'9 N'9 ne'9 P'9; obtain ⟨x'9, d'9, t1'9, t2'9, t3'9, t4'9, t5'9, hr'9, hx'9, hn'9⟩ := P'9; subst hr'9; subst hn'9; replace hx'9 := neN hx'9; (have nr'9 := Apart.mk ne'9); (try simp only [List.cons_append, List.nil_append] at N'9); (try simp only [List.forall_mem_cons, List.not_mem_nil, false_implies, implies_true, and_true] at ne'9); (try k_sweep))
  k_with "m call ref" => (k_here; (with_reducible show wpAny _ _ (call (Value.ref 70) _) _ _ _); k_dflt (refine' null_con _ _ _ _ _ _ _ _ _ _ _ _ _ _ _ _ _ _ _ _ _ _ _ ?Bz9 ?Fz9 ?Xz9 ?Nz9 ?Tz9 ?ckz9 ?hdz9 ?huz9 ?hpz9 ?_; (case Bz9 => k_asm); (case Fz9 => k_asm); (case Xz9 => k_asm); (case Nz9 => k_asm); (case Tz9 => k_asm); (case hpz9 => exact True.intro); (case ckz9 => first | rfl | assumption); (case hdz9 => omega); (case huz9 => omega); k_whole); intro r'9 nx'9 h'9 tk'9 F'9 N'9 ne'9 P'9; obtain ⟨x'9, d'9, t1'9, t2'9, t3'9, hr'9, hx'9, hn'9⟩ := P'9; subst hr'9; subst hn'9; replace hx'9 := neN hx'9; (have nr'9 := Apart.mk ne'9); (try simp only [List.cons_append, List.nil_append] at N'9); (try simp only [List.forall_mem_cons, List.not_mem_nil, false_implies, implies_true, and_true] at ne'9); (try k_sweep))
  trivial
abbrev hAt (h : Heap) : Addr → Obj → Prop := fun a o => h.get? a = some o
abbrev lAt (nx : List (Addr × Obj)) : Addr → Obj → Prop := fun a o => (a, o) ∈ nx
abbrev PR : Program := PySem.Challenge.rw_pq1314_01.row.prog
abbrev SDk (w : World) := strKind PySem.Challenge.rw_pq1314_01.row.prog w

/-- a Vector at v: kind, items, attrs -/
noncomputable def VecIs (w : World) (At : Addr → Obj → Prop) (v kv iv av : Value) : Prop :=
  ∃ x dx t1 t2 t3 t4 t5, v = .ref x ∧ At x (instObj 99 dx) ∧ At dx (vecD w t1 t2 t3 t4 t5 kv iv av)
/-- a list object -/
noncomputable def LstIs (At : Addr → Obj → Prop) (v : Value) (vs : List Value) : Prop := ∃ l n, v = .ref l ∧ At l (listOf vs.toArray n)
/-- a dict by written keys -/
noncomputable def DicIs (w : World) (At : Addr → Obj → Prop) (v : Value) (kvs : List (Str × Value)) : Prop :=
  ∃ d o, v = .ref d ∧ At d o ∧ o.IsDictOf (SDk w) kvs ∧ (d == sysModules) = false
/-- the names of one axis -/
noncomputable def RowIs (At : Addr → Obj → Prop) (r : Value) : Option (List Value) → Prop
  | none => r = .none
  | some ns => LstIs At r ns
noncomputable def NmIs (w : World) (At : Addr → Obj → Prop) (v r : Value) : Option (List Value) → Prop
  | none => r = .none ∧ ∃ x dx t1 t2 t3, v = .ref x ∧ At x (instObj 70 dx) ∧ At dx (nullD w t1 t2 t3)
  | some ns => LstIs At r ns ∧ ∃ t, VecIs w At v (.str (Str.ofString "character") t) r .none
inductive RowsAre (At : Addr → Obj → Prop) : List Value → List (Option (List Value)) → Prop
  | nil : RowsAre At [] []
  | cons {r rs n ns} : RowIs At r n → RowsAre At rs ns → RowsAre At (r :: rs) (n :: ns)
inductive NmsAre (w : World) (At : Addr → Obj → Prop) : List Value → List Value → List (Option (List Value)) → Prop
  | nil : NmsAre w At [] [] []
  | cons {v vs r rs n ns} : NmIs w At v r n → NmsAre w At vs rs ns → NmsAre w At (v :: vs) (r :: rs) (n :: ns)
/-- what the dict of attrs of an array holds -/
noncomputable def AttIs (w : World) (At : Addr → Obj → Prop) (av : Value) (dl : Value) (ds : List Value) (nm : Option (List (Option (List Value)))) : Prop :=
  ∃ dv t, VecIs w At dv (.str (Str.ofString "integer") t) dl .none ∧ LstIs At dl ds ∧
    match nm with
    | none => DicIs w At av [(Str.ofString "dim", dv)]
    | some ns => ∃ nv t' nl vs rs, DicIs w At av [(Str.ofString "dim", dv), (Str.ofString "dimnames", nv)] ∧ VecIs w At nv (.str (Str.ofString "list") t') nl .none ∧ LstIs At nl vs ∧ NmsAre w At vs rs ns
/-- an array: its items' list value, its dims' list value -/
noncomputable def ArrIs (w : World) (At : Addr → Obj → Prop) (v iv dl : Value) (is ds : List Value) (nm : Option (List (Option (List Value)))) : Prop :=
  ∃ t av, VecIs w At v (.str (Str.ofString "integer") t) iv av ∧ LstIs At iv is ∧ AttIs w At av dl ds nm

section
variable {w : World} {At At' : Addr → Obj → Prop} (hs : ∀ a o, At a o → At' a o)
include hs
theorem VecIs.mono {v kv iv av : Value} : VecIs w At v kv iv av → VecIs w At' v kv iv av := fun ⟨x, dx, t1, t2, t3, t4, t5, e, a, b⟩ => ⟨x, dx, t1, t2, t3, t4, t5, e, hs _ _ a, hs _ _ b⟩
theorem LstIs.mono {v : Value} {vs : List Value} : LstIs At v vs → LstIs At' v vs := fun ⟨l, n, e, a⟩ => ⟨l, n, e, hs _ _ a⟩
theorem DicIs.mono {v : Value} {kvs : List (Str × Value)} : DicIs w At v kvs → DicIs w At' v kvs := fun ⟨d, o, e, a, r⟩ => ⟨d, o, e, hs _ _ a, r⟩
theorem RowIs.mono {r : Value} : ∀ {n : Option (List Value)}, RowIs At r n → RowIs At' r n
  | none => id
  | some _ => LstIs.mono hs
theorem RowsAre.mono {rs : List Value} {ns : List (Option (List Value))} (h : RowsAre At rs ns) : RowsAre At' rs ns := by
  induction h with
  | nil => exact .nil
  | cons a _ ih => exact .cons (a.mono hs) ih
theorem NmIs.mono {v r : Value} : ∀ {n : Option (List Value)}, NmIs w At v r n → NmIs w At' v r n
  | none => fun ⟨q, x, dx, t1, t2, t3, e, a, b⟩ => ⟨q, x, dx, t1, t2, t3, e, hs _ _ a, hs _ _ b⟩
  | some _ => fun ⟨a, t, b⟩ => ⟨a.mono hs, t, b.mono hs⟩
theorem NmsAre.mono {vs rs : List Value} {ns : List (Option (List Value))} (h : NmsAre w At vs rs ns) : NmsAre w At' vs rs ns := by
  induction h with
  | nil => exact .nil
  | cons a _ ih => exact .cons (a.mono hs) ih
theorem AttIs.mono {av dl : Value} {ds : List Value} : ∀ {nm : Option (List (Option (List Value)))}, AttIs w At av dl ds nm → AttIs w At' av dl ds nm
  | none => fun ⟨dv, t, a, b, c⟩ => ⟨dv, t, a.mono hs, b.mono hs, DicIs.mono hs c⟩
  | some _ => fun ⟨dv, t, a, b, nv, t', nl, vs, rs, c, d, e, f⟩ => ⟨dv, t, a.mono hs, b.mono hs, nv, t', nl, vs, rs, c.mono hs, d.mono hs, e.mono hs, f.mono hs⟩
theorem ArrIs.mono {v iv dl : Value} {is ds : List Value} {nm : Option (List (Option (List Value)))} : ArrIs w At v iv dl is ds nm → ArrIs w At' v iv dl is ds nm :=
  fun ⟨t, av, a, b, c⟩ => ⟨t, av, a.mono hs, b.mono hs, c.mono hs⟩
end
theorem NmIs.row {w : World} {At : Addr → Obj → Prop} {v r : Value} : ∀ {n : Option (List Value)}, NmIs w At v r n → RowIs At r n
  | none => fun h => h.1
  | some _ => fun h => h.1
theorem NmsAre.rows {w : World} {At : Addr → Obj → Prop} {vs rs : List Value} {ns : List (Option (List Value))} (h : NmsAre w At vs rs ns) : RowsAre At rs ns := by
  induction h with
  | nil => exact .nil
  | cons a _ ih => exact .cons a.row ih
theorem NmsAre.len {w : World} {At : Addr → Obj → Prop} {vs rs : List Value} {ns : List (Option (List Value))} (h : NmsAre w At vs rs ns) : vs.length = ns.length := by
  induction h with
  | nil => rfl
  | cons _ _ ih => rw [List.length_cons, List.length_cons, ih]
theorem NmsAre.lenr {w : World} {At : Addr → Obj → Prop} {vs rs : List Value} {ns : List (Option (List Value))} (h : NmsAre w At vs rs ns) : rs.length = ns.length := by
  induction h with
  | nil => rfl
  | cons _ _ ih => rw [List.length_cons, List.length_cons, ih]
theorem RowsAre.len {At : Addr → Obj → Prop} {rs : List Value} {ns : List (Option (List Value))} (h : RowsAre At rs ns) : rs.length = ns.length := by
  induction h with
  | nil => rfl
  | cons _ _ ih => rw [List.length_cons, List.length_cons, ih]
theorem RowsAre.get {At : Addr → Obj → Prop} {rs : List Value} {ns : List (Option (List Value))} (h : RowsAre At rs ns) : ∀ {k : Nat} {n : Option (List Value)}, ns[k]? = some n → ∃ r, rs[k]? = some r ∧ RowIs At r n := by
  induction h with
  | nil => intro k n e; simp at e
  | cons a _ ih =>
    intro k n e
    cases k with
    | zero => simp at e; subst e; exact ⟨_, rfl, a⟩
    | succ k => simpa using ih (by simpa using e)
theorem NmsAre.get {w : World} {At : Addr → Obj → Prop} {vs rs : List Value} {ns : List (Option (List Value))} (h : NmsAre w At vs rs ns) : ∀ {k : Nat} {r : Value}, rs[k]? = some r → ∃ v n, vs[k]? = some v ∧ ns[k]? = some n ∧ NmIs w At v r n := by
  induction h with
  | nil => intro k n e; simp at e
  | cons a _ ih =>
    intro k n e
    cases k with
    | zero => simp at e; subst e; exact ⟨_, _, rfl, rfl, a⟩
    | succ k => simpa using ih (by simpa using e)

section
variable {prog : Program} {w : World} {A : Around} {E : Value → Shared → Prop} {s : Shared} {H : Heap} {L : Addr} {m : Str → Option Value}
theorem kb_inst {x C dx : Addr} {od : Obj} {sl : Array (Option Value)} (F : Fr H L s.heap m) (h1 : H.get? x = some (⟨.ref C, some dx, .plain, sl⟩ : Obj)) (h2 : H.get? dx = some od) : InstAt s.heap x ⟨.ref C, some dx, .plain, sl⟩ C (some od) :=
  ⟨F.keep _ _ h1, rfl, rfl, F.keep _ _ h2⟩
theorem kb_dict {d : Addr} {o : Obj} {kvs : List (Str × Value)} (F : Fr H L s.heap m) (ho : H.get? d = some o) (hd : o.IsDictOf (strKind prog w) kvs) : s.heap.DictOf (strKind prog w) d kvs := Heap.dictOf_iff.mpr ⟨o, F.keep _ _ ho, hd⟩
theorem kb_item {d : Addr} {o : Obj} {kvs : List (Str × Value)} {k : Str} {t : Tok} {v : Value} {value slice : PySem.Expr} {Q : Value → Shared → Prop} (F : Fr H L s.heap m) (ho : H.get? d = some o) (hd : o.IsDictOf (strKind prog w) kvs) (hl : valueAt kvs k = some v) (h : Q v { s with toks := s.toks + 1 })
    (hs : subscripted slice false (.ref d) (.str k t) = operate [.ref d, .str k t] (getItem (.ref d) (.str k t)) := by with_unfolding_all rfl) :
    wpAny (model prog w) A (subscriptTail value slice (.ref d) (.str k t)) Q E s :=
  have hD := kb_dict F ho hd
  tail_any hD.typeIs slot_dict_getitem.lookup (wpAny_getItem_of (strKind_is _ _ _ _) hD.mapOf hl h) hs
theorem kb_in {d : Addr} {o : Obj} {kvs : List (Str × Value)} {k : Str} {t : Tok} {b : Bool} {Q : Value → Shared → Prop} (F : Fr H L s.heap m) (ho : H.get? d = some o) (hd : o.IsDictOf (strKind prog w) kvs) (lo : (d == sysModules) = false) (hb : (valueAt kvs k).isSome = b) (h : Q (.bool b) { s with toks := s.toks + 1 }) :
    wpAny (model prog w) A (compareOp .In (.str k t) (.ref d)) Q E s := wpAny_in_of (strKind_is _ _ _ _) lo (kb_dict F ho hd).mapOf (by rw [hb]; exact h)
theorem kb_notIn {d : Addr} {o : Obj} {kvs : List (Str × Value)} {k : Str} {t : Tok} {b : Bool} {Q : Value → Shared → Prop} (F : Fr H L s.heap m) (ho : H.get? d = some o) (hd : o.IsDictOf (strKind prog w) kvs) (lo : (d == sysModules) = false) (hb : (valueAt kvs k).isSome = b) (h : Q (.bool (!b)) { s with toks := s.toks + 1 }) :
    wpAny (model prog w) A (compareOp .NotIn (.str k t) (.ref d)) Q E s := wpAny_notIn_of (strKind_is _ _ _ _) lo (kb_dict F ho hd).mapOf (by rw [hb]; exact h)
theorem kb_lst {l : Addr} {vs : List Value} {k : Int} {u : Tok} {v : Value} {value slice : PySem.Expr} {Q : Value → Shared → Prop} (hl : s.heap.IsList l vs.toArray) (h0 : 0 ≤ k) (hhi : k < 2 ^ 63) (hx : vs[k.toNat]? = some v) (h : Q v s)
    (hs : subscripted slice false (.ref l) (.int k u) = operate [.ref l, .int k u] (getItem (.ref l) (.int k u)) := by with_unfolding_all rfl) :
    wpAny (model prog w) A (subscriptTail value slice (.ref l) (.int k u)) Q E s :=
  tail_any hl.typeIs slot_list_getitem.lookup (wpAny_getItem_list hl h0 hhi (by simpa using hx) h) hs
theorem lst_of {h : Heap} {l : Addr} {vs : List Value} {n : Nat} (e : h.get? l = some (listOf vs.toArray n)) : h.IsList l vs.toArray := ⟨_, e, rfl, n, rfl⟩
end

theorem regB3_2 : True := by
  k_with "m k_inst" => (refine' kb_inst ?Fz9 ?h1z9 ?h2z9; (case Fz9 => k_asm); (case h1z9 => assumption); (case h2z9 => assumption))
  k_with "m subscriptTail" => (k_here; (with_reducible show wpAny _ _ (subscriptTail _ _ (Value.ref _) (Value.str _ _)) _ _ _); k_dflt (refine' kb_item ?Fz9 ?oz9 ?dz9 ?lz9 ?_; (case Fz9 => k_asm); (case oz9 => assumption); (case dz9 => assumption); (case lz9 => first | assumption | rfl); k_whole))
  k_with "m compareOp In str ref" => (k_here; k_dflt (refine' kb_in ?Fz9 ?oz9 ?dz9 ?sz9 ?lz9 ?_; (case Fz9 => k_asm); (case oz9 => assumption); (case dz9 => assumption); (case sz9 => assumption); (case lz9 => first | assumption | rfl); k_whole))
  k_with "m compareOp NotIn str ref" => (k_here; k_dflt (refine' kb_notIn ?Fz9 ?oz9 ?dz9 ?sz9 ?lz9 ?_; (case Fz9 => k_asm); (case oz9 => assumption); (case dz9 => assumption); (case sz9 => assumption); (case lz9 => first | assumption | rfl); k_whole))
  k_with "m subscriptTail" => (k_here; (with_reducible show wpAny _ _ (subscriptTail _ _ (Value.ref _) (Value.int _ _)) _ _ _); k_dflt (refine' kb_lst ?lz9 ?az9 ?bz9 ?xz9 ?_; (case lz9 => is_list); (case xz9 => assumption); (case az9 => omega); (case bz9 => omega); k_whole))
  trivial
set_option maxHeartbeats 4000000 in
theorem dims_con (w : World) (v kv iv av dv k2 dl a2 : Value) (kvs : List (Str × Value)) (hl : valueAt kvs (Str.ofString "dim") = some dv) (hdl : handedIn dl = true) :
    Con w 2 124 [v] (fun h => VecIs w (hAt h) v kv iv av ∧ DicIs w (hAt h) av kvs ∧ VecIs w (hAt h) dv k2 dl a2) (fun r nx => r = dl ∧ nx = []) := by
  have hb : (valueAt kvs (Str.ofString "dim")).isSome = true := by rw [hl]; rfl
  refine Con.ofP (binds := [(Str.ofString "v", v)]) (by k_is) (by k_is) (fun s => BindsTo.of_eq rfl) (locs rfl) rfl rfl rfl (by decide) ?_
  intro loose mean mg mb dp un gd outer A₀ base H h₁ L' s Q B F X N T hd hu hp hs hret
  subst hs
  obtain ⟨⟨x, dx, t1, t2, t3, t4, t5, rfl, q1, q2⟩, ⟨ad, o, rfl, q3, q4, q5⟩, ⟨y, dy, u1, u2, u3, u4, u5, rfl, q6, q7⟩⟩ := hp
  dsimp only [hAt] at q1 q2 q3 q6 q7
  k_steps
  exact hret _ [] _ _ _ (by assumption) (by assumption) ⟨rfl, rfl⟩

set_option maxHeartbeats 4000000 in
theorem dims_none (w : World) (v kv iv : Value) : Con w 2 124 [v] (fun h => VecIs w (hAt h) v kv iv .none) (fun r nx => r = .none ∧ nx = []) := by
  refine Con.ofP (binds := [(Str.ofString "v", v)]) (by k_is) (by k_is) (fun s => BindsTo.of_eq rfl) (locs rfl) rfl rfl rfl (by decide) ?_
  intro loose mean mg mb dp un gd outer A₀ base H h₁ L' s Q B F X N T hd hu hp hs hret
  subst hs
  obtain ⟨x, dx, t1, t2, t3, t4, t5, rfl, q1, q2⟩ := hp
  dsimp only [hAt] at q1 q2
  k_steps
  exact hret _ [] _ _ _ (by assumption) (by assumption) ⟨rfl, rfl⟩

set_option maxHeartbeats 4000000 in
theorem dims_none' (w : World) (v kv iv av : Value) (kvs : List (Str × Value)) (hl : valueAt kvs (Str.ofString "dim") = none) : Con w 2 124 [v] (fun h => VecIs w (hAt h) v kv iv av ∧ DicIs w (hAt h) av kvs) (fun r nx => r = .none ∧ nx = []) := by
  have hb : (valueAt kvs (Str.ofString "dim")).isSome = false := by rw [hl]; rfl
  refine Con.ofP (binds := [(Str.ofString "v", v)]) (by k_is) (by k_is) (fun s => BindsTo.of_eq rfl) (locs rfl) rfl rfl rfl (by decide) ?_
  intro loose mean mg mb dp un gd outer A₀ base H h₁ L' s Q B F X N T hd hu hp hs hret
  subst hs
  obtain ⟨⟨x, dx, t1, t2, t3, t4, t5, rfl, q1, q2⟩, ⟨ad, o, rfl, q3, q4, q5⟩⟩ := hp
  dsimp only [hAt] at q1 q2 q3
  k_steps
  exact hret _ [] _ _ _ (by assumption) (by assumption) ⟨rfl, rfl⟩

-- axis_names(v, axis): no 'dimnames' | the axis' names
set_option maxHeartbeats 4000000 in
theorem axis_none (w : World) (v kv iv av ax : Value) (kvs : List (Str × Value)) (hl : valueAt kvs (Str.ofString "dimnames") = none) : Con w 2 131 [v, ax] (fun h => VecIs w (hAt h) v kv iv av ∧ DicIs w (hAt h) av kvs) (fun r nx => r = .none ∧ nx = []) := by
  have hb : (valueAt kvs (Str.ofString "dimnames")).isSome = false := by rw [hl]; rfl
  refine Con.ofP (binds := [(Str.ofString "v", v), (Str.ofString "axis", ax)]) (by k_is) (by k_is) (fun s => BindsTo.of_eq rfl) (locs rfl) rfl rfl rfl (by decide) ?_
  intro loose mean mg mb dp un gd outer A₀ base H h₁ L' s Q B F X N T hd hu hp hs hret
  subst hs
  obtain ⟨⟨x, dx, t1, t2, t3, t4, t5, rfl, q1, q2⟩, ⟨ad, o, rfl, q3, q4, q5⟩⟩ := hp
  dsimp only [hAt] at q1 q2 q3
  k_steps
  exact hret _ [] _ _ _ (by assumption) (by assumption) ⟨rfl, rfl⟩

set_option maxHeartbeats 4000000 in
theorem axis_some (w : World) (v kv iv av nv k2 nl a2 rk : Value) (k : Int) (u : Tok) (kvs : List (Str × Value)) (vs rs : List Value) (ns : List (Option (List Value)))
    (hl : valueAt kvs (Str.ofString "dimnames") = some nv) (h0 : 0 ≤ k) (h1 : k < 2 ^ 63) (hr : rs[k.toNat]? = some rk) :
    Con w 2 131 [v, .int k u] (fun h => VecIs w (hAt h) v kv iv av ∧ DicIs w (hAt h) av kvs ∧ VecIs w (hAt h) nv k2 nl a2 ∧ LstIs (hAt h) nl vs ∧ NmsAre w (hAt h) vs rs ns)
      (fun r nx => r = rk ∧ nx = []) := by
  have hb : (valueAt kvs (Str.ofString "dimnames")).isSome = true := by rw [hl]; rfl
  refine Con.ofP (binds := [(Str.ofString "v", v), (Str.ofString "axis", .int k u)]) (by k_is) (by k_is) (fun s => BindsTo.of_eq rfl) (locs rfl) rfl rfl rfl (by decide) ?_
  intro loose mean mg mb dp un gd outer A₀ base H h₁ L' s Q B F X N T hd hu hp hs hret
  subst hs
  obtain ⟨⟨x, dx, t1, t2, t3, t4, t5, rfl, q1, q2⟩, ⟨ad, o, rfl, q3, q4, q5⟩, ⟨y, dy, u1, u2, u3, u4, u5, rfl, q6, q7⟩, ⟨l, c, rfl, q8⟩, q9⟩ := hp
  obtain ⟨z, n, hz, hn, hzn⟩ := q9.get hr
  dsimp only [hAt] at q1 q2 q3 q6 q7 q8
  have q8' := lst_of q8
  cases n with
  | none =>
    obtain ⟨rfl, p, dp', p1, p2, p3, rfl, r1, r2⟩ := hzn
    dsimp only [hAt] at r1 r2
    k_steps
    exact hret _ [] _ _ _ (by assumption) (by assumption) ⟨rfl, rfl⟩
  | some nn =>
    obtain ⟨⟨pl, pc, rfl, r3⟩, t0, p, dp', p1, p2, p3, p4, p5, rfl, r1, r2⟩ := hzn
    dsimp only [hAt] at r1 r2
    k_steps
    exact hret _ [] _ _ _ (by assumption) (by assumption) ⟨rfl, rfl⟩
end Mine
end
section
open PySem PySem.W PySem.Calls PySem.Spec PyProof.Rows
theorem Mine.dev4 : (PySem.Challenge.rw_pq1314_01.foot = 6) → Mine.hd.heap_39 = Mine.hd.heap_39 := by
  k_fill
  intro _; rfl
namespace Mine
theorem regB4_1 : True := by
  k_with_none
  k_with "m k_ne" => (refine neN ?_; (try dsimp only); first
    | with_reducible assumption
    | exact Ne.symm (by with_reducible assumption)
    | ((repeat (rename _ ∧ _ => q8z9; rcases q8z9 with ⟨_, _⟩)); first
      | with_reducible assumption
      | exact Ne.symm (by with_reducible assumption)
      | exact Nat.ne_of_gt (by with_reducible assumption)
      | exact Nat.ne_of_lt (by with_reducible assumption)))
  k_with "m k_all" => assumption
  k_with "m k_handed" => assumption
  trivial
section
variable {prog : Program} {w : World} {A : Around} {E : Value → Shared → Prop} {s : Shared} {env : Env} {h₀ : Heap} {x : Str} {body : List Stmt} {Q : Flow → Shared → Prop}
set_option maxHeartbeats 1000000 in
/-- a for over a list of the ground's, whatever its items: an invariant over the turn's number, the names, the ledger -/
theorem loop_base {l : Addr} {vs : List Value} {m₀ : Str → Option Value} {news : List (Addr × Obj)} (J : Nat → (Str → Option Value) → List (Addr × Obj) → Prop)
    (hh : A.handled = none) (hl : h₀.IsList l vs.toArray) (F : Fr h₀ env.locals s.heap m₀) (N : News h₀ env.locals s.heap news) (hj : J 0 m₀ news)
    (turn : ∀ i v m₁ news₁ h tk own, vs[i]? = some v → OwnOff own (news₁.map (·.1)) → J i m₁ news₁ → Fr h₀ env.locals h (fun y => if y = x then some v else m₁ y) → News h₀ env.locals h (news₁ ++ own) →
      wpAny (model prog w) A (execs body env) (InvPostG h₀ env.locals (J (i + 1)) own { s with heap := h, toks := tk } Q) E { s with heap := h, toks := tk })
    (done : ∀ m₁ news₁ h tk, J vs.length m₁ news₁ → Fr h₀ env.locals h m₁ → News h₀ env.locals h news₁ → Q .next { s with heap := h, toks := tk }) :
    wpAny (model prog w) A (pyIter (.ref l)) (fun it s₂ => LoopAtV prog w A h₀ env x body Q E it s₂) E s := by
  have hls : s.heap.IsList l vs.toArray := hl.at fun o e => F.keep l o e
  obtain ⟨ol, hol, _⟩ := id hl
  have hlt : l < h₀.objs.size := Heap.lt_size hol
  have hne : l ≠ s.heap.objs.size := Nat.ne_of_lt (Nat.lt_trans (Nat.lt_of_lt_of_le hlt F.above) F.ns.lt)
  refine wpAny_pyIter_list hls ?_
  have W := Walks.list (prog := prog) (w := w) hh s.heap.objs.size l hne vs.toArray
  have hlen : vs.toArray.size = vs.length := by simp
  rw [hlen] at W
  refine ⟨_, _, _, vs.length, _, _, m₀, news, J, rfl, W, ?_, ?_, ?_, ⟨⟨_, Heap.get?_push_size _ rfl, rfl, rfl⟩, hls.at fun o e => Heap.get?_push_of_some _ e⟩, F.push _, (fun p hp => ⟨Heap.get?_push_of_some _ (N p hp).1, (N p hp).2⟩), hj, ?_, ?_⟩
  · intro hm
    rcases List.mem_cons.mp hm with e | hm
    · exact absurd F.ns.lt (e ▸ Nat.lt_irrefl _)
    · exact absurd (Nat.lt_of_lt_of_le hlt F.above) ((List.mem_singleton.mp hm) ▸ Nat.lt_irrefl _)
  · intro b hb
    rw [List.mem_singleton.mp hb]
    exact next_is_new F
  · intro p hp hI
    exact absurd (Heap.lt_size (N p hp).1) ((List.mem_singleton.mp hI) ▸ Nat.lt_irrefl _)
  · rintro i v m₁ news₁ s₁ own ⟨hh', tk', rfl⟩ hin hP hJ hoff hown _ hfp hst F₁ N₁
    have hI0 : h₀.get? s.heap.objs.size = none := next_is_new F
    obtain ⟨⟨oI, hoI, _⟩, _⟩ := id hst
    have hIown : (s.heap.objs.size, oI) ∈ own := hfp _ (List.mem_cons.mpr (.inl rfl)) hI0 _ hoI
    have hsep : OwnOff own (news₁.map (·.1)) := by
      intro p hp b hb e
      obtain ⟨q, hq, rfl⟩ := List.mem_map.mp hb
      rcases List.mem_cons.mp (hown p hp) with h1 | h1
      · exact hoff q hq (List.mem_singleton.mpr (e ▸ h1))
      · have h2 := List.mem_singleton.mp h1
        have h3 := (N₁ q (List.mem_append.mpr (.inr hq))).2.2
        rw [← e, h2, hol] at h3
        cases h3
    have hv : vs[i]? = some v := by simpa using hP
    have N₂ : News h₀ env.locals hh' (news₁ ++ own) := fun p hp => N₁ p ((List.mem_append.mp hp).elim (fun h => List.mem_append.mpr (.inr h)) fun h => List.mem_append.mpr (.inl h))
    refine wpAny_mono (turn i v m₁ news₁ hh' tk' own hv hsep hJ F₁ N₂) (fun f s₂ p => ?_) fun _ _ e => e
    have fin : InvEndG h₀ env.locals (J (i + 1)) own { s with heap := hh', toks := tk' } s₂ → LoopStepU h₀ env.locals [s.heap.objs.size] own (J (i + 1)) { s with heap := hh', toks := tk' } .next s₂ := by
      rintro ⟨h', tk, m', news', nx, e, F', N', hn, ho, ha, hm⟩
      refine ⟨rfl, h', tk, m', nx, e, F', fun p hp => N' p ((List.mem_append.mp hp).elim (ho p) (hn p)), fun p hp hq => ?_, hm⟩
      exact ha _ hIown p.1 (List.mem_map.mpr ⟨p, hp, rfl⟩) (List.mem_singleton.mp hq).symm
    cases f with
    | ret v => exact .ret p
    | brk => exact .brk p
    | next => exact .next (fin p)
    | cont => exact .cont (fin p)
  · rintro h' tk m' news' F' N' _ hJ
    exact done m' news' h' tk hJ F' N'

set_option maxHeartbeats 1000000 in
/-- a for over range(n) -/
theorem loop_range {r : Addr} {b₀ : Int} {t₀ u₀ v₀ : Tok} {n : Nat} {m₀ : Str → Option Value} {news : List (Addr × Obj)} (J : Nat → (Str → Option Value) → List (Addr × Obj) → Prop)
    (hh : A.handled = none) (hr : IsRange s.heap r 0 b₀ 1 t₀ u₀ v₀) (hb : b₀ = (n : Int)) (hsm : Builtin.Range.small 0 b₀ 1 = true) (F : Fr h₀ env.locals s.heap m₀) (N : News h₀ env.locals s.heap news) (hj : J 0 m₀ news)
    (turn : ∀ i (t : Tok) m₁ news₁ h tk own, i < n → OwnOff own (news₁.map (·.1)) → J i m₁ news₁ → Fr h₀ env.locals h (fun y => if y = x then some (.int (i : Int) t) else m₁ y) → News h₀ env.locals h (news₁ ++ own) →
      wpAny (model prog w) A (execs body env) (InvPostG h₀ env.locals (J (i + 1)) own { s with heap := h, toks := tk } Q) E { s with heap := h, toks := tk })
    (done : ∀ m₁ news₁ h tk, J n m₁ news₁ → Fr h₀ env.locals h m₁ → News h₀ env.locals h news₁ → Q .next { s with heap := h, toks := tk }) :
    wpAny (model prog w) A (pyIter (.ref r)) (fun it s₂ => LoopAtV prog w A h₀ env x body Q E it s₂) E s := by
  subst hb
  have hsz : Builtin.Range.rangeSize 0 (n : Int) 1 = (n : Int) := by
    unfold Builtin.Range.rangeSize
    by_cases h : (0 : Int) < n
    · rw [if_pos (by decide), if_pos h]; omega
    · rw [if_pos (by decide), if_neg h]; omega
  refine wpAny_pyIter_range hr hsm ?_
  have W : Walks prog w A s.heap.objs.size [s.heap.objs.size] [s.heap.objs.size] n (fun i v => i < n ∧ ∃ t, v = .int (0 + i * 1) t)
      (fun i h => IsRangeIter h s.heap.objs.size (0 + (i : Nat) * 1) ((n : Int) - (i : Nat)) 1) := (Walks.range hh _ 0 1 n).bound
  refine kdr_loop J W (fun _ h => h) (fun _ h => h) ?_ ?_ ?_ ?_ (by show IsRangeIter _ _ _ _ _; rw [hsz]; simpa using Heap.get?_push_size _ rfl) (F.push _) (fun p hp => ⟨Heap.get?_push_of_some _ (N p hp).1, (N p hp).2⟩) hj ?_ ?_
  · intro i h hi b hb
    rw [List.mem_singleton.mp hb]
    exact ⟨_, hi⟩
  · intro hm
    exact absurd F.ns.lt ((List.mem_singleton.mp hm) ▸ Nat.lt_irrefl _)
  · intro b hb
    rw [List.mem_singleton.mp hb]
    exact next_is_new F
  · intro p hp hI
    exact absurd (Heap.lt_size (N p hp).1) ((List.mem_singleton.mp hI) ▸ Nat.lt_irrefl _)
  · rintro i v m₁ nx h tk own hi ⟨_, t, rfl⟩ hoff hJ F₁ N₁
    have e1 : (0 : Int) + (i : Int) * 1 = (i : Int) := by omega
    rw [e1] at F₁
    exact turn i t m₁ nx h tk own hi hoff hJ F₁ N₁
  · rintro m₁ nx h tk hJ F₁ N₁
    exact done m₁ nx h tk hJ F₁ N₁
end
theorem small_of {b : Int} (h0 : 0 ≤ b) (h : b < 4096) : Builtin.Range.small 0 b 1 = true := small_one (by decide) (by decide) (by omega) (by omega)
/-- the names that a loop stores, forgotten -/
theorem frame_eq {m m₀ : Str → Option Value} {st : List Str} (h : ∀ y, st.contains y = false → m y = m₀ y) : m = fun y => if st.contains y then m y else m₀ y := by
  funext y
  cases q : st.contains y with
  | true => simp
  | false => simp only [Bool.false_eq_true, if_false]; exact h y q

section
open PyProof.Rows.LCg PyProof.Rows.LCt
variable {prog : Program} {w : World} {A : Around} {s : Shared} {h₀ : Heap} {L : Addr} {m : Str → Option Value} {env : Env} {ct elt : PySem.Expr} {x : Str} {scope : Scope} {cl : List (Str × Addr)} {S : List (Addr × Obj) → Prop} {P : Nat → Value → Prop} {Fin : List Value → List (Addr × Obj) → Prop}
theorem compEnd_mono {s₁ s₂ : Shared} {I C D : Addr} {oI oC oD : Obj} {R R' : Value → List (Addr × Obj) → Prop} {y : Value} (k : ∀ y nw, R y nw → R' y nw) (h : CompEnd h₀ L m s₁ I oI C oC D oD S R y s₂) : CompEnd h₀ L m s₁ I oI C oC D oD S R' y s₂ := by
  obtain ⟨h', tk, news', e, F, N, o, hS, r⟩ := h
  exact ⟨h', tk, news', e, F, N, o, hS, k _ _ r⟩
/-- the turns of a comprehension, by an invariant -/
theorem rest_ind (n : Nat) (J : Nat → List Value → List (Addr × Obj) → Prop)
    (step : ∀ i ys news v I oI C oC D m₂ h tk (E' : Value → Shared → Prop), i < n → J i ys news → P i v → NsObj oC m₂ → m₂ x = some v → Fr h₀ L h m → News h₀ L h ((I, oI) :: (C, oC) :: (D, lst ys) :: news) → Off3 I C D news → ((@Ne Nat I C) ∧ (@Ne Nat I D) ∧ (@Ne Nat C D)) →
      wpAny (model prog w) A (eval elt (compEnvC scope cl C env)) (CompEnd h₀ L m { s with heap := h, toks := tk } I oI C oC D (lst ys) S (fun y news' => J (i + 1) (ys ++ [y]) news')) E' { s with heap := h, toks := tk })
    (fin : ∀ ys news, J n ys news → Fin ys news) : ∀ k i ys news, i + k = n → J i ys news → CompRest prog w A h₀ L m env elt x scope cl s S P Fin k i ys news := by
  intro k
  induction k with
  | zero => intro i ys news e hJ; rw [Nat.add_zero] at e; subst e; exact fin _ _ hJ
  | succ k ih =>
    intro i ys news e hJ v I oI C oC D m₂ h tk E' hP hC hx F N o ne
    exact wpAny_mono (step i ys news v I oI C oC D m₂ h tk E' (by omega) hJ hP hC hx F N o ne) (fun y s₂ q => compEnd_mono (fun y nw r => ih (i + 1) _ nw (by omega) r) q) fun _ _ q => q
/-- and with one test -/
theorem restT_ind (n : Nat) (J : Nat → List Value → List (Addr × Obj) → Prop)
    (step : ∀ i ys news v I oI C oC D m₂ h tk (E' : Value → Shared → Prop), i < n → J i ys news → P i v → NsObj oC m₂ → m₂ x = some v → Fr h₀ L h m → News h₀ L h ((I, oI) :: (C, oC) :: (D, lst ys) :: news) → Off3 I C D news → ((@Ne Nat I C) ∧ (@Ne Nat I D) ∧ (@Ne Nat C D)) →
      wpAny (model prog w) A (isTrue ct (compEnvC scope cl C env) (eval ct (compEnvC scope cl C env))) (fun ok s' => if ok = true then
        wpAny (model prog w) A (eval elt (compEnvC scope cl C env)) (CompEnd h₀ L m { s with heap := h, toks := tk } I oI C oC D (lst ys) S (fun y news' => J (i + 1) (ys ++ [y]) news')) E' s'
        else CompEnd h₀ L m { s with heap := h, toks := tk } I oI C oC D (lst ys) S (fun _ news' => J (i + 1) ys news') Value.none s') E' { s with heap := h, toks := tk })
    (fin : ∀ ys news, J n ys news → Fin ys news) : ∀ k i ys news, i + k = n → J i ys news → CompRestT prog w A h₀ L m env ct elt x scope cl s S P Fin k i ys news := by
  intro k
  induction k with
  | zero => intro i ys news e hJ; rw [Nat.add_zero] at e; subst e; exact fin _ _ hJ
  | succ k ih =>
    intro i ys news e hJ v I oI C oC D m₂ h tk E' hP hC hx F N o ne
    refine wpAny_mono (step i ys news v I oI C oC D m₂ h tk E' (by omega) hJ hP hC hx F N o ne) (fun ok s₂ q => ?_) fun _ _ q => q
    cases ok with
    | true =>
      simp only [if_true] at q ⊢
      exact wpAny_mono q (fun y s₃ q => compEnd_mono (fun y nw r => ih (i + 1) _ nw (by omega) r) q) fun _ _ q => q
    | false =>
      simp only [Bool.false_eq_true, if_false] at q ⊢
      exact compEnd_mono (fun y nw r => ih (i + 1) _ nw (by omega) r) q
end


theorem news_head {h₀ h : Heap} {L d : Addr} {o : Obj} {r : List (Addr × Obj)} (N : News h₀ L h ((d, o) :: r)) : ∃ d' : Addr, d' = d ∧ News h₀ L h ((d', o) :: r) := ⟨d, rfl, N⟩
theorem news_two {h₀ h : Heap} {L d1 d2 : Addr} {o1 o2 : Obj} {r : List (Addr × Obj)} (N : News h₀ L h ((d1, o1) :: (d2, o2) :: r)) : ∃ a b : Obj, a = o1 ∧ b = o2 ∧ News h₀ L h ((d1, a) :: (d2, b) :: r) := ⟨_, _, rfl, rfl, N⟩
theorem news_name {h₀ h : Heap} {L d1 d2 : Addr} {o1 o2 : Obj} {r : List (Addr × Obj)} (N : News h₀ L h ((d1, o1) :: (d2, o2) :: r)) : ∃ a b : Addr, a = d1 ∧ b = d2 ∧ News h₀ L h ((a, o1) :: (b, o2) :: r) := ⟨_, _, rfl, rfl, N⟩
theorem news_sub {h₀ h : Heap} {L : Addr} {l l' : List (Addr × Obj)} (N : News h₀ L h l) (hs : ∀ p ∈ l', p ∈ l) : News h₀ L h l' := fun p hp => N p (hs p hp)
theorem lookup_if (y k : Str) (v : Value) (l : List (Str × Value)) : (if y = k then some v else List.lookup y l) = List.lookup y ((k, v) :: l) := by
  rw [List.lookup_cons]
  by_cases h : y = k
  · subst h; simp
  · rw [if_neg h]
    have : (y == k) = false := by simpa using h
    rw [this]
theorem own_cons {own tl : List (Addr × Obj)} {d : Addr} {o : Obj} (h : OwnOff own (((d, o) :: tl).map (·.1))) (k : ∀ p ∈ tl, p.1 ≠ d) : ∀ p ∈ tl ++ own, p.1 ≠ d := fun p hp =>
  (List.mem_append.mp hp).elim (k p) fun hp => h p hp d (List.mem_map.mpr ⟨_, .head _, rfl⟩)

theorem inv_close {h₀ h' : Heap} {L li : Addr} {m' : Str → Option Value} {J : (Str → Option Value) → List (Addr × Obj) → Prop} {o o' : Obj} {nw tl own : List (Addr × Obj)} {s₁ : Shared} {tk : Nat} (F : Fr h₀ L h' m') (N : News h₀ L h' (nw ++ (li, o') :: (tl ++ own)))
    (hoff : OwnOff own (((li, o) :: tl).map (·.1))) (hne : ∀ q ∈ (li, o) :: (tl ++ own), ∀ p ∈ nw, @Ne Nat q.1 p.1) (hj : J m' ((li, o') :: (nw ++ tl))) : InvEndG h₀ L J own s₁ { s₁ with heap := h', toks := tk } := by
  refine InvEndG.intro F N hj ?_ ?_ ?_
  · intro p hp b hb
    simp only [List.map_cons, List.map_append, List.mem_cons, List.mem_append] at hb
    rcases hb with rfl | hb | hb
    · exact hoff p hp _ (.head _)
    · obtain ⟨q, hq, rfl⟩ := List.mem_map.mp hb
      exact hne p (.tail _ (List.mem_append.mpr (.inr hp))) q hq
    · exact hoff p hp _ (.tail _ hb)
  · intro p hp
    rcases List.mem_cons.mp hp with rfl | hp
    · exact List.mem_append.mpr (.inr (.head _))
    · rcases List.mem_append.mp hp with hp | hp
      · exact List.mem_append.mpr (.inl hp)
      · exact List.mem_append.mpr (.inr (.tail _ (List.mem_append.mpr (.inl hp))))
  · exact fun p hp => List.mem_append.mpr (.inr (.tail _ (List.mem_append.mpr (.inr hp))))
theorem inv_same {h₀ h' : Heap} {L : Addr} {m' : Str → Option Value} {J : (Str → Option Value) → List (Addr × Obj) → Prop} {nx own : List (Addr × Obj)} {s₁ : Shared} {tk : Nat} (F : Fr h₀ L h' m') (N : News h₀ L h' (nx ++ own))
    (hoff : OwnOff own (nx.map (·.1))) (hj : J m' nx) : InvEndG h₀ L J own s₁ { s₁ with heap := h', toks := tk } :=
  InvEndG.intro F N hj hoff (fun _ hp => List.mem_append.mpr (.inl hp)) fun _ hp => List.mem_append.mpr (.inr hp)
theorem frame_eq3 {m m₀ : Str → Option Value} {a b : Str} {v u : Value} {st : List Str} (h1 : m a = some v) (h2 : m b = some u) (h : ∀ y, (a :: b :: st).contains y = false → m y = m₀ y) : m = fun y => if y = a then some v else if y = b then some u else if st.contains y then m y else m₀ y := by
  funext y
  by_cases q : y = a
  · rw [if_pos q, q]; exact h1
  · rw [if_neg q]
    by_cases q2 : y = b
    · rw [if_pos q2, q2]; exact h2
    · rw [if_neg q2]
      cases r : st.contains y with
      | true => simp
      | false => simp only [Bool.false_eq_true, if_false]; exact h y (by simp only [List.contains_cons, r, Bool.or_false]; simp [q, q2])
theorem inv_off {li : Addr} {o : Obj} {nw tl own : List (Addr × Obj)} (htl : ∀ p ∈ tl, p.1 ≠ li) (hne : ∀ q ∈ (li, o) :: (tl ++ own), ∀ p ∈ nw, @Ne Nat q.1 p.1) : ∀ p ∈ nw ++ tl, p.1 ≠ li := fun p hp =>
  (List.mem_append.mp hp).elim (fun hp => Ne.symm (hne _ (.head _) p hp)) (htl p)
theorem NmsAre.snoc {w : World} {At : Addr → Obj → Prop} {vs rs : List Value} {ns : List (Option (List Value))} (h : NmsAre w At vs rs ns) {v r : Value} {n : Option (List Value)} (a : NmIs w At v r n) : NmsAre w At (vs ++ [v]) (rs ++ [r]) (ns ++ [n]) := by
  induction h with
  | nil => exact .cons a .nil
  | cons b _ ih => exact .cons b ih
theorem kb_ldn {M : Model} {A : Around} {E : Value → Shared → Prop} {s : Shared} {h₀ : Heap} {L a : Addr} {m : Str → Option Value} {cn : Str} {cs : Scope} {ccd : Value} {cl : List (Str × Addr)} {x : Str} {v : Value} {Q : Value → Shared → Prop} (F : Fr h₀ L s.heap m) (hv : m x = some v) (h : Q v s)
    (hk : cs.kind = .function) (hx : (envX cn cs L a ccd cl).kindOf x = some .local) : wpAny M A (loadName (envX cn cs L a ccd cl) x) Q E s := wpAny_loadName_local hk hx F.ns hv h
structure Halt (P : Prop) : Prop where
  out : P
structure Hold (P : Prop) : Prop where
  out : P
theorem kb_len {prog : Program} {w : World} {A : Around} {E : Value → Shared → Prop} {s : Shared} {l : Addr} {vs : List Value} {Q : Value → Shared → Prop} (hl : s.heap.IsList l vs.toArray) (hz : vs.length ≤ 4096)
    (h : Q (.int (vs.length : Int) (s.toks + 1)) { s with toks := s.toks + 1 + 1 }) : wpAny (model prog w) A (call (.builtin "len") [.ref l]) Q E s :=
  len_list hl (by rw [List.size_toArray]; omega) (by rw [List.size_toArray]; exact h)
theorem kb_append {prog : Program} {w : World} {A : Around} {E : Value → Shared → Prop} {s : Shared} {h₀ : Heap} {L D : Addr} {m : Str → Option Value} {news news' : List (Addr × Obj)} {vs : List Value} {n : Nat} {x : Value} {Q : Value → Shared → Prop} (F : Fr h₀ L s.heap m) (N : News h₀ L s.heap news)
    (U : Upd D (listOf vs.toArray n) (listOf (vs ++ [x]).toArray (n + 1)) news news') (hz : vs.length ≤ 4096) (h : ∀ h', Fr h₀ L h' m → News h₀ L h' news' → Q .none { s with heap := h' }) :
    wpAny (model prog w) A (call (.builtin "list.append") [.ref D, x]) Q E s :=
  append_K F N (by rw [List.push_toArray]; exact U) h (by rw [List.size_toArray, sizeLine_eq]; omega)
structure AllIn (ns : List Int) : Prop where
  out : ∀ k : Int, 0 ≤ k → k < (ns.length : Int) → k ∈ ns
theorem ints_in {prog : Program} {w : World} {A : Around} {E : Value → Shared → Prop} {s : Shared} {l : Addr} {vs : List Value} {ns : List Int} {k : Int} {t : Tok} {Q : Value → Shared → Prop} (hl : s.heap.IsList l vs.toArray) (hi : IntsAre vs ns) (hk : k ∈ ns) (h : Q (.bool false) s) :
    wpAny (model prog w) A (compareOp .NotIn (.int k t) (.ref l)) Q E s :=
  notin_list_ints hl hi (by rw [show ns.any (· == k) = true from List.any_eq_true.mpr ⟨k, hk, by simp⟩]; exact h)

theorem RowsAre.at {At : Addr → Obj → Prop} {rs : List Value} {ns : List (Option (List Value))} (h : RowsAre At rs ns) {k : Nat} {r : Value} (e : rs[k]? = some r) : ∃ n, ns[k]? = some n ∧ RowIs At r n := by
  have hk : k < ns.length := by rw [← h.len]; exact (List.getElem?_eq_some_iff.mp e).1
  obtain ⟨r', e', q⟩ := h.get (List.getElem?_eq_getElem hk)
  rw [e] at e'; cases e'
  exact ⟨_, List.getElem?_eq_getElem hk, q⟩
theorem take_snoc {α : Type} {l : List α} {i : Nat} {v : α} (h : l[i]? = some v) : l.take (i + 1) = l.take i ++ [v] := by simp [List.take_add_one, h]
end Mine
end
section
open PySem PySem.W PySem.Calls PySem.Spec PyProof.Rows
theorem Mine.dev5 : (PySem.Challenge.rw_pq1314_01.foot = 6) → Mine.hd.heap_39 = Mine.hd.heap_39 := by
  k_fill
  intro _; rfl
namespace Mine
theorem regB5_1 : True := by
  k_with_none
  k_with "m k_ne" => (refine neN ?_; (try dsimp only); first
    | with_reducible assumption
    | exact Ne.symm (by with_reducible assumption)
    | ((repeat (rename _ ∧ _ => q8z9; rcases q8z9 with ⟨_, _⟩)); first
      | with_reducible assumption
      | exact Ne.symm (by with_reducible assumption)
      | exact Nat.ne_of_gt (by with_reducible assumption)
      | exact Nat.ne_of_lt (by with_reducible assumption)))
  k_with "m k_all" => assumption
  k_with "m k_handed" => assumption
  k_with "m call ref" => (k_here; (with_reducible show wpAny _ _ (call (Value.ref 99) [_, _]) _ _ _); k_dflt (refine' vec_con _ _ _ ?hkz9 ?hiz9 _ _ _ _ _ _ _ _ _ _ _ _ _ _ _ _ _ _ _ _ _ _ ?Bz9 ?Fz9 ?Xz9 ?Nz9 ?Tz9 ?ckz9 ?hdz9 ?huz9 ?hpz9 ?_; (case Bz9 => k_asm); (case Fz9 => k_asm); (case Xz9 => k_asm); (case Nz9 => k_asm); (case Tz9 => k_asm); (case hpz9 => exact True.intro); (case hkz9 => k_handed); (case hiz9 => k_handed); (case ckz9 => first | rfl | assumption); (case hdz9 => omega); (case huz9 => omega); k_whole); intro r'9 nx'9 h'9 tk'9 F'9 N'9 ne'9 P'9; obtain ⟨x'9, d'9, t1'9, t2'9, t3'9, t4'9, t5'9, hr'9, hx'9, hn'9⟩ := P'9; subst hr'9; subst hn'9; replace hx'9 := neN hx'9; (have nr'9 := Apart.mk ne'9); (try simp only [List.cons_append, List.nil_append] at N'9); (try simp only [List.forall_mem_cons, List.not_mem_nil, false_implies, implies_true, and_true] at ne'9); (try k_sweep))
  k_with "m call ref" => (k_here; (with_reducible show wpAny _ _ (call (Value.ref 70) _) _ _ _); k_dflt (refine' null_con _ _ _ _ _ _ _ _ _ _ _ _ _ _ _ _ _ _ _ _ _ _ _ ?Bz9 ?Fz9 ?Xz9 ?Nz9 ?Tz9 ?ckz9 ?hdz9 ?huz9 ?hpz9 ?_; (case Bz9 => k_asm); (case Fz9 => k_asm); (case Xz9 => k_asm); (case Nz9 => k_asm); (case Tz9 => k_asm); (case hpz9 => exact True.intro); (case ckz9 => first | rfl | assumption); (case hdz9 => omega); (case huz9 => omega); k_whole); intro r'9 nx'9 h'9 tk'9 F'9 N'9 ne'9 P'9; obtain ⟨x'9, d'9, t1'9, t2'9, t3'9, hr'9, hx'9, hn'9⟩ := P'9; subst hr'9; subst hn'9; replace hx'9 := neN hx'9; (have nr'9 := Apart.mk ne'9); (try simp only [List.cons_append, List.nil_append] at N'9); (try simp only [List.forall_mem_cons, List.not_mem_nil, false_implies, implies_true, and_true] at ne'9); (try k_sweep))
  k_with "m k_inst" => (refine' kb_inst ?Fz9 ?h1z9 ?h2z9; (case Fz9 => k_asm); (case h1z9 => assumption); (case h2z9 => assumption))
  k_with "m subscriptTail" => (k_here; (with_reducible show wpAny _ _ (subscriptTail _ _ (Value.ref _) (Value.str _ _)) _ _ _); k_dflt (refine' kb_item ?Fz9 ?oz9 ?dz9 ?lz9 ?_; (case Fz9 => k_asm); (case oz9 => assumption); (case dz9 => assumption); (case lz9 => first | assumption | rfl); k_whole))
  k_with "m compareOp In str ref" => (k_here; k_dflt (refine' kb_in ?Fz9 ?oz9 ?dz9 ?sz9 ?lz9 ?_; (case Fz9 => k_asm); (case oz9 => assumption); (case dz9 => assumption); (case sz9 => assumption); (case lz9 => first | assumption | rfl); k_whole))
  k_with "m compareOp NotIn str ref" => (k_here; k_dflt (refine' kb_notIn ?Fz9 ?oz9 ?dz9 ?sz9 ?lz9 ?_; (case Fz9 => k_asm); (case oz9 => assumption); (case dz9 => assumption); (case sz9 => assumption); (case lz9 => first | assumption | rfl); k_whole))
  k_with "m subscriptTail" => (k_here; (with_reducible show wpAny _ _ (subscriptTail _ _ (Value.ref _) (Value.int _ _)) _ _ _); k_dflt (refine' kb_lst ?lz9 ?az9 ?bz9 ?xz9 ?_; (case lz9 => is_list); (case xz9 => first | with_reducible assumption | assumption); (case az9 => omega); (case bz9 => omega); k_whole))
  trivial
set_option maxHeartbeats 4000000 in
theorem integer_con (w : World) (l : Addr) (vs : List Value) (hz : vs.length ≤ 4096) : Con w 6 110 [.ref l] (fun h => h.IsList l vs.toArray)
    (fun r nx => ∃ x dx l' n t0 t1 t2 t3 t4 t5, r = .ref x ∧ @Ne Nat x dx ∧ @Ne Nat l' x ∧ @Ne Nat l' dx ∧ nx = [(x, instObj 99 dx), (dx, vecD w t1 t2 t3 t4 t5 (.str (Str.ofString "integer") t0) (.ref l') .none), (l', listOf vs.toArray n)]) := by
  refine Con.ofP (binds := [(Str.ofString "items", .ref l)]) (by k_is) (by k_is) (fun s => BindsTo.of_eq rfl) (locs rfl) rfl rfl rfl (by decide) ?_
  intro loose mean mg mb dp un gd outer A₀ base H h₁ L' s Q B F X N T hd hu hp hs hret
  subst hs
  have hz' : vs.toArray.size ≤ sizeLine := by rw [List.size_toArray, sizeLine_eq]; omega
  k_steps
  (rename _ ∧ _ => ne1); (rename @Ne Nat _ _ => ne2)
  exact hret _ [_, _, _] _ _ _ (by assumption) (by assumption) ⟨_, _, _, _, _, _, _, _, _, _, rfl, ne2, ne1.1, ne1.2, rfl⟩
set_option maxHeartbeats 4000000 in
theorem character_con (w : World) (l : Addr) (vs : List Value) (hz : vs.length ≤ 4096) : Con w 6 117 [.ref l] (fun h => h.IsList l vs.toArray)
    (fun r nx => ∃ x dx l' n t0 t1 t2 t3 t4 t5, r = .ref x ∧ @Ne Nat x dx ∧ @Ne Nat l' x ∧ @Ne Nat l' dx ∧ nx = [(x, instObj 99 dx), (dx, vecD w t1 t2 t3 t4 t5 (.str (Str.ofString "character") t0) (.ref l') .none), (l', listOf vs.toArray n)]) := by
  refine Con.ofP (binds := [(Str.ofString "items", .ref l)]) (by k_is) (by k_is) (fun s => BindsTo.of_eq rfl) (locs rfl) rfl rfl rfl (by decide) ?_
  intro loose mean mg mb dp un gd outer A₀ base H h₁ L' s Q B F X N T hd hu hp hs hret
  subst hs
  have hz' : vs.toArray.size ≤ sizeLine := by rw [List.size_toArray, sizeLine_eq]; omega
  k_steps
  (rename _ ∧ _ => ne1); (rename @Ne Nat _ _ => ne2)
  exact hret _ [_, _, _] _ _ _ (by assumption) (by assumption) ⟨_, _, _, _, _, _, _, _, _, _, rfl, ne2, ne1.1, ne1.2, rfl⟩

-- plain_names(v)
set_option maxHeartbeats 4000000 in
theorem plain_none (w : World) (v kv iv : Value) : Con w 2 138 [v] (fun h => VecIs w (hAt h) v kv iv .none) (fun r nx => r = .none ∧ nx = []) := by
  refine Con.ofP (binds := [(Str.ofString "v", v)]) (by k_is) (by k_is) (fun s => BindsTo.of_eq rfl) (locs rfl) rfl rfl rfl (by decide) ?_
  intro loose mean mg mb dp un gd outer A₀ base H h₁ L' s Q B F X N T hd hu hp hs hret
  subst hs
  obtain ⟨x, dx, t1, t2, t3, t4, t5, rfl, q1, q2⟩ := hp
  dsimp only [hAt] at q1 q2
  k_steps
  exact hret _ [] _ _ _ (by assumption) (by assumption) ⟨rfl, rfl⟩
set_option maxHeartbeats 4000000 in
theorem plain_some (w : World) (v kv iv av nv k2 nl a2 : Value) (kvs : List (Str × Value)) (hl : valueAt kvs (Str.ofString "names") = some nv) (hdl : handedIn nl = true) :
    Con w 2 138 [v] (fun h => VecIs w (hAt h) v kv iv av ∧ DicIs w (hAt h) av kvs ∧ VecIs w (hAt h) nv k2 nl a2) (fun r nx => r = nl ∧ nx = []) := by
  have hb : (valueAt kvs (Str.ofString "names")).isSome = true := by rw [hl]; rfl
  refine Con.ofP (binds := [(Str.ofString "v", v)]) (by k_is) (by k_is) (fun s => BindsTo.of_eq rfl) (locs rfl) rfl rfl rfl (by decide) ?_
  intro loose mean mg mb dp un gd outer A₀ base H h₁ L' s Q B F X N T hd hu hp hs hret
  subst hs
  obtain ⟨⟨x, dx, t1, t2, t3, t4, t5, rfl, q1, q2⟩, ⟨ad, o, rfl, q3, q4, q5⟩, ⟨y, dy, u1, u2, u3, u4, u5, rfl, q6, q7⟩⟩ := hp
  dsimp only [hAt] at q1 q2 q3 q6 q7
  k_steps
  exact hret _ [] _ _ _ (by assumption) (by assumption) ⟨rfl, rfl⟩

end Mine
end
section
open PySem PySem.W PySem.Calls PySem.Spec PyProof.Rows
theorem Mine.dev6 : (PySem.Challenge.rw_pq1314_01.foot = 6) → Mine.hd.heap_39 = Mine.hd.heap_39 := by
  k_fill
  intro _; rfl
namespace Mine
theorem regB6_1 : True := by
  k_with_none
  k_with "m k_ne" => (refine neN ?_; (try dsimp only); first
    | with_reducible assumption
    | exact Ne.symm (by with_reducible assumption)
    | ((repeat (rename _ ∧ _ => q8z9; rcases q8z9 with ⟨_, _⟩)); first
      | with_reducible assumption
      | exact Ne.symm (by with_reducible assumption)
      | exact Nat.ne_of_gt (by with_reducible assumption)
      | exact Nat.ne_of_lt (by with_reducible assumption)))
  k_with "m k_all" => assumption
  k_with "m k_handed" => assumption
  k_with "m call ref" => (k_here; (with_reducible show wpAny _ _ (call (Value.ref 99) [_, _]) _ _ _); k_dflt (refine' vec_con _ _ _ ?hkz9 ?hiz9 _ _ _ _ _ _ _ _ _ _ _ _ _ _ _ _ _ _ _ _ _ _ ?Bz9 ?Fz9 ?Xz9 ?Nz9 ?Tz9 ?ckz9 ?hdz9 ?huz9 ?hpz9 ?_; (case Bz9 => k_asm); (case Fz9 => k_asm); (case Xz9 => k_asm); (case Nz9 => k_asm); (case Tz9 => k_asm); (case hpz9 => exact True.intro); (case hkz9 => k_handed); (case hiz9 => k_handed); (case ckz9 => first | rfl | assumption); (case hdz9 => omega); (case huz9 => omega); k_whole); intro r'9 nx'9 h'9 tk'9 F'9 N'9 ne'9 P'9; obtain ⟨x'9, d'9, t1'9, t2'9, t3'9, t4'9, t5'9, hr'9, hx'9, hn'9⟩ := P'9; subst hr'9; subst hn'9; replace hx'9 := neN hx'9; (have nr'9 := Apart.mk ne'9); (try simp only [List.cons_append, List.nil_append] at N'9); (try simp only [List.forall_mem_cons, List.not_mem_nil, false_implies, implies_true, and_true] at ne'9); (try k_sweep))
  k_with "m call ref" => (k_here; (with_reducible show wpAny _ _ (call (Value.ref 70) _) _ _ _); k_dflt (refine' null_con _ _ _ _ _ _ _ _ _ _ _ _ _ _ _ _ _ _ _ _ _ _ _ ?Bz9 ?Fz9 ?Xz9 ?Nz9 ?Tz9 ?ckz9 ?hdz9 ?huz9 ?hpz9 ?_; (case Bz9 => k_asm); (case Fz9 => k_asm); (case Xz9 => k_asm); (case Nz9 => k_asm); (case Tz9 => k_asm); (case hpz9 => exact True.intro); (case ckz9 => first | rfl | assumption); (case hdz9 => omega); (case huz9 => omega); k_whole); intro r'9 nx'9 h'9 tk'9 F'9 N'9 ne'9 P'9; obtain ⟨x'9, d'9, t1'9, t2'9, t3'9, hr'9, hx'9, hn'9⟩ := P'9; subst hr'9; subst hn'9; replace hx'9 := neN hx'9; (have nr'9 := Apart.mk ne'9); (try simp only [List.cons_append, List.nil_append] at N'9); (try simp only [List.forall_mem_cons, List.not_mem_nil, false_implies, implies_true, and_true] at ne'9); (try k_sweep))
  k_with "m k_inst" => (refine' kb_inst ?Fz9 ?h1z9 ?h2z9; (case Fz9 => k_asm); (case h1z9 => assumption); (case h2z9 => assumption))
  k_with "m subscriptTail" => (k_here; (with_reducible show wpAny _ _ (subscriptTail _ _ (Value.ref _) (Value.str _ _)) _ _ _); k_dflt (refine' kb_item ?Fz9 ?oz9 ?dz9 ?lz9 ?_; (case Fz9 => k_asm); (case oz9 => assumption); (case dz9 => assumption); (case lz9 => first | assumption | rfl); k_whole))
  k_with "m compareOp In str ref" => (k_here; k_dflt (refine' kb_in ?Fz9 ?oz9 ?dz9 ?sz9 ?lz9 ?_; (case Fz9 => k_asm); (case oz9 => assumption); (case dz9 => assumption); (case sz9 => assumption); (case lz9 => first | assumption | rfl); k_whole))
  k_with "m compareOp NotIn str ref" => (k_here; k_dflt (refine' kb_notIn ?Fz9 ?oz9 ?dz9 ?sz9 ?lz9 ?_; (case Fz9 => k_asm); (case oz9 => assumption); (case dz9 => assumption); (case sz9 => assumption); (case lz9 => first | assumption | rfl); k_whole))
  k_with "m subscriptTail" => (k_here; (with_reducible show wpAny _ _ (subscriptTail _ _ (Value.ref _) (Value.int _ _)) _ _ _); k_dflt (refine' kb_lst ?lz9 ?az9 ?bz9 ?xz9 ?_; (case lz9 => is_list); (case xz9 => first | with_reducible assumption | assumption); (case az9 => omega); (case bz9 => omega); k_whole))
  k_with "m eval ListComp" => (k_here; first
  | (lct_look; k_dflt (refine LCt.ListComp_T (F₀ := by k_asm) (by with_unfolding_all rfl) (by decide) (by rfl) (by decide) (by rfl) ?_))
  | ((first | lcg_look | lcf_look); k_dflt (refine LCg.ListComp_U (F₀ := by k_asm) (by with_unfolding_all rfl) (by decide) (by rfl) (by decide) (by rfl) ?_)))
  k_with "m exec Assign cons ListComp" => (k_here; first
  | (lct_look; k_dflt (refine LCt.Assign_ListComp_T (F₀ := by k_asm) (by rfl) (by with_unfolding_all rfl) (by with_unfolding_all rfl) (by decide) (by rfl) (by decide) (by rfl) (by rfl) (by rfl) ?_))
  | ((first | lcg_look | lcf_look); k_dflt (refine LCg.Assign_ListComp_U (F₀ := by k_asm) (by rfl) (by with_unfolding_all rfl) (by with_unfolding_all rfl) (by decide) (by rfl) (by decide) (by rfl) (by rfl) (by rfl) ?_)))
  k_with "m call builtin:len" => (k_here; (with_reducible show wpAny _ _ (call (Value.builtin "len") [Value.ref _]) _ _ _); k_dflt (refine' kb_len ?lz9 ?zz9 ?_; (case lz9 => is_list); (case zz9 => first | assumption | omega); k_whole))
  k_with "m exec For Name Name cons nil" => (k_here; k_dflt (refine' For_invVF ?Fz9 ?k1z9 ?k2z9 ?_; (case Fz9 => k_asm); (case k1z9 => exact rfl); (case k2z9 => exact rfl); k_whole))
  k_with "m exec For Name Call cons nil" => (k_here; k_dflt (refine' For_invVF ?Fz9 ?k1z9 ?k2z9 ?_; (case Fz9 => k_asm); (case k1z9 => exact rfl); (case k2z9 => exact rfl); k_whole))
  k_with "m call builtin:list.append" => (k_here; (with_reducible show wpAny _ _ (call (Value.builtin _) [Value.ref _, _]) _ _ _); k_dflt (refine' kb_append ?k1z9 ?k2z9 ?k3z9 ?zz9 ?_; (case k1z9 => k_asm); (case k2z9 => k_asm); (case k3z9 => k_upd); (case zz9 => first | assumption | omega); k_whole); intro h'9 F'9 N'9; (try k_sweep))
  k_with "m call ref" => (k_here; (with_reducible show wpAny _ _ (call (Value.ref 117) [_]) _ _ _); k_dflt (refine' character_con _ _ _ ?hzz9 _ _ _ _ _ _ _ _ _ _ _ _ _ _ _ _ _ _ _ _ _ _ ?Bz9 ?Fz9 ?Xz9 ?Nz9 ?Tz9 ?ckz9 ?hdz9 ?huz9 ?hpz9 ?_; (case Bz9 => k_asm); (case Fz9 => k_asm); (case Xz9 => k_asm); (case Nz9 => k_asm); (case Tz9 => k_asm); (case hpz9 => is_list); (case hzz9 => first | assumption | exact Nat.le_of_ble_eq_true rfl | omega); (case ckz9 => first | rfl | assumption); (case hdz9 => omega); (case huz9 => omega); k_whole); intro r'9 nx'9 h'9 tk'9 F'9 N'9 ne'9 P'9; obtain ⟨x'9, d'9, l'9, n'9, t0'9, t1'9, t2'9, t3'9, t4'9, t5'9, hr'9, hx'9, hy'9, hz'9, hn'9⟩ := P'9; subst hr'9; subst hn'9; (have nr'9 := Apart.mk ne'9); (try simp only [List.cons_append, List.nil_append] at N'9); (try simp only [List.forall_mem_cons, List.not_mem_nil, false_implies, implies_true, and_true] at ne'9); (try k_sweep))
  trivial
theorem RowsAre.noneAll {At : Addr → Obj → Prop} {rs : List Value} {ns : List (Option (List Value))} (h : RowsAre At rs ns) : (rs.filter (fun v => v != .none)).length = 0 ↔ ns.all (·.isNone) = true := by
  induction h with
  | nil => simp
  | @cons r rs n ns a _ ih =>
    cases n with
    | none => obtain rfl : r = .none := a; simpa using ih
    | some n => obtain ⟨l, c, rfl, _⟩ := a; simp
-- dimnames_list(rows)
set_option maxHeartbeats 4000000 in
theorem dimnames_con (w : World) (l : Addr) (rs : List Value) (ns : List (Option (List Value))) (hz : rs.length ≤ 8) (hns : ∀ l, some l ∈ ns → l.length ≤ 4096) :
    Con w 8 143 [.ref l] (fun h => h.IsList l rs.toArray ∧ RowsAre (hAt h) rs ns) (fun r nx => if ns.all (·.isNone) = true then r = .none else ∃ t nl vs rs', VecIs w (lAt nx) r (.str (Str.ofString "list") t) nl .none ∧ LstIs (lAt nx) nl vs ∧ NmsAre w (lAt nx) vs rs' ns) := by
  refine Con.ofP (binds := [(Str.ofString "rows", .ref l)]) (by k_is) (by k_is) (fun s => BindsTo.of_eq rfl) (locs rfl) rfl rfl rfl (by decide) ?_
  intro loose mean mg mb dp un gd outer A₀ base H h₁ L' s Q B F X N T hd hu hp hs hret
  subst hs
  obtain ⟨hl, hr⟩ := hp
  have hz' : rs.toArray.size ≤ sizeLine := by rw [List.size_toArray, sizeLine_eq]; omega
  k_steps
  refine LCt.CompSrcT.base rfl F N hl hz' ?_
  intro g'
  rw [List.size_toArray]
  refine restT_ind rs.length (fun i ys news => Hold (news = [] ∧ ys = (rs.take i).filter (fun v => v != .none))) ?_ ?_ rs.length 0 [] [] (by omega) ⟨rfl, rfl⟩
  · rintro i ys news v I oI C oC D m₂ h tk E' hi ⟨rfl, rfl⟩ hP hC hx F' N' o ne
    have hv : rs[i]? = some v := by simpa using hP
    obtain ⟨n, hn, hrow⟩ := hr.at hv
    have e1 := take_snoc hv
    clear F N
    cases n with
    | none =>
      obtain rfl : v = .none := hrow
      k_steps
      exact ⟨rfl, by rw [e1]; simp⟩
    | some ns' =>
      obtain ⟨l', c', rfl, hl'⟩ := hrow
      k_steps
      exact ⟨rfl, by rw [e1]; simp⟩
  · rintro ys news ⟨rfl, rfl⟩
    intro D h tk F' N' o1
    clear F N
    rw [List.take_length] at N'
    have hf : (rs.filter (fun v => v != .none)).length ≤ 4096 := by have := List.length_filter_le (fun v => v != Value.none) rs; omega
    k_steps
    · rename_i hc
      refine hret _ [] _ _ _ (by assumption) News.nil ?_
      rw [if_pos (hr.noneAll.mp (by omega))]
    · (rename Fr _ _ _ _ => F); (rename News _ _ _ _ => N)
      obtain ⟨li, hli, N⟩ := news_head N
      subst hli
      simp only [List.reverse_cons, List.reverse_nil, List.nil_append, lookup_if] at F
      have N2 : News H L' _ [(li, listOf ([] : List Value).toArray 0)] := news_sub N (fun p hp => by rw [List.mem_singleton.mp hp]; exact .head _)
      refine loop_base (fun i m₁ nx => Hold (∃ c vs rs' tl, nx = (li, listOf vs.toArray c) :: tl ∧ vs.length = i ∧ (∀ p ∈ tl, p.1 ≠ li) ∧ NmsAre w (lAt tl) vs rs' (ns.take i) ∧ ∀ y, [Str.ofString "names"].contains y = false → m₁ y = List.lookup y [(Str.ofString "items", .ref li), (Str.ofString "rows", .ref l)]))
        rfl hl F N2 ⟨0, [], [], [], rfl, rfl, (fun _ h => nomatch h), by rw [List.take_zero]; exact .nil, fun _ _ => rfl⟩ ?_ ?_
      · rintro i v m₁ nx h tk own hv hoff ⟨c, vs, rs', tl, rfl, hlen, htl, hnm, hm⟩ F' N'
        clear F N
        obtain ⟨n, hn, hrow⟩ := hr.at hv
        have e1 := take_snoc hn
        have hoff' := own_cons hoff htl
        rw [frame_eq hm] at F'
        simp only [List.cons_append] at N'
        have hi : i < rs.length := (List.getElem?_eq_some_iff.mp hv).1
        cases n with
        | none =>
          obtain rfl : v = .none := hrow
          k_steps
          (rename Apart _ _ => ne1); (rename Fr _ _ _ _ => F2); (rename News _ _ _ _ => N2)
          have ne2 := ne1.out
          refine inv_close (nw := [_, _]) F2 N2 hoff ne2 ⟨_, _, ?rs, _, rfl, by simp [hlen], inv_off htl ne2, ?h1, ?h2⟩
          case h1 =>
            rw [e1]
            refine' NmsAre.snoc (hnm.mono ?a) ?b
            case a => exact fun _ _ h => .tail _ (.tail _ h)
            case b => exact ⟨rfl, _, _, _, _, _, rfl, .head _, .tail _ (.head _)⟩
          case h2 =>
            intro y hy
            have h1 : y ≠ Str.ofString "names" := by rintro rfl; exact absurd hy (by decide)
            simp only [if_neg h1, hy, Bool.false_eq_true, if_false]
        | some ns' =>
          obtain ⟨l', c', rfl, hl'⟩ := hrow
          have hl'' := lst_of hl'
          have hz'' := hns _ (List.mem_of_getElem? hn)
          k_steps
          (rename Apart _ _ => ne1); (rename Fr _ _ _ _ => F2); (rename News _ _ _ _ => N2)
          have ne2 := ne1.out
          refine inv_close (nw := [_, _, _]) F2 N2 hoff ne2 ⟨_, _, ?rs2, _, rfl, by simp [hlen], inv_off htl ne2, ?h12, ?h22⟩
          case h12 =>
            rw [e1]
            refine' NmsAre.snoc (hnm.mono ?a2) ?b2
            case a2 => exact fun _ _ h => .tail _ (.tail _ (.tail _ h))
            case b2 => exact ⟨⟨_, _, rfl, .tail _ (.tail _ (.head _))⟩, _, _, _, _, _, _, _, _, rfl, .head _, .tail _ (.head _)⟩
          case h22 =>
            intro y hy
            have h1 : y ≠ Str.ofString "names" := by rintro rfl; exact absurd hy (by decide)
            simp only [if_neg h1, hy, Bool.false_eq_true, if_false]
      · rintro m₁ nx h tk ⟨c, vs, rs', tl, rfl, hlen, htl, hnm, hm⟩ F' N'
        rw [show ns.take rs.length = ns by rw [hr.len, List.take_length]] at hnm
        rw [frame_eq hm] at F'
        clear F N N2
        k_steps
        (rename Fr _ _ _ _ => F2); (rename News _ _ _ _ => N2)
        refine hret _ _ _ _ _ F2 N2 ?_
        rw [if_neg]
        · exact ⟨_, _, _, _, ⟨_, _, _, _, _, _, _, rfl, .head _, .tail _ (.head _)⟩, ⟨_, _, rfl, .tail _ (.tail _ (.head _))⟩, hnm.mono fun _ _ h => .tail _ (.tail _ (.tail _ h))⟩
        · intro hall
          have := hr.noneAll.mpr hall
          (rename ((_ : Int) ≠ _) => hc)
          omega

theorem dimnames_none (w : World) (l : Addr) (rs : List Value) (ns : List (Option (List Value))) (hz : rs.length ≤ 8) (hns : ∀ l, some l ∈ ns → l.length ≤ 4096) (hall : ns.all (·.isNone) = true) :
    Con w 8 143 [.ref l] (fun h => h.IsList l rs.toArray ∧ RowsAre (hAt h) rs ns) (fun r nx => r = .none) := by
  intro loose mean mg mb dp un gd cn cs a ccd cl outer A₀ base h₀ L m news s Q E B F X N T hck hd hu hp hret
  exact dimnames_con w l rs ns hz hns loose mean mg mb dp un gd cn cs a ccd cl outer A₀ base h₀ L m news s Q E B F X N T hck hd hu hp fun r nx h' tk' a b c d => hret r nx h' tk' a b c (by dsimp only at d; rw [if_pos hall] at d; exact d)
theorem dimnames_some (w : World) (l : Addr) (rs : List Value) (ns : List (Option (List Value))) (hz : rs.length ≤ 8) (hns : ∀ l, some l ∈ ns → l.length ≤ 4096) (hall : ¬ ns.all (·.isNone) = true) :
    Con w 8 143 [.ref l] (fun h => h.IsList l rs.toArray ∧ RowsAre (hAt h) rs ns) (fun r nx => ∃ t nl vs rs', VecIs w (lAt nx) r (.str (Str.ofString "list") t) nl .none ∧ LstIs (lAt nx) nl vs ∧ NmsAre w (lAt nx) vs rs' ns) := by
  intro loose mean mg mb dp un gd cn cs a ccd cl outer A₀ base h₀ L m news s Q E B F X N T hck hd hu hp hret
  exact dimnames_con w l rs ns hz hns loose mean mg mb dp un gd cn cs a ccd cl outer A₀ base h₀ L m news s Q E B F X N T hck hd hu hp fun r nx h' tk' a b c d => hret r nx h' tk' a b c (by dsimp only at d; rw [if_neg hall] at d; exact d)
theorem news_swap {h₀ h : Heap} {L : Addr} {l l' : List (Addr × Obj)} (N : News h₀ L h (l ++ l')) : News h₀ L h (l' ++ l) := news_sub N fun p hp => List.mem_append.mpr (List.mem_append.mp hp).symm
theorem news_right {h₀ h : Heap} {L : Addr} {l l' : List (Addr × Obj)} (N : News h₀ L h (l ++ l')) : News h₀ L h l' := news_sub N fun p hp => List.mem_append.mpr (.inr hp)
theorem apart_all {news nx : List (Addr × Obj)} {d : Addr} {o : Obj} (h : Apart news nx) (hm : (d, o) ∈ news) : ∀ p ∈ nx, p.1 ≠ d := fun p hp e => h.out _ hm p hp e.symm
end Mine
end
section
open PySem PySem.W PySem.Calls PySem.Spec PyProof.Rows
theorem Mine.dev7 : (PySem.Challenge.rw_pq1314_01.foot = 6) → Mine.hd.heap_39 = Mine.hd.heap_39 := by
  k_fill
  intro _; rfl
namespace Mine
theorem regB7_1 : True := by
  k_with_none
  k_with "m k_ne" => (refine neN ?_; (try dsimp only); first
    | with_reducible assumption
    | exact Ne.symm (by with_reducible assumption)
    | ((repeat (rename _ ∧ _ => q8z9; rcases q8z9 with ⟨_, _⟩)); first
      | with_reducible assumption
      | exact Ne.symm (by with_reducible assumption)
      | exact Nat.ne_of_gt (by with_reducible assumption)
      | exact Nat.ne_of_lt (by with_reducible assumption)))
  k_with "m k_all" => assumption
  k_with "m k_handed" => assumption
  k_with "m call ref" => (k_here; (with_reducible show wpAny _ _ (call (Value.ref 99) [_, _]) _ _ _); k_dflt (refine' vec_con _ _ _ ?hkz9 ?hiz9 _ _ _ _ _ _ _ _ _ _ _ _ _ _ _ _ _ _ _ _ _ _ ?Bz9 ?Fz9 ?Xz9 ?Nz9 ?Tz9 ?ckz9 ?hdz9 ?huz9 ?hpz9 ?_; (case Bz9 => k_asm); (case Fz9 => k_asm); (case Xz9 => k_asm); (case Nz9 => k_asm); (case Tz9 => k_asm); (case hpz9 => exact True.intro); (case hkz9 => k_handed); (case hiz9 => k_handed); (case ckz9 => first | rfl | assumption); (case hdz9 => omega); (case huz9 => omega); k_whole); intro r'9 nx'9 h'9 tk'9 F'9 N'9 ne'9 P'9; obtain ⟨x'9, d'9, t1'9, t2'9, t3'9, t4'9, t5'9, hr'9, hx'9, hn'9⟩ := P'9; subst hr'9; subst hn'9; replace hx'9 := neN hx'9; (have nr'9 := Apart.mk ne'9); (try simp only [List.cons_append, List.nil_append] at N'9); (try simp only [List.forall_mem_cons, List.not_mem_nil, false_implies, implies_true, and_true] at ne'9); (try k_sweep))
  k_with "m call ref" => (k_here; (with_reducible show wpAny _ _ (call (Value.ref 110) [_]) _ _ _); k_dflt (refine' integer_con _ _ _ ?hzz9 _ _ _ _ _ _ _ _ _ _ _ _ _ _ _ _ _ _ _ _ _ _ ?Bz9 ?Fz9 ?Xz9 ?Nz9 ?Tz9 ?ckz9 ?hdz9 ?huz9 ?hpz9 ?_; (case Bz9 => k_asm); (case Fz9 => k_asm); (case Xz9 => k_asm); (case Nz9 => k_asm); (case Tz9 => k_asm); (case hpz9 => is_list); (case hzz9 => first | assumption | exact Nat.le_of_ble_eq_true rfl | omega); (case ckz9 => first | rfl | assumption); (case hdz9 => omega); (case huz9 => omega); k_whole); intro r'9 nx'9 h'9 tk'9 F'9 N'9 ne'9 P'9; obtain ⟨x'9, d'9, l'9, n'9, t0'9, t1'9, t2'9, t3'9, t4'9, t5'9, hr'9, hx'9, hy'9, hz'9, hn'9⟩ := P'9; subst hr'9; subst hn'9; (have nr'9 := Apart.mk ne'9); (try simp only [List.cons_append, List.nil_append] at N'9); (try simp only [List.forall_mem_cons, List.not_mem_nil, false_implies, implies_true, and_true] at ne'9); (try k_sweep))
  k_with "m call ref" => (k_here; (with_reducible show wpAny _ _ (call (Value.ref 143) [_]) _ _ _); k_dflt (refine' dimnames_none _ _ _ _ ?hzz9 ?hnsz9 ?hallz9 _ _ _ _ _ _ _ _ _ _ _ _ _ _ _ _ _ _ _ _ _ _ ?Bz9 ?Fz9 ?Xz9 ?Nz9 ?Tz9 ?ckz9 ?hdz9 ?huz9 ?hpz9 ?_; (case Bz9 => k_asm); (case Fz9 => k_asm); (case Xz9 => k_asm); (case Nz9 => k_asm); (case Tz9 => k_asm); (case hpz9 => exact ⟨by is_list, RowsAre.mono (Fr.keep (by k_asm)) (by assumption)⟩); (case hzz9 => first | assumption | exact Nat.le_of_ble_eq_true rfl | omega); (case hnsz9 => assumption); (case hallz9 => assumption); (case ckz9 => first | rfl | assumption); (case hdz9 => omega); (case huz9 => omega); k_whole); intro r'9 nx'9 h'9 tk'9 F'9 N'9 ne'9 P'9; (have hr'9 := P'9); subst hr'9; replace N'9 := news_right N'9; (have nr'9 := Apart.mk ne'9); (try simp only [List.cons_append, List.nil_append] at N'9); (try simp only [List.forall_mem_cons, List.not_mem_nil, false_implies, implies_true, and_true] at ne'9); (try k_sweep))
  k_with "m call ref" => (k_here; (with_reducible show wpAny _ _ (call (Value.ref 143) [_]) _ _ _); k_dflt (refine' dimnames_some _ _ _ _ ?hzz9 ?hnsz9 ?hallz9 _ _ _ _ _ _ _ _ _ _ _ _ _ _ _ _ _ _ _ _ _ _ ?Bz9 ?Fz9 ?Xz9 ?Nz9 ?Tz9 ?ckz9 ?hdz9 ?huz9 ?hpz9 ?_; (case Bz9 => k_asm); (case Fz9 => k_asm); (case Xz9 => k_asm); (case Nz9 => k_asm); (case Tz9 => k_asm); (case hpz9 => exact ⟨by is_list, RowsAre.mono (Fr.keep (by k_asm)) (by assumption)⟩); (case hzz9 => first | assumption | exact Nat.le_of_ble_eq_true rfl | omega); (case hnsz9 => assumption); (case hallz9 => assumption); (case ckz9 => first | rfl | assumption); (case hdz9 => omega); (case huz9 => omega); k_whole); intro r'9 nx'9 h'9 tk'9 F'9 N'9 ne'9 P'9; obtain ⟨t0'9, nl'9, vs'9, rs'9, ⟨x'9, d'9, t1'9, t2'9, t3'9, t4'9, t5'9, hr'9, hx'9, hd'9⟩, hl'9, hn'9⟩ := P'9; subst hr'9; replace N'9 := news_swap N'9; (have nr'9 := Apart.mk ne'9); (try simp only [List.cons_append, List.nil_append] at N'9); (try simp only [List.forall_mem_cons, List.not_mem_nil, false_implies, implies_true, and_true] at ne'9); (try k_sweep))
  k_with "m k_inst" => (refine' kb_inst ?Fz9 ?h1z9 ?h2z9; (case Fz9 => k_asm); (case h1z9 => assumption); (case h2z9 => assumption))
  k_with "m subscriptTail" => (k_here; (with_reducible show wpAny _ _ (subscriptTail _ _ (Value.ref _) (Value.str _ _)) _ _ _); k_dflt (refine' kb_item ?Fz9 ?oz9 ?dz9 ?lz9 ?_; (case Fz9 => k_asm); (case oz9 => assumption); (case dz9 => assumption); (case lz9 => first | assumption | rfl); k_whole))
  k_with "m compareOp In str ref" => (k_here; k_dflt (refine' kb_in ?Fz9 ?oz9 ?dz9 ?sz9 ?lz9 ?_; (case Fz9 => k_asm); (case oz9 => assumption); (case dz9 => assumption); (case sz9 => assumption); (case lz9 => first | assumption | rfl); k_whole))
  k_with "m compareOp NotIn str ref" => (k_here; k_dflt (refine' kb_notIn ?Fz9 ?oz9 ?dz9 ?sz9 ?lz9 ?_; (case Fz9 => k_asm); (case oz9 => assumption); (case dz9 => assumption); (case sz9 => assumption); (case lz9 => first | assumption | rfl); k_whole))
  k_with "m subscriptTail" => (k_here; (with_reducible show wpAny _ _ (subscriptTail _ _ (Value.ref _) (Value.int _ _)) _ _ _); k_dflt (refine' kb_lst ?lz9 ?az9 ?bz9 ?xz9 ?_; (case lz9 => is_list); (case xz9 => first | with_reducible assumption | assumption); (case az9 => omega); (case bz9 => omega); k_whole))
  k_with "m eval ListComp" => (k_here; first
  | (lct_look; k_dflt (refine LCt.ListComp_T (F₀ := by k_asm) (by with_unfolding_all rfl) (by decide) (by rfl) (by decide) (by rfl) ?_))
  | ((first | lcg_look | lcf_look); k_dflt (refine LCg.ListComp_U (F₀ := by k_asm) (by with_unfolding_all rfl) (by decide) (by rfl) (by decide) (by rfl) ?_)))
  k_with "m exec Assign cons ListComp" => (k_here; first
  | (lct_look; k_dflt (refine LCt.Assign_ListComp_T (F₀ := by k_asm) (by rfl) (by with_unfolding_all rfl) (by with_unfolding_all rfl) (by decide) (by rfl) (by decide) (by rfl) (by rfl) (by rfl) ?_))
  | ((first | lcg_look | lcf_look); k_dflt (refine LCg.Assign_ListComp_U (F₀ := by k_asm) (by rfl) (by with_unfolding_all rfl) (by with_unfolding_all rfl) (by decide) (by rfl) (by decide) (by rfl) (by rfl) (by rfl) ?_)))
  k_with "m call builtin:len" => (k_here; (with_reducible show wpAny _ _ (call (Value.builtin "len") [Value.ref _]) _ _ _); k_dflt (refine' kb_len ?lz9 ?zz9 ?_; (case lz9 => is_list); (case zz9 => first | assumption | omega); k_whole))
  k_with "m exec For Name Name cons nil" => (k_here; k_dflt (refine' For_invVF ?Fz9 ?k1z9 ?k2z9 ?_; (case Fz9 => k_asm); (case k1z9 => exact rfl); (case k2z9 => exact rfl); k_whole))
  k_with "m exec For Name Call cons nil" => (k_here; k_dflt (refine' For_invVF ?Fz9 ?k1z9 ?k2z9 ?_; (case Fz9 => k_asm); (case k1z9 => exact rfl); (case k2z9 => exact rfl); k_whole))
  k_with "m call builtin:list.append" => (k_here; (with_reducible show wpAny _ _ (call (Value.builtin _) [Value.ref _, _]) _ _ _); k_dflt (refine' kb_append ?k1z9 ?k2z9 ?k3z9 ?zz9 ?_; (case k1z9 => k_asm); (case k2z9 => k_asm); (case k3z9 => k_upd); (case zz9 => first | assumption | omega); k_whole); intro h'9 F'9 N'9; (try k_sweep))
  k_with "m k_all" => exact apart_all (by assumption) (by k_mem)
  trivial
set_option maxHeartbeats 4000000 in
theorem newarr_con (w : World) (k : Str) (t : Tok) (iv : Value) (hiv : handedIn iv = true) (le ln : Addr) (ds rs : List Value) (ns : List (Option (List Value))) (hz : rs.length ≤ 8) (hzd : ds.length ≤ 4096) (hns : ∀ l, some l ∈ ns → l.length ≤ 4096) :
    Con w 12 150 [.str k t, iv, .ref le, .ref ln] (fun h => h.IsList le ds.toArray ∧ h.IsList ln rs.toArray ∧ RowsAre (hAt h) rs ns)
      (fun r nx => ∃ av dl, VecIs w (lAt nx) r (.str k t) iv av ∧ AttIs w (lAt nx) av dl ds (if ns.all (·.isNone) = true then none else some ns)) := by
  refine Con.ofP (binds := [(Str.ofString "kind", .str k t), (Str.ofString "items", iv), (Str.ofString "extents", .ref le), (Str.ofString "names", .ref ln)]) (by k_is) (by k_is) (fun s => BindsTo.of_eq rfl) (locs rfl) rfl rfl rfl (by decide) ?_
  intro loose mean mg mb dp un gd outer A₀ base H h₁ L' s Q B F X N T hd hu hp hs hret
  subst hs
  obtain ⟨hle, hln, hrow⟩ := hp
  by_cases hall : ns.all (·.isNone) = true
  · rw [if_pos hall] at hret
    k_steps
    (rename Fr _ _ _ _ => F2); (rename News _ _ _ _ => N2); (rename Obj.IsDictOf _ _ _ => D2)
    refine' hret _ _ _ _ _ F2 N2 ⟨_, _, ⟨_, _, _, _, _, _, _, rfl, ?a1, ?a2⟩, _, _, ⟨_, _, _, _, _, _, _, ?b0, ?b1, ?b2⟩, ⟨_, _, ?c0, ?c1⟩, ⟨_, _, ?d0, ?d1, D2, ?d3⟩⟩
    case d0 => rfl
    case d1 => k_mem
    case d3 => assumption
    case b0 => rfl
    case b1 => k_mem
    case b2 => k_mem
    case c0 => rfl
    case c1 => k_mem
    case a1 => k_mem
    case a2 => k_mem
  · rw [if_neg hall] at hret
    k_steps
    (rename Fr _ _ _ _ => F2); (rename News _ _ _ _ => N2); (rename Obj.IsDictOf _ _ _ => D2); (rename NmsAre _ _ _ _ _ => n1); (rename LstIs _ _ _ => n2)
    (rename lAt _ _ (instObj 99 _) => n3); (rename lAt _ _ (vecD _ _ _ _ _ _ _ _ _) => n4)
    refine' hret _ _ _ _ _ F2 N2 ⟨_, _, ⟨_, _, _, _, _, _, _, rfl, ?a1, ?a2⟩, _, _, ⟨_, _, _, _, _, _, _, ?b0, ?b1, ?b2⟩, ⟨_, _, ?c0, ?c1⟩, _, _, _, _, _, ⟨_, _, ?d0, ?d1, D2, ?d3⟩, ⟨_, _, _, _, _, _, _, ?e0, ?e1, ?e2⟩, n2.mono ?f, n1.mono ?g⟩
    case d0 => rfl
    case d1 => k_mem
    case d3 => assumption
    case b0 => rfl
    case b1 => k_mem
    case b2 => k_mem
    case c0 => rfl
    case c1 => k_mem
    case a1 => k_mem
    case a2 => k_mem
    case e0 => rfl
    case e1 => (repeat (first | exact n3 | refine List.Mem.tail _ ?_))
    case e2 => (repeat (first | exact n4 | refine List.Mem.tail _ ?_))
    case f => intro _ _ h; (repeat (first | exact h | refine List.Mem.tail _ ?_))
    case g => intro _ _ h; (repeat (first | exact h | refine List.Mem.tail _ ?_))
end Mine
end
section
open PySem PySem.W PySem.Calls PySem.Spec PyProof.Rows
theorem Mine.dev8 : (PySem.Challenge.rw_pq1314_01.foot = 6) → Mine.hd.heap_39 = Mine.hd.heap_39 := by
  k_fill
  intro _; rfl
namespace Mine
theorem regB8_1 : True := by
  k_with_none
  k_with "m k_ne" => (refine neN ?_; (try dsimp only); first
    | with_reducible assumption
    | exact Ne.symm (by with_reducible assumption)
    | ((repeat (rename _ ∧ _ => q8z9; rcases q8z9 with ⟨_, _⟩)); first
      | with_reducible assumption
      | exact Ne.symm (by with_reducible assumption)
      | exact Nat.ne_of_gt (by with_reducible assumption)
      | exact Nat.ne_of_lt (by with_reducible assumption)))
  k_with "m k_all" => assumption
  k_with "m k_handed" => assumption
  k_with "m call ref" => (k_here; (with_reducible show wpAny _ _ (call (Value.ref 99) [_, _]) _ _ _); k_dflt (refine' vec_con _ _ _ ?hkz9 ?hiz9 _ _ _ _ _ _ _ _ _ _ _ _ _ _ _ _ _ _ _ _ _ _ ?Bz9 ?Fz9 ?Xz9 ?Nz9 ?Tz9 ?ckz9 ?hdz9 ?huz9 ?hpz9 ?_; (case Bz9 => k_asm); (case Fz9 => k_asm); (case Xz9 => k_asm); (case Nz9 => k_asm); (case Tz9 => k_asm); (case hpz9 => exact True.intro); (case hkz9 => k_handed); (case hiz9 => k_handed); (case ckz9 => first | rfl | assumption); (case hdz9 => omega); (case huz9 => omega); k_whole); intro r'9 nx'9 h'9 tk'9 F'9 N'9 ne'9 P'9; obtain ⟨x'9, d'9, t1'9, t2'9, t3'9, t4'9, t5'9, hr'9, hx'9, hn'9⟩ := P'9; subst hr'9; subst hn'9; replace hx'9 := neN hx'9; (have nr'9 := Apart.mk ne'9); (try simp only [List.cons_append, List.nil_append] at N'9); (try simp only [List.forall_mem_cons, List.not_mem_nil, false_implies, implies_true, and_true] at ne'9); (try k_sweep))
  k_with "m call ref" => (k_here; (with_reducible show wpAny _ _ (call (Value.ref 150) [_, _, _, _]) _ _ _); k_dflt (refine' newarr_con _ _ _ _ ?hivz9 _ _ _ _ _ ?hzz9 ?hzdz9 ?hnsz9 _ _ _ _ _ _ _ _ _ _ _ _ _ _ _ _ _ _ _ _ _ _ ?Bz9 ?Fz9 ?Xz9 ?Nz9 ?Tz9 ?ckz9 ?hdz9 ?huz9 ?hpz9 ?_; (case Bz9 => k_asm); (case Fz9 => k_asm); (case Xz9 => k_asm); (case Nz9 => k_asm); (case Tz9 => k_asm); (case hpz9 => exact ⟨by is_list, by is_list, RowsAre.mono (Fr.keep (by k_asm)) (by assumption)⟩); (case hivz9 => k_handed); (case hzz9 => first | assumption | exact Nat.le_of_ble_eq_true rfl | omega); (case hzdz9 => first | assumption | exact Nat.le_of_ble_eq_true rfl | omega); (case hnsz9 => assumption); (case ckz9 => first | rfl | assumption); (case hdz9 => omega); (case huz9 => omega); k_whole); intro r'9 nx'9 h'9 tk'9 F'9 N'9 ne'9 P'9; obtain ⟨av'9, dl'9, hv'9, ha'9⟩ := P'9; (have nr'9 := Apart.mk ne'9); (try simp only [List.cons_append, List.nil_append] at N'9); (try simp only [List.forall_mem_cons, List.not_mem_nil, false_implies, implies_true, and_true] at ne'9); (try k_sweep))
  k_with "m k_inst" => (refine' kb_inst ?Fz9 ?h1z9 ?h2z9; (case Fz9 => k_asm); (case h1z9 => assumption); (case h2z9 => assumption))
  k_with "m subscriptTail" => (k_here; (with_reducible show wpAny _ _ (subscriptTail _ _ (Value.ref _) (Value.str _ _)) _ _ _); k_dflt (refine' kb_item ?Fz9 ?oz9 ?dz9 ?lz9 ?_; (case Fz9 => k_asm); (case oz9 => assumption); (case dz9 => assumption); (case lz9 => first | assumption | rfl); k_whole))
  k_with "m compareOp In str ref" => (k_here; k_dflt (refine' kb_in ?Fz9 ?oz9 ?dz9 ?sz9 ?lz9 ?_; (case Fz9 => k_asm); (case oz9 => assumption); (case dz9 => assumption); (case sz9 => assumption); (case lz9 => first | assumption | rfl); k_whole))
  k_with "m compareOp NotIn str ref" => (k_here; k_dflt (refine' kb_notIn ?Fz9 ?oz9 ?dz9 ?sz9 ?lz9 ?_; (case Fz9 => k_asm); (case oz9 => assumption); (case dz9 => assumption); (case sz9 => assumption); (case lz9 => first | assumption | rfl); k_whole))
  k_with "m subscriptTail" => (k_here; (with_reducible show wpAny _ _ (subscriptTail _ _ (Value.ref _) (Value.int _ _)) _ _ _); k_dflt (refine' kb_lst ?lz9 ?az9 ?bz9 ?xz9 ?_; (case lz9 => is_list); (case xz9 => first | with_reducible assumption | assumption); (case az9 => omega); (case bz9 => omega); k_whole))
  k_with "m eval ListComp" => (k_here; first
  | (lct_look; k_dflt (refine LCt.ListComp_T (F₀ := by k_asm) (by with_unfolding_all rfl) (by decide) (by rfl) (by decide) (by rfl) ?_))
  | ((first | lcg_look | lcf_look); k_dflt (refine LCg.ListComp_U (F₀ := by k_asm) (by with_unfolding_all rfl) (by decide) (by rfl) (by decide) (by rfl) ?_)))
  k_with "m exec Assign cons ListComp" => (k_here; first
  | (lct_look; k_dflt (refine LCt.Assign_ListComp_T (F₀ := by k_asm) (by rfl) (by with_unfolding_all rfl) (by with_unfolding_all rfl) (by decide) (by rfl) (by decide) (by rfl) (by rfl) (by rfl) ?_))
  | ((first | lcg_look | lcf_look); k_dflt (refine LCg.Assign_ListComp_U (F₀ := by k_asm) (by rfl) (by with_unfolding_all rfl) (by with_unfolding_all rfl) (by decide) (by rfl) (by decide) (by rfl) (by rfl) (by rfl) ?_)))
  k_with "m call builtin:len" => (k_here; (with_reducible show wpAny _ _ (call (Value.builtin "len") [Value.ref _]) _ _ _); k_dflt (refine' kb_len ?lz9 ?zz9 ?_; (case lz9 => is_list); (case zz9 => first | assumption | omega); k_whole))
  k_with "m exec For Name Name cons nil" => (k_here; k_dflt (refine' For_invVF ?Fz9 ?k1z9 ?k2z9 ?_; (case Fz9 => k_asm); (case k1z9 => exact rfl); (case k2z9 => exact rfl); k_whole))
  k_with "m exec For Name Call cons nil" => (k_here; k_dflt (refine' For_invVF ?Fz9 ?k1z9 ?k2z9 ?_; (case Fz9 => k_asm); (case k1z9 => exact rfl); (case k2z9 => exact rfl); k_whole))
  k_with "m call builtin:list.append" => (k_here; (with_reducible show wpAny _ _ (call (Value.builtin _) [Value.ref _, _]) _ _ _); k_dflt (refine' kb_append ?k1z9 ?k2z9 ?k3z9 ?zz9 ?_; (case k1z9 => k_asm); (case k2z9 => k_asm); (case k3z9 => k_upd); (case zz9 => first | assumption | omega); k_whole); intro h'9 F'9 N'9; (try k_sweep))
  k_with "m k_all" => exact apart_all (by assumption) (by k_mem)
  k_with "m mul_fits" => first | exact PySem.IntMulOk.of_right (PySem.intBits_le_64 (by omega) (by omega)) | exact PySem.IntMulOk.of_left (PySem.intBits_le_64 (by omega) (by omega))
  k_with "m call type:range" => (k_here; (with_reducible show wpAny _ _ (call (Value.type _) [Value.int _ _]) _ _ _); k_dflt (refine' range1_rows ?Fz9 ?Nz9 ?_; (case Fz9 => k_asm); (case Nz9 => k_asm)); intro h'9 tk'9 t1'9 t2'9 t3'9 rg'9 F'9 N'9 rk'9; clear rk'9; (try k_sweep))
  k_with "m compareOp NotIn int ref" => (k_here; k_dflt (refine' ints_in ?lz9 ?iz9 ?mz9 ?_; (case lz9 => is_list); (case iz9 => exact Hold.out (by assumption)); (case mz9 => exact AllIn.out (by assumption) _ (by omega) (by omega)); k_whole))
  trivial
noncomputable def stepsOf : Int → List Int → List Int
  | _, [] => []
  | s, e :: r => s :: stepsOf (s * e) r
noncomputable def prodFrom : Int → List Int → Int
  | s, [] => s
  | s, e :: r => prodFrom (s * e) r
theorem prodFrom_snoc : ∀ (es : List Int) (s e : Int), prodFrom s (es ++ [e]) = prodFrom s es * e
  | [], _, _ => rfl
  | _ :: r, _, _ => prodFrom_snoc r _ _
theorem stepsOf_snoc : ∀ (es : List Int) (s e : Int), stepsOf s (es ++ [e]) = stepsOf s es ++ [prodFrom s es]
  | [], _, _ => rfl
  | _ :: r, _, _ => by simp only [List.cons_append, stepsOf, prodFrom, stepsOf_snoc r]
theorem stepsOf_len : ∀ (es : List Int) (s : Int), (stepsOf s es).length = es.length
  | [], _ => rfl
  | _ :: r, _ => by simp only [stepsOf, List.length_cons, stepsOf_len r]
/-- one to three, each time -/
noncomputable def Few (es : List Int) : Prop := es.length ≤ 3 ∧ ∀ e ∈ es, 1 ≤ e ∧ e ≤ 3
theorem prod_bound : ∀ (es : List Int) (s : Int), (∀ e ∈ es, 1 ≤ e ∧ e ≤ 3) → 1 ≤ s → 1 ≤ prodFrom s es ∧ prodFrom s es ≤ s * 3 ^ es.length
  | [], s, _, h => ⟨h, by simp [prodFrom]⟩
  | e :: r, s, h, hs => by
    have he := h e (.head _)
    have h1 : 1 ≤ s * e := by have := Int.mul_le_mul hs he.1 (by omega) (by omega); omega
    have ih := prod_bound r (s * e) (fun x hx => h x (.tail _ hx)) h1
    refine ⟨ih.1, Int.le_trans ih.2 ?_⟩
    rw [List.length_cons, Int.pow_succ]
    have hp : (0 : Int) ≤ 3 ^ r.length := Int.pow_nonneg (by decide)
    have : s * e * 3 ^ r.length ≤ s * 3 * 3 ^ r.length := Int.mul_le_mul_of_nonneg_right (Int.mul_le_mul_of_nonneg_left he.2 (by omega)) hp
    have e2 : s * (3 ^ r.length * 3) = s * 3 * 3 ^ r.length := by rw [Int.mul_assoc, Int.mul_comm 3]
    omega
theorem Few.take {es : List Int} (h : Few es) (i : Nat) : Few (es.take i) := ⟨by rw [List.length_take]; have := h.1; omega, fun e he => h.2 e (List.mem_of_mem_take he)⟩
theorem Few.prod {es : List Int} (h : Few es) : 1 ≤ prodFrom 1 es ∧ prodFrom 1 es ≤ 27 := by
  obtain ⟨a, b⟩ := prod_bound es 1 h.2 (by decide)
  refine ⟨a, Int.le_trans b ?_⟩
  have := h.1
  have : es.length = 0 ∨ es.length = 1 ∨ es.length = 2 ∨ es.length = 3 := by omega
  rcases this with h | h | h | h <;> rw [h] <;> decide
theorem frame_eq2 {m m₀ : Str → Option Value} {a : Str} {v : Value} {st : List Str} (h1 : m a = some v) (h : ∀ y, (a :: st).contains y = false → m y = m₀ y) : m = fun y => if y = a then some v else if st.contains y then m y else m₀ y := by
  funext y
  by_cases q : y = a
  · rw [if_pos q, q]; exact h1
  · rw [if_neg q]
    cases r : st.contains y with
    | true => simp
    | false => simp only [Bool.false_eq_true, if_false]; exact h y (by simp only [List.contains_cons, r, Bool.or_false]; simpa using q)

theorem steps_bound : ∀ (es : List Int) (s : Int) (n : Nat), (∀ e ∈ es, 1 ≤ e ∧ e ≤ 3) → 1 ≤ s → s ≤ 3 ^ n → n + es.length ≤ 3 → ∀ x ∈ stepsOf s es, 1 ≤ x ∧ x ≤ 27
  | [], _, _, _, _, _, _, _, hx => nomatch hx
  | e :: r, s, n, h, h1, h2, h3, x, hx => by
    rw [List.length_cons] at h3
    rcases List.mem_cons.mp hx with rfl | hx
    · have : n = 0 ∨ n = 1 ∨ n = 2 := by omega
      refine ⟨h1, Int.le_trans h2 ?_⟩
      rcases this with h | h | h <;> rw [h] <;> decide
    · have he := h e (.head _)
      have hm : s * e ≤ 3 ^ (n + 1) := by
        rw [Int.pow_succ]
        have : s * e ≤ s * 3 := Int.mul_le_mul_of_nonneg_left he.2 (by omega)
        omega
      have hm1 : 1 ≤ s * e := by have := Int.mul_le_mul h1 he.1 (by omega) (by omega); omega
      exact steps_bound r (s * e) (n + 1) (fun y hy => h y (.tail _ hy)) hm1 hm (by omega) x hx
theorem Few.steps {es : List Int} (h : Few es) : ∀ x ∈ stepsOf 1 es, 1 ≤ x ∧ x ≤ 27 := steps_bound es 1 0 h.2 (by decide) (by decide) (by have := h.1; omega)
set_option maxHeartbeats 4000000 in
theorem steps_con (w : World) (le : Addr) (ds : List Value) (es : List Int) (hd0 : Hold (IntsAre ds es)) (hf : Few es) :
    Con w 4 171 [.ref le] (fun h => h.IsList le ds.toArray) (fun r nx => ∃ l n vs, r = .ref l ∧ nx = [(l, listOf vs.toArray n)] ∧ IntsAre vs (stepsOf 1 es)) := by
  refine Con.ofP (binds := [(Str.ofString "extents", .ref le)]) (by k_is) (by k_is) (fun s => BindsTo.of_eq rfl) (locs rfl) rfl rfl rfl (by decide) ?_
  intro loose mean mg mb dp un gd outer A₀ base H h₁ L' s Q B F X N T hd' hu hp hs hret
  subst hs
  have hlen : ds.length ≤ 3 := by rw [hd0.out.length]; exact hf.1
  k_steps
  (rename Fr _ _ _ _ => F); (rename News _ _ _ _ => N)
  obtain ⟨li, hli, N⟩ := news_head N
  subst hli
  simp only [List.reverse_cons, List.reverse_nil, List.nil_append, lookup_if] at F
  refine loop_base (fun i m₁ nx => Hold (∃ c vs t, nx = [(li, listOf vs.toArray c)] ∧ IntsAre vs (stepsOf 1 (es.take i)) ∧ m₁ (Str.ofString "step") = some (.int (prodFrom 1 (es.take i)) t) ∧ ∀ y, [Str.ofString "step", Str.ofString "extent"].contains y = false → m₁ y = List.lookup y [(Str.ofString "steps", .ref li), (Str.ofString "extents", .ref le)]))
    rfl hp F N ⟨0, [], _, rfl, .nil, rfl, fun y hy => by
      have h1 : y ≠ Str.ofString "step" := by rintro rfl; exact absurd hy (by decide)
      rw [← lookup_if, if_neg h1]⟩ ?_ ?_
  · rintro i v m₁ nx h tk own hv hoff ⟨c, vs, t, rfl, hvs, hst, hm⟩ F' N'
    clear F N
    obtain ⟨n, t', rfl, hn⟩ := hd0.out.at i v hv
    have e1 := take_snoc hn
    have hb := (hf.take i).prod
    have hbn := hf.2 n (List.mem_of_getElem? hn)
    have hvl := hvs.length
    rw [stepsOf_len, List.length_take] at hvl
    have hvl2 : vs.length ≤ 3 := by have := hf.1; omega
    have hoff' := own_cons hoff (fun _ h => nomatch h)
    rw [frame_eq2 hst hm] at F'
    simp only [List.cons_append, List.nil_append] at N' hoff'
    k_steps
    (rename Fr _ _ _ _ => F2); (rename News _ _ _ _ => N2)
    refine inv_close (nw := []) (tl := []) F2 N2 hoff (fun _ _ _ h => nomatch h) ⟨_, _, _, rfl, ?_, by rw [e1, prodFrom_snoc]; rfl, ?_⟩
    · rw [e1, stepsOf_snoc]
      exact hvs.append (.cons _ _ .nil)
    · intro y hy
      have h1 : y ≠ Str.ofString "step" := by rintro rfl; exact absurd hy (by decide)
      have h2 : y ≠ Str.ofString "extent" := by rintro rfl; exact absurd hy (by decide)
      have h3 : [Str.ofString "extent"].contains y = false := by simpa using h2
      simp only [if_neg h1, if_neg h2, h3, Bool.false_eq_true, if_false]
  · rintro m₁ nx h tk ⟨c, vs, t, rfl, hvs, hst, hm⟩ F' N'
    rw [hd0.out.length, List.take_length] at hvs hst
    rw [frame_eq2 hst hm] at F'
    clear F N
    k_steps
    exact hret _ _ _ _ _ (by assumption) (by assumption) ⟨_, _, _, rfl, rfl, hvs⟩

-- check_perm(perm, count)
set_option maxHeartbeats 4000000 in
theorem check_con (w : World) (lp : Addr) (ps : List Value) (ns : List Int) (c : Int) (t : Tok) (hd0 : Hold (IntsAre ps ns)) (hn : ns.length ≤ 3) (hall : AllIn ns) (hc : c = (ns.length : Int)) :
    Con w 4 178 [.ref lp, .int c t] (fun h => h.IsList lp ps.toArray) (fun r nx => r = .none ∧ nx = []) := by
  subst hc
  refine Con.ofP (binds := [(Str.ofString "perm", .ref lp), (Str.ofString "count", .int (ns.length : Int) t)]) (by k_is) (by k_is) (fun s => BindsTo.of_eq rfl) (locs rfl) rfl rfl rfl (by decide) ?_
  intro loose mean mg mb dp un gd outer A₀ base H h₁ L' s Q B F X N T hd' hu hp hs hret
  subst hs
  have hlen : ps.length = ns.length := hd0.out.length
  have hlen2 : ps.length ≤ 4096 := by omega
  k_steps
  · exfalso; omega
  · exact hret _ [] _ _ _ (by assumption) (by assumption) ⟨rfl, rfl⟩

-- new_matrix(kind, items, extents, row_names, column_names)
set_option maxHeartbeats 4000000 in
theorem newmat_con (w : World) (k : Str) (t : Tok) (iv : Value) (hiv : handedIn iv = true) (le : Addr) (ds : List Value) (rn cn : Value) (ns : List (Option (List Value))) (hr : handedIn rn = true) (hc : handedIn cn = true) (hzd : ds.length ≤ 4096) (hns : ∀ l, some l ∈ ns → l.length ≤ 4096) :
    Con w 14 157 [.str k t, iv, .ref le, rn, cn] (fun h => h.IsList le ds.toArray ∧ RowsAre (hAt h) [rn, cn] ns)
      (fun r nx => ∃ av dl, VecIs w (lAt nx) r (.str k t) iv av ∧ AttIs w (lAt nx) av dl ds (if ns.all (·.isNone) = true then none else some ns)) := by
  refine Con.ofP (binds := [(Str.ofString "kind", .str k t), (Str.ofString "items", iv), (Str.ofString "extents", .ref le), (Str.ofString "row_names", rn), (Str.ofString "column_names", cn)]) (by k_is) (by k_is) (fun s => BindsTo.of_eq rfl) (locs rfl) rfl rfl rfl (by decide) ?_
  intro loose mean mg mb dp un gd outer A₀ base H h₁ L' s Q B F X N T hd' hu hp hs hret
  subst hs
  obtain ⟨hle, hrow⟩ := hp
  k_steps
  exact hret _ _ _ _ _ (by assumption) (by assumption) ⟨_, _, VecIs.mono (fun _ _ h => List.mem_append.mpr (.inl h)) (by assumption), AttIs.mono (fun _ _ h => List.mem_append.mpr (.inl h)) (by assumption)⟩

/-- what dims gives -/
noncomputable def DimIs (w : World) (At : Addr → Obj → Prop) (v dl : Value) : Prop :=
  ∃ kv iv av kvs dv k2 a2, VecIs w At v kv iv av ∧ DicIs w At av kvs ∧ valueAt kvs (Str.ofString "dim") = some dv ∧ VecIs w At dv k2 dl a2
theorem DimIs.mono {w : World} {At At' : Addr → Obj → Prop} (hs : ∀ a o, At a o → At' a o) {v dl : Value} : DimIs w At v dl → DimIs w At' v dl
  | ⟨kv, iv, av, kvs, dv, k2, a2, a, b, c, d⟩ => ⟨kv, iv, av, kvs, dv, k2, a2, a.mono hs, b.mono hs, c, d.mono hs⟩
theorem dim_con (w : World) (v dl : Value) (hdl : handedIn dl = true) : Con w 2 124 [v] (fun h => DimIs w (hAt h) v dl) (fun r nx => r = dl ∧ nx = []) := by
  intro loose mean mg mb dp un gd cn cs a ccd cl outer A₀ base h₀ L m news s Q E B F X N T hck hd hu hp hret
  obtain ⟨kv, iv, av, kvs, dv, k2, a2, b, c, d, e⟩ := hp
  exact dims_con w v kv iv av dv k2 dl a2 kvs d hdl loose mean mg mb dp un gd cn cs a ccd cl outer A₀ base h₀ L m news s Q E B F X N T hck hd hu ⟨b, c, e⟩ hret
/-- what axis_names gives for each axis -/
noncomputable def RowsIs (w : World) (At : Addr → Obj → Prop) (v : Value) (rs : List Value) : Prop :=
  ∃ kv iv av kvs, VecIs w At v kv iv av ∧ DicIs w At av kvs ∧ ((valueAt kvs (Str.ofString "dimnames") = none ∧ ∀ r ∈ rs, r = .none) ∨
    ∃ nv k2 nl a2 vs ns, valueAt kvs (Str.ofString "dimnames") = some nv ∧ VecIs w At nv k2 nl a2 ∧ LstIs At nl vs ∧ NmsAre w At vs rs ns)
theorem RowsIs.mono {w : World} {At At' : Addr → Obj → Prop} (hs : ∀ a o, At a o → At' a o) {v : Value} {rs : List Value} : RowsIs w At v rs → RowsIs w At' v rs
  | ⟨kv, iv, av, kvs, a, b, c⟩ => ⟨kv, iv, av, kvs, a.mono hs, b.mono hs, c.imp id fun ⟨nv, k2, nl, a2, vs, ns, d, e, f, g⟩ => ⟨nv, k2, nl, a2, vs, ns, d, e.mono hs, f.mono hs, g.mono hs⟩⟩
theorem axis_con (w : World) (v rk : Value) (k : Int) (u : Tok) (rs : List Value) (h0 : 0 ≤ k) (h1 : k < 2 ^ 63) (hr : rs[k.toNat]? = some rk) :
    Con w 2 131 [v, .int k u] (fun h => RowsIs w (hAt h) v rs) (fun r nx => r = rk ∧ nx = []) := by
  intro loose mean mg mb dp un gd cn cs a ccd cl outer A₀ base h₀ L m news s Q E B F X N T hck hd hu hp hret
  obtain ⟨kv, iv, av, kvs, a1, a2, ⟨b1, b2⟩ | ⟨nv, k2, nl, a3, vs, ns, c1, c2, c3, c4⟩⟩ := hp
  · obtain rfl := b2 rk (List.mem_of_getElem? hr)
    exact axis_none w v kv iv av (.int k u) kvs b1 loose mean mg mb dp un gd cn cs a ccd cl outer A₀ base h₀ L m news s Q E B F X N T hck hd hu ⟨a1, a2⟩ hret
  · exact axis_some w v kv iv av nv k2 nl a3 rk k u kvs vs rs ns c1 h0 h1 hr loose mean mg mb dp un gd cn cs a ccd cl outer A₀ base h₀ L m news s Q E B F X N T hck hd hu ⟨a1, a2, c2, c3, c4⟩ hret
noncomputable def nsOf (n : Nat) : Option (List (Option (List Value))) → List (Option (List Value))
  | none => List.replicate n none
  | some ns => ns
theorem rows_none {At : Addr → Obj → Prop} : ∀ n : Nat, RowsAre At (List.replicate n Value.none) (List.replicate n none)
  | 0 => .nil
  | n + 1 => .cons rfl (rows_none n)
noncomputable def DnIs (w : World) (At : Addr → Obj → Prop) (kvs : List (Str × Value)) (rs : List Value) : Option (List (Option (List Value))) → Prop
  | none => valueAt kvs (Str.ofString "dimnames") = none
  | some ns => ∃ nv t' nl vs, valueAt kvs (Str.ofString "dimnames") = some nv ∧ VecIs w At nv (.str (Str.ofString "list") t') nl .none ∧ LstIs At nl vs ∧ NmsAre w At vs rs ns
/-- an array, opened -/
theorem ArrIs.open {w : World} {At : Addr → Obj → Prop} {v iv dl : Value} {is ds : List Value} {nm : Option (List (Option (List Value)))} (h : ArrIs w At v iv dl is ds nm) :
    ∃ t av dv t2 kvs rs, VecIs w At v (.str (Str.ofString "integer") t) iv av ∧ LstIs At iv is ∧ DicIs w At av kvs ∧ valueAt kvs (Str.ofString "dim") = some dv ∧ VecIs w At dv (.str (Str.ofString "integer") t2) dl .none ∧ LstIs At dl ds ∧
      RowsIs w At v rs ∧ RowsAre At rs (nsOf ds.length nm) ∧ DnIs w At kvs rs nm := by
  obtain ⟨t, av, a, b, dv, t2, c, d, e⟩ := h
  cases nm with
  | none =>
    refine ⟨t, av, dv, t2, _, List.replicate ds.length .none, a, b, e, by with_unfolding_all rfl, c, d, ⟨_, _, _, _, a, e, .inl ⟨by with_unfolding_all rfl, fun r hr => (List.mem_replicate.mp hr).2⟩⟩, rows_none _, by with_unfolding_all rfl⟩
  | some ns =>
    obtain ⟨nv, t', nl, vs, rs, f, g, h, i⟩ := e
    refine ⟨t, av, dv, t2, _, rs, a, b, f, by with_unfolding_all rfl, c, d, ⟨_, _, _, _, a, f, .inr ⟨nv, _, nl, _, vs, ns, by with_unfolding_all rfl, g, h, i⟩⟩, i.rows, nv, t', nl, vs, by with_unfolding_all rfl, g, h, i⟩
end Mine
end
section
open PySem PySem.W PySem.Calls PySem.Spec PyProof.Rows
theorem Mine.dev9 : (PySem.Challenge.rw_pq1314_01.foot = 6) → Mine.hd.heap_39 = Mine.hd.heap_39 := by
  k_fill
  intro _; rfl
namespace Mine
theorem regB9_1 : True := by
  k_with_none
  k_with "m k_ne" => (refine neN ?_; (try dsimp only); first
    | with_reducible assumption
    | exact Ne.symm (by with_reducible assumption)
    | ((repeat (rename _ ∧ _ => q8z9; rcases q8z9 with ⟨_, _⟩)); first
      | with_reducible assumption
      | exact Ne.symm (by with_reducible assumption)
      | exact Nat.ne_of_gt (by with_reducible assumption)
      | exact Nat.ne_of_lt (by with_reducible assumption)))
  k_with "m k_all" => assumption
  k_with "m k_handed" => assumption
  k_with "m call ref" => (k_here; (with_reducible show wpAny _ _ (call (Value.ref 124) [_]) _ _ _); k_dflt (refine' dim_con _ _ _ ?hdlz9 _ _ _ _ _ _ _ _ _ _ _ _ _ _ _ _ _ _ _ _ _ _ ?Bz9 ?Fz9 ?Xz9 ?Nz9 ?Tz9 ?ckz9 ?hdz9 ?huz9 ?hpz9 ?_; (case Bz9 => k_asm); (case Fz9 => k_asm); (case Xz9 => k_asm); (case Nz9 => k_asm); (case Tz9 => k_asm); (case hpz9 => exact DimIs.mono (Fr.keep (by k_asm)) (by assumption)); (case hdlz9 => k_handed); (case ckz9 => first | rfl | assumption); (case hdz9 => omega); (case huz9 => omega); k_whole); intro r'9 nx'9 h'9 tk'9 F'9 N'9 ne'9 P'9; obtain ⟨hr'9, hn'9⟩ := P'9; subst hr'9; subst hn'9; (have nr'9 := Apart.mk ne'9); (try simp only [List.cons_append, List.nil_append] at N'9); (try simp only [List.forall_mem_cons, List.not_mem_nil, false_implies, implies_true, and_true] at ne'9); (try k_sweep))
  k_with "m call ref" => (k_here; (with_reducible show wpAny _ _ (call (Value.ref 178) [_, _]) _ _ _); k_dflt (refine' check_con _ _ _ _ _ _ ?hd0z9 ?hnz9 ?hallz9 ?hcz9 _ _ _ _ _ _ _ _ _ _ _ _ _ _ _ _ _ _ _ _ _ _ ?Bz9 ?Fz9 ?Xz9 ?Nz9 ?Tz9 ?ckz9 ?hdz9 ?huz9 ?hpz9 ?_; (case Bz9 => k_asm); (case Fz9 => k_asm); (case Xz9 => k_asm); (case Nz9 => k_asm); (case Tz9 => k_asm); (case hpz9 => is_list); (case hd0z9 => assumption); (case hnz9 => first | assumption | omega); (case hallz9 => assumption); (case hcz9 => omega); (case ckz9 => first | rfl | assumption); (case hdz9 => omega); (case huz9 => omega); k_whole); intro r'9 nx'9 h'9 tk'9 F'9 N'9 ne'9 P'9; obtain ⟨hr'9, hn'9⟩ := P'9; subst hr'9; subst hn'9; (have nr'9 := Apart.mk ne'9); (try simp only [List.cons_append, List.nil_append] at N'9); (try simp only [List.forall_mem_cons, List.not_mem_nil, false_implies, implies_true, and_true] at ne'9); (try k_sweep))
  k_with "m call ref" => (k_here; (with_reducible show wpAny _ _ (call (Value.ref 171) [_]) _ _ _); k_dflt (refine' steps_con _ _ _ _ ?hd0z9 ?hfz9 _ _ _ _ _ _ _ _ _ _ _ _ _ _ _ _ _ _ _ _ _ _ ?Bz9 ?Fz9 ?Xz9 ?Nz9 ?Tz9 ?ckz9 ?hdz9 ?huz9 ?hpz9 ?_; (case Bz9 => k_asm); (case Fz9 => k_asm); (case Xz9 => k_asm); (case Nz9 => k_asm); (case Tz9 => k_asm); (case hpz9 => is_list); (case hd0z9 => assumption); (case hfz9 => assumption); (case ckz9 => first | rfl | assumption); (case hdz9 => omega); (case huz9 => omega); k_whole); intro r'9 nx'9 h'9 tk'9 F'9 N'9 ne'9 P'9; obtain ⟨l'9, n'9, vs'9, hr'9, hn'9, hi'9⟩ := P'9; subst hr'9; subst hn'9; replace hi'9 := Hold.mk hi'9; (have nr'9 := Apart.mk ne'9); (try simp only [List.cons_append, List.nil_append] at N'9); (try simp only [List.forall_mem_cons, List.not_mem_nil, false_implies, implies_true, and_true] at ne'9); (try k_sweep))
  k_with "m call ref" => (k_here; (with_reducible show wpAny _ _ (call (Value.ref 131) [_, _]) _ _ _); k_dflt (refine' axis_con _ _ _ _ _ _ ?h0z9 ?h1z9 ?hrz9 _ _ _ _ _ _ _ _ _ _ _ _ _ _ _ _ _ _ _ _ _ _ ?Bz9 ?Fz9 ?Xz9 ?Nz9 ?Tz9 ?ckz9 ?hdz9 ?huz9 ?hpz9 ?_; (case Bz9 => k_asm); (case Fz9 => k_asm); (case Xz9 => k_asm); (case Nz9 => k_asm); (case Tz9 => k_asm); (case hpz9 => exact RowsIs.mono (Fr.keep (by k_asm)) (by assumption)); (case h0z9 => omega); (case h1z9 => omega); (case hrz9 => assumption); (case ckz9 => first | rfl | assumption); (case hdz9 => omega); (case huz9 => omega); k_whole); intro r'9 nx'9 h'9 tk'9 F'9 N'9 ne'9 P'9; obtain ⟨hr'9, hn'9⟩ := P'9; subst hr'9; subst hn'9; (have nr'9 := Apart.mk ne'9); (try simp only [List.cons_append, List.nil_append] at N'9); (try simp only [List.forall_mem_cons, List.not_mem_nil, false_implies, implies_true, and_true] at ne'9); (try k_sweep))
  k_with "m call ref" => (k_here; (with_reducible show wpAny _ _ (call (Value.ref 150) [_, _, _, _]) _ _ _); k_dflt (refine' newarr_con _ _ _ _ ?hivz9 _ _ _ _ _ ?hzz9 ?hzdz9 ?hnsz9 _ _ _ _ _ _ _ _ _ _ _ _ _ _ _ _ _ _ _ _ _ _ ?Bz9 ?Fz9 ?Xz9 ?Nz9 ?Tz9 ?ckz9 ?hdz9 ?huz9 ?hpz9 ?_; (case Bz9 => k_asm); (case Fz9 => k_asm); (case Xz9 => k_asm); (case Nz9 => k_asm); (case Tz9 => k_asm); (case hpz9 => exact ⟨by is_list, by is_list, RowsAre.mono (Fr.keep (by k_asm)) (by assumption)⟩); (case hivz9 => k_handed); (case hzz9 => first | assumption | exact Nat.le_of_ble_eq_true rfl | omega); (case hzdz9 => first | assumption | exact Nat.le_of_ble_eq_true rfl | omega); (case hnsz9 => assumption); (case ckz9 => first | rfl | assumption); (case hdz9 => omega); (case huz9 => omega); k_whole); intro r'9 nx'9 h'9 tk'9 F'9 N'9 ne'9 P'9; obtain ⟨av'9, dl'9, hv'9, ha'9⟩ := P'9; (have nr'9 := Apart.mk ne'9); (try simp only [List.cons_append, List.nil_append] at N'9); (try simp only [List.forall_mem_cons, List.not_mem_nil, false_implies, implies_true, and_true] at ne'9); (try k_sweep))
  k_with "m k_inst" => (refine' kb_inst ?Fz9 ?h1z9 ?h2z9; (case Fz9 => k_asm); (case h1z9 => assumption); (case h2z9 => assumption))
  k_with "m subscriptTail" => (k_here; (with_reducible show wpAny _ _ (subscriptTail _ _ (Value.ref _) (Value.str _ _)) _ _ _); k_dflt (refine' kb_item ?Fz9 ?oz9 ?dz9 ?lz9 ?_; (case Fz9 => k_asm); (case oz9 => assumption); (case dz9 => assumption); (case lz9 => first | assumption | rfl); k_whole))
  k_with "m compareOp In str ref" => (k_here; k_dflt (refine' kb_in ?Fz9 ?oz9 ?dz9 ?sz9 ?lz9 ?_; (case Fz9 => k_asm); (case oz9 => assumption); (case dz9 => assumption); (case sz9 => assumption); (case lz9 => first | assumption | rfl); k_whole))
  k_with "m compareOp NotIn str ref" => (k_here; k_dflt (refine' kb_notIn ?Fz9 ?oz9 ?dz9 ?sz9 ?lz9 ?_; (case Fz9 => k_asm); (case oz9 => assumption); (case dz9 => assumption); (case sz9 => assumption); (case lz9 => first | assumption | rfl); k_whole))
  k_with "m subscriptTail" => (k_here; (with_reducible show wpAny _ _ (subscriptTail _ _ (Value.ref _) (Value.int _ _)) _ _ _); k_dflt (refine' kb_lst ?lz9 ?az9 ?bz9 ?xz9 ?_; (case lz9 => is_list); (case xz9 => first | with_reducible assumption | assumption); (case az9 => omega); (case bz9 => omega); k_whole))
  k_with "m eval ListComp" => (k_here; first
  | (lct_look; k_dflt (refine LCt.ListComp_T (F₀ := by k_asm) (by with_unfolding_all rfl) (by decide) (by rfl) (by decide) (by rfl) ?_))
  | ((first | lcg_look | lcf_look); k_dflt (refine LCg.ListComp_U (F₀ := by k_asm) (by with_unfolding_all rfl) (by decide) (by rfl) (by decide) (by rfl) ?_)))
  k_with "m exec Assign cons ListComp" => (k_here; first
  | (lct_look; k_dflt (refine LCt.Assign_ListComp_T (F₀ := by k_asm) (by rfl) (by with_unfolding_all rfl) (by with_unfolding_all rfl) (by decide) (by rfl) (by decide) (by rfl) (by rfl) (by rfl) ?_))
  | ((first | lcg_look | lcf_look); k_dflt (refine LCg.Assign_ListComp_U (F₀ := by k_asm) (by rfl) (by with_unfolding_all rfl) (by with_unfolding_all rfl) (by decide) (by rfl) (by decide) (by rfl) (by rfl) (by rfl) ?_)))
  k_with "m call builtin:len" => (k_here; (with_reducible show wpAny _ _ (call (Value.builtin "len") [Value.ref _]) _ _ _); k_dflt (refine' kb_len ?lz9 ?zz9 ?_; (case lz9 => is_list); (case zz9 => first | assumption | omega); k_whole))
  k_with "m exec For Name Name cons nil" => (k_here; k_dflt (refine' For_invVF ?Fz9 ?k1z9 ?k2z9 ?_; (case Fz9 => k_asm); (case k1z9 => exact rfl); (case k2z9 => exact rfl); k_whole))
  k_with "m exec For Name Call cons nil" => (k_here; k_dflt (refine' For_invVF ?Fz9 ?k1z9 ?k2z9 ?_; (case Fz9 => k_asm); (case k1z9 => exact rfl); (case k2z9 => exact rfl); k_whole))
  k_with "m call builtin:list.append" => (k_here; (with_reducible show wpAny _ _ (call (Value.builtin _) [Value.ref _, _]) _ _ _); k_dflt (refine' kb_append ?k1z9 ?k2z9 ?k3z9 ?zz9 ?_; (case k1z9 => k_asm); (case k2z9 => k_asm); (case k3z9 => k_upd); (case zz9 => first | assumption | omega); k_whole); intro h'9 F'9 N'9; (try k_sweep))
  k_with "m k_all" => exact apart_all (by assumption) (by k_mem)
  k_with "m mul_fits" => first | exact PySem.IntMulOk.of_right (PySem.intBits_le_64 (by omega) (by omega)) | exact PySem.IntMulOk.of_left (PySem.intBits_le_64 (by omega) (by omega))
  k_with "m call type:range" => (k_here; (with_reducible show wpAny _ _ (call (Value.type _) [Value.int _ _]) _ _ _); k_dflt (refine' range1_rows ?Fz9 ?Nz9 ?_; (case Fz9 => k_asm); (case Nz9 => k_asm)); intro h'9 tk'9 t1'9 t2'9 t3'9 rg'9 F'9 N'9 rk'9; clear rk'9; (try k_sweep))
  k_with "m compareOp NotIn int ref" => (k_here; k_dflt (refine' ints_in ?lz9 ?iz9 ?mz9 ?_; (case lz9 => is_list); (case iz9 => exact Hold.out (by assumption)); (case mz9 => exact AllIn.out (by assumption) _ (by omega) (by omega)); k_whole))
  k_with "m is_list" => first | with_reducible assumption | exact News.isList (by k_asm) (by k_mem) | exact Fr.lst (by assumption) (by assumption)
  k_with "m loadName" => (k_here; k_dflt (refine' kb_ldn ?Fz9 ?vz9 ?_ ?az9 ?bz9; (case Fz9 => k_asm); (case az9 => rfl); (case bz9 => rfl); (case vz9 => rfl); k_whole))
  k_with "m pyIter ref" => (k_here; (with_reducible show wpAny _ _ (pyIter (Value.ref _)) (fun it s₂ => LoopAtV _ _ _ _ _ _ _ _ _ it s₂) _ _); refine Halt.out ?_)
  k_with "m CompSrc" => (refine Halt.out ?_)
  k_with "m CompSrcT" => (refine Halt.out ?_)
  k_with "m binaryOp Mod int int" => (k_here; refine mod_int' (by omega) ?_)
  k_with "m binaryOp FloorDiv int int" => (k_here; refine floordiv_int (by omega) ?_ (Or.inl (PyProof.noPylong_small (by omega))))
  k_with "m subscriptTail Name Name ref int" => (k_here; (with_reducible show wpAny _ _ (subscriptTail _ _ (Value.ref _) (Value.int _ _)) _ _ _); k_dflt (refine' kb_lst ?lz9 ?az9 ?bz9 ?xz9 ?_; (case lz9 => is_list); (case xz9 => first | with_reducible assumption | assumption); (case az9 => omega); (case bz9 => omega); k_whole))
  k_with "m subscriptTail Name Subscript ref int" => (k_here; (with_reducible show wpAny _ _ (subscriptTail _ _ (Value.ref _) (Value.int _ _)) _ _ _); k_dflt (refine' kb_lst ?lz9 ?az9 ?bz9 ?xz9 ?_; (case lz9 => is_list); (case xz9 => first | with_reducible assumption | assumption); (case az9 => omega); (case bz9 => omega); k_whole))
  k_with "m subscriptTail Attribute Name Name ref int" => (k_here; (with_reducible show wpAny _ _ (subscriptTail _ _ (Value.ref _) (Value.int _ _)) _ _ _); k_dflt (refine' kb_lst ?lz9 ?az9 ?bz9 ?xz9 ?_; (case lz9 => is_list); (case xz9 => first | with_reducible assumption | assumption); (case az9 => omega); (case bz9 => omega); k_whole))
  k_with "m subscriptTail Name Constant ref int" => (k_here; (with_reducible show wpAny _ _ (subscriptTail _ _ (Value.ref _) (Value.int _ _)) _ _ _); k_dflt (refine' kb_lst ?lz9 ?az9 ?bz9 ?xz9 ?_; (case lz9 => is_list); (case xz9 => first | with_reducible assumption | assumption); (case az9 => omega); (case bz9 => omega); k_whole))
  k_with "m subscriptTail Attribute Name BinOp ref int" => (k_here; (with_reducible show wpAny _ _ (subscriptTail _ _ (Value.ref _) (Value.int _ _)) _ _ _); k_dflt (refine' kb_lst ?lz9 ?az9 ?bz9 ?xz9 ?_; (case lz9 => is_list); (case xz9 => first | with_reducible assumption | assumption); (case az9 => omega); (case bz9 => omega); k_whole))
  k_with "m subscriptTail Attribute Subscript Name ref int" => (k_here; (with_reducible show wpAny _ _ (subscriptTail _ _ (Value.ref _) (Value.int _ _)) _ _ _); k_dflt (refine' kb_lst ?lz9 ?az9 ?bz9 ?xz9 ?_; (case lz9 => is_list); (case xz9 => first | with_reducible assumption | assumption); (case az9 => omega); (case bz9 => omega); k_whole))
  trivial
noncomputable def pick {α : Type} (l : List α) (d : α) (ks : List Int) : List α := ks.map fun k => l.getD k.toNat d
/-- the source of a place: Python's own reckoning -/
noncomputable def srcOf : List Int → List Int → Int → Int → Int
  | e :: es, t :: ts, r, a => srcOf es ts (Int.fdiv r e) (a + Int.fmod r e * t)
  | _, _, _, a => a
noncomputable def restOf : List Int → Int → Int
  | [], r => r
  | e :: es, r => restOf es (Int.fdiv r e)
theorem restOf_snoc : ∀ (es : List Int) (e r : Int), restOf (es ++ [e]) r = Int.fdiv (restOf es r) e
  | [], _, _ => rfl
  | _ :: es, e, r => restOf_snoc es e _
theorem srcOf_snoc : ∀ (es ts : List Int) (e t r a : Int), es.length = ts.length → srcOf (es ++ [e]) (ts ++ [t]) r a = srcOf es ts r a + Int.fmod (restOf es r) e * t
  | [], [], _, _, _, _, _ => rfl
  | _ :: es, _ :: ts, e, t, r, a, h => srcOf_snoc es ts e t _ _ (by simpa using h)
theorem restOf_bound : ∀ (es : List Int) (r b : Int), (∀ e ∈ es, 1 ≤ e) → 0 ≤ r → r ≤ b → 0 ≤ restOf es r ∧ restOf es r ≤ b
  | [], _, _, _, h0, h1 => ⟨h0, h1⟩
  | e :: es, r, b, h, h0, h1 => by
    have he := h e (.head _)
    refine restOf_bound es _ b (fun x hx => h x (.tail _ hx)) (Int.fdiv_nonneg h0 (by omega)) ?_
    rw [Int.fdiv_eq_ediv_of_nonneg _ (by omega)]
    exact Int.le_trans (Int.ediv_le_self _ h0) h1
theorem pick_len {α : Type} (l : List α) (d : α) (ks : List Int) : (pick l d ks).length = ks.length := by simp [pick]
theorem pick_get {α : Type} {l : List α} {d : α} {ks : List Int} {i : Nat} {k : Int} (h : ks[i]? = some k) : (pick l d ks)[i]? = some (l.getD k.toNat d) := by simp [pick, h]
theorem getD_some {α : Type} {l : List α} {d : α} {k : Nat} (h : k < l.length) : l[k]? = some (l.getD k d) := by rw [List.getD_eq_getElem?_getD, List.getElem?_eq_getElem h]; rfl
theorem getD_mem {α : Type} {l : List α} {d : α} {k : Nat} (h : k < l.length) : l.getD k d ∈ l := List.mem_of_getElem? (getD_some h)
theorem RowsAre.pick {At : Addr → Obj → Prop} {rs : List Value} {ns : List (Option (List Value))} (h : RowsAre At rs ns) : ∀ {ks : List Int}, (∀ k ∈ ks, 0 ≤ k ∧ k < (ns.length : Int)) → RowsAre At (Mine.pick rs .none ks) (Mine.pick ns none ks)
  | [], _ => .nil
  | k :: ks, hk => by
    have h1 := hk k (.head _)
    obtain ⟨r, e, q⟩ := h.get (getD_some (d := none) (show k.toNat < ns.length by omega))
    have ih := RowsAre.pick h (ks := ks) fun x hx => hk x (.tail _ hx)
    have e2 : rs.getD k.toNat .none = r := by rw [List.getD_eq_getElem?_getD, e]; rfl
    show RowsAre At (rs.getD k.toNat .none :: Mine.pick rs .none ks) (ns.getD k.toNat none :: Mine.pick ns none ks)
    rw [e2]
    exact .cons q ih
noncomputable def nmOf (ns : List (Option (List Value))) : Option (List (Option (List Value))) := if ns.all (·.isNone) = true then none else some ns
theorem pick_snoc {α : Type} (l : List α) (d : α) (ks : List Int) (k : Int) : pick l d (ks ++ [k]) = pick l d ks ++ [l.getD k.toNat d] := by simp [pick]

theorem ints_pick {ds : List Value} {es : List Int} (h : IntsAre ds es) : ∀ {ks : List Int}, (∀ k ∈ ks, 0 ≤ k ∧ k < (es.length : Int)) → IntsAre (pick ds .none ks) (pick es 0 ks)
  | [], _ => .nil
  | k :: ks, hk => by
    have h1 := hk k (.head _)
    obtain ⟨t, ht⟩ := h.get k.toNat (es.getD k.toNat 0) (by rw [List.getD_eq_getElem?_getD, List.getElem?_eq_getElem (by omega)]; rfl)
    have e1 : ds.getD k.toNat .none = .int (es.getD k.toNat 0) t := by rw [List.getD_eq_getElem?_getD, ht]; rfl
    have ih := ints_pick h (ks := ks) fun x hx => hk x (.tail _ hx)
    show IntsAre (ds.getD k.toNat .none :: pick ds .none ks) (es.getD k.toNat 0 :: pick es 0 ks)
    rw [e1]
    exact .cons _ _ ih
set_option maxHeartbeats 800000 in
theorem aperm_con (w : World) (v iv dl : Value) (lp : Addr) (is ds ps : List Value) (es pis : List Int) (nm : Option (List (Option (List Value)))) (hd0 : Hold (IntsAre ds es)) (hf : Few es) (hp0 : Hold (IntsAre ps pis)) (hall : AllIn pis) (hlen : pis.length = es.length) (hin : ∀ k ∈ pis, 0 ≤ k ∧ k < (es.length : Int)) (hz : is.length ≤ 27)
    (hsrc : ∀ i : Nat, i < is.length → 0 ≤ srcOf (pick es 0 pis) (pick (stepsOf 1 es) 0 pis) i 0 ∧ srcOf (pick es 0 pis) (pick (stepsOf 1 es) 0 pis) i 0 < (is.length : Int))
    (hnl : (nsOf es.length nm).length = es.length) (hns : ∀ l, some l ∈ nsOf es.length nm → l.length ≤ 4096) :
    Con w 20 183 [v, .ref lp] (fun h => ArrIs w (hAt h) v iv dl is ds nm ∧ h.IsList lp ps.toArray) (fun r nx => ∃ iv' dl', ArrIs w (lAt nx) r iv' dl' ((List.range is.length).map (fun p : Nat => is.getD (srcOf (pick es 0 pis) (pick (stepsOf 1 es) 0 pis) p 0).toNat .none)) (pick ds .none pis) (nmOf (pick (nsOf es.length nm) none pis))) := by
  refine Con.ofC (binds := [(Str.ofString "v", v), (Str.ofString "perm", .ref lp)]) (by k_is) (by k_is) (fun s => BindsTo.of_eq rfl) rfl (by decide +kernel) rfl rfl rfl ?_
  intro loose mean mg mb dp un gd outer A₀ base H h₁ L' s cells Q B F X N Y T hd' hu hp hs hret
  subst hs
  obtain ⟨o1, o2, hE, d1, d2⟩ := CellsAre.two Y
  subst hE; clear Y
  replace d1 : o1.data = .cell none := d1
  replace d2 : o2.data = .cell (some v) := d2
  replace F : Fr H L' s.heap (fun y => if y = Str.ofString "perm" then some (.ref lp) else none) := F
  rw [show (fun y => if y = Str.ofString "perm" then some (Value.ref lp) else none) = fun y => List.lookup y [(Str.ofString "perm", .ref lp)] from funext fun y => lookup_if y _ _ []] at F
  obtain ⟨hA, hlp⟩ := hp
  obtain ⟨t, av, dv, t2, kvs, rs, a1, a2, a3, a4, a5, a6, a7, a8, a9⟩ := hA.open
  clear hA
  have a0 : DimIs w (hAt H) v dl := ⟨_, _, _, _, _, _, _, a1, a3, a4, a5⟩
  have b1 := a1; have b2 := a2; have b6 := a6; have b5 := a5; have b3 := a3
  obtain ⟨x, dx, u1, u2, u3, u4, u5, rfl, q1, q2⟩ := b1
  obtain ⟨li, n1, rfl, q3⟩ := b2
  obtain ⟨ld, n2, rfl, q4⟩ := b6
  obtain ⟨y, dy, w1, w2, w3, w4, w5, rfl, q5, q6⟩ := b5
  obtain ⟨ad, oo, rfl, q7, q8, q9⟩ := b3
  dsimp only [hAt] at q1 q2 q3 q4 q5 q6 q7
  have l3 := lst_of q3
  have l4 := lst_of q4
  have hds : ds.length = es.length := hd0.out.length
  have hps : ps.length = pis.length := hp0.out.length
  have hes := hf.1
  have z1 : ds.length ≤ 4096 := by omega
  have z2 : ps.length ≤ 4096 := by omega
  have z3 : pis.length ≤ 3 := by omega
  rw [hds] at a8
  have hrs : rs.length = es.length := by rw [a8.len, hnl]
  k_steps
  (rename Fr _ _ _ _ => F1); (rename News _ _ _ _ => N1)
  have z2' : ps.toArray.size ≤ sizeLine := by rw [List.size_toArray, sizeLine_eq]; omega
  obtain ⟨oa, ob, ha, hb, N1⟩ := news_two N1
  subst ha; subst hb
  refine ⟨?_⟩
  refine LCg.CompSrc.base rfl F1 N1 hlp z2' ?_
  intro g'
  rw [List.size_toArray]
  refine rest_ind ps.length (fun i ys news => Hold (news = [(L' + 1 + 1, oa), (L' + 1, ob)] ∧ ys = pick ds .none (pis.take i))) ?_ ?_ ps.length 0 [] _ (by omega) ⟨rfl, rfl⟩
  · rintro i ys news v I oI C oC D m₂ h tk E' hi ⟨rfl, rfl⟩ hP hC hx F' N' o ne
    have hv : ps[i]? = some v := by simpa using hP
    obtain ⟨n, t', rfl, hn⟩ := hp0.out.at i v hv
    have hk := hin n (List.mem_of_getElem? hn)
    have e1 := take_snoc hn
    have hg : ds[n.toNat]? = some (ds.getD n.toNat .none) := by rw [List.getD_eq_getElem?_getD]; rw [List.getElem?_eq_getElem (by omega)]; rfl
    simp only [LCg.Off3, and_true] at o
    clear F1 N1
    k_steps
    exact ⟨rfl, by rw [e1, pick_snoc]⟩
  · rintro ys news ⟨rfl, rfl⟩
    intro D h tk F' N' o1
    rw [hps, List.take_length] at N'
    clear F1 N1
    have hi' : Hold (IntsAre (pick ds .none pis) (pick es 0 pis)) := ⟨ints_pick hd0.out hin⟩
    have z4 : is.length ≤ 4096 := by omega
    have z5 : (pick ds .none pis).length ≤ 4096 := by simp only [pick, List.length_map]; omega
    k_steps
    (rename Fr _ _ _ _ => F1); (rename News _ _ _ _ => N1); (rename IsRange _ _ _ _ _ _ _ _ => rg); (rename Hold (IntsAre _ (stepsOf _ _)) => hst); (rename List Value => stv)
    obtain ⟨lq, ls, hlq, hls, N1⟩ := news_name N1
    subst hlq; subst hls
    simp only [lookup_if] at F1
    refine ⟨?_⟩
    refine loop_range (n := is.length) (fun i m₁ nx => Hold (∃ c c2, nx = (lq, W.listOf ((List.range i).map (fun p : Nat => is.getD (srcOf (pick es 0 pis) (pick (stepsOf 1 es) 0 pis) p 0).toNat .none)).toArray c) :: [(ls, W.listOf stv.toArray c2), (D, LCg.lst (pick ds .none pis)), (L' + 1 + 1, oa), (L' + 1, ob)] ∧
        ∀ y, [Str.ofString "place", Str.ofString "rest", Str.ofString "source", Str.ofString "axis"].contains y = false → m₁ y = List.lookup y [(Str.ofString "items", .ref lq), (Str.ofString "steps", .ref ls), (Str.ofString "extents", .ref D), (Str.ofString "perm", .ref lp)]))
      rfl rg rfl (small_of (by omega) (by omega)) F1 N1 ⟨_, _, rfl, fun _ _ => rfl⟩ ?_ ?_
    · rintro i tp m₁ nx h tk own hi hoff ⟨c, c2, rfl, hm⟩ F' N'
      have hsr := hsrc i hi
      have hlen2 : (pick es 0 pis).length = pis.length := by simp [pick]
      have hoff' : ∀ p ∈ own, p.1 ≠ lq := fun p hp => hoff p hp lq (.head _)
      have hit : is[(srcOf (pick es 0 pis) (pick (stepsOf 1 es) 0 pis) i 0).toNat]? = some (is.getD (srcOf (pick es 0 pis) (pick (stepsOf 1 es) 0 pis) i 0).toNat .none) := by
        rw [List.getD_eq_getElem?_getD, List.getElem?_eq_getElem (by omega)]; rfl
      rw [frame_eq hm] at F'
      simp only [List.cons_append, List.nil_append] at N'
      clear F1 N1
      k_steps
      (rename Fr _ _ _ _ => F3); (rename News _ _ _ _ => N3); (rename IsRange _ _ _ _ _ _ _ _ => rg3)
      refine ⟨?_⟩
      refine loop_range (n := ps.length) (fun k m nx => Hold (nx = (lq, W.listOf ((List.range i).map (fun p : Nat => is.getD (srcOf (pick es 0 pis) (pick (stepsOf 1 es) 0 pis) p 0).toNat .none)).toArray c) :: (ls, W.listOf stv.toArray c2) :: (D, LCg.lst (pick ds .none pis)) :: (L' + 1 + 1, oa) :: (L' + 1, ob) :: own ∧
          (∃ t, m (Str.ofString "source") = some (.int (srcOf ((pick es 0 pis).take k) ((pick (stepsOf 1 es) 0 pis).take k) i 0) t)) ∧ (∃ t, m (Str.ofString "rest") = some (.int (restOf ((pick es 0 pis).take k) i) t)) ∧
          ∀ y, [Str.ofString "source", Str.ofString "rest", Str.ofString "axis"].contains y = false → m y = if y = Str.ofString "place" then some (.int (i : Int) tp) else if [Str.ofString "place", Str.ofString "rest", Str.ofString "source", Str.ofString "axis"].contains y = true then m₁ y else List.lookup y [(Str.ofString "items", .ref lq), (Str.ofString "steps", .ref ls), (Str.ofString "extents", .ref D), (Str.ofString "perm", .ref lp)]))
        rfl rg3 rfl (small_of (by omega) (by omega)) F3 N3 ⟨rfl, ⟨_, rfl⟩, ⟨_, rfl⟩, fun y hy => ?_⟩ ?_ ?_
      · have h1 : y ≠ Str.ofString "source" := by rintro rfl; exact absurd hy (by decide)
        have h2 : y ≠ Str.ofString "rest" := by rintro rfl; exact absurd hy (by decide)
        simp only [if_neg h1, if_neg h2]
      · rintro k ta m₂ nx h tk own2 hk hoff2 ⟨rfl, ⟨t1, hs1⟩, ⟨t2, hs2⟩, hm2⟩ F' N'
        clear F3 N3
        have hpk := getD_some (d := 0) (show k < pis.length by omega)
        generalize pis.getD k 0 = pk at hpk
        have hpb := hin pk (List.mem_of_getElem? hpk)
        obtain ⟨tpk, htpk⟩ := hp0.out.get k pk hpk
        have hes := hf.2 _ (getD_mem (d := 0) (show pk.toNat < es.length by omega))
        have hee := pick_get (l := es) (d := 0) hpk
        have hse := pick_get (l := stepsOf 1 es) (d := 0) hpk
        have hsb := hf.steps _ (getD_mem (d := 0) (show pk.toNat < (stepsOf 1 es).length by rw [stepsOf_len]; omega))
        have hsg := getD_some (d := 0) (show pk.toNat < (stepsOf 1 es).length by rw [stepsOf_len]; omega)
        obtain ⟨te, hte⟩ := hi'.out.get k _ hee
        obtain ⟨ts, hts⟩ := hst.out.get pk.toNat _ hsg
        have e3 := take_snoc hee
        have e4 := take_snoc hse
        have hrb := restOf_bound ((pick es 0 pis).take k) i 27 (fun e he => by
          obtain ⟨q, hq, rfl⟩ := List.mem_map.mp (List.mem_of_mem_take he)
          exact (hf.2 _ (getD_mem (show q.toNat < es.length by have := hin q hq; omega))).1) (by omega) (by omega)
        have e5 : ((pick es 0 pis).take k).length = ((pick (stepsOf 1 es) 0 pis).take k).length := by simp [pick_len]
        generalize es.getD pk.toNat 0 = ee at *
        generalize (stepsOf 1 es).getD pk.toNat 0 = ss at *
        have hte' : (pick ds .none pis)[((k : Nat) : Int).toNat]? = some (.int ee te) := hte
        have htpk' : ps[((k : Nat) : Int).toNat]? = some (.int pk tpk) := htpk
        rw [frame_eq3 hs1 hs2 hm2] at F'
        simp only [List.cons_append] at N'
        clear hsr hit hoff hoff' hm hlen2 hsg hee hse hte htpk hpk hst hi' z4 z5 hi hsrc hin hall hp0 hf hd0 hns hnl hret a0 a1 a2 a3 a4 a5 a6 a7 a8 a9 q1 q2 q3 q4 q5 q6 q7 q8 q9 l3 l4 rg rg3
        k_steps
        (rename Fr _ _ _ _ => F4); (rename News _ _ _ _ => N4)
        refine' inv_same F4 N4 hoff2 (Hold.mk ⟨rfl, ⟨_, ?en1⟩, ⟨_, ?en2⟩, ?en3⟩)
        case en1 => rw [e3, e4, srcOf_snoc _ _ _ _ _ _ e5]; rfl
        case en2 => rw [e3, restOf_snoc]; rfl
        case en3 =>
          intro y hy
          have h1 : y ≠ Str.ofString "source" := by rintro rfl; exact absurd hy (by decide)
          have h2 : y ≠ Str.ofString "rest" := by rintro rfl; exact absurd hy (by decide)
          have h3 : y ≠ Str.ofString "axis" := by rintro rfl; exact absurd hy (by decide)
          have h4 : [Str.ofString "axis"].contains y = false := by simpa using h3
          simp only [if_neg h1, if_neg h2, if_neg h3, h4, Bool.false_eq_true, if_false]
      · rintro m₂ nx h tk ⟨rfl, ⟨t1, hs1⟩, ⟨t2, hs2⟩, hm2⟩ F' N'
        have e6 : (pick es 0 pis).take ps.length = pick es 0 pis := List.take_of_length_le (by rw [pick_len]; omega)
        have e7 : (pick (stepsOf 1 es) 0 pis).take ps.length = pick (stepsOf 1 es) 0 pis := List.take_of_length_le (by rw [pick_len]; omega)
        rw [e6, e7] at hs1
        rw [e6] at hs2
        rw [frame_eq3 hs1 hs2 hm2] at F'
        clear F3 N3 hs1 hs2 rg rg3 hst hi' hlen2
        have hlr : ((List.range i).map (fun p : Nat => is.getD (srcOf (pick es 0 pis) (pick (stepsOf 1 es) 0 pis) p 0).toNat .none)).length ≤ 4096 := by rw [List.length_map, List.length_range]; omega
        k_steps
        (rename Fr _ _ _ _ => F4); (rename News _ _ _ _ => N4)
        refine' inv_close (nw := []) (tl := [(ls, W.listOf stv.toArray c2), (D, LCg.lst (pick ds .none pis)), (L' + 1 + 1, oa), (L' + 1, ob)]) F4 N4 hoff (fun _ _ _ h => nomatch h) (Hold.mk ⟨_, _, ?en4, ?en5⟩)
        case en4 => rw [List.range_succ, List.map_append]; rfl
        case en5 =>
          intro y hy
          have h1 : y ≠ Str.ofString "source" := by rintro rfl; exact absurd hy (by decide)
          have h2 : y ≠ Str.ofString "rest" := by rintro rfl; exact absurd hy (by decide)
          have h3 : y ≠ Str.ofString "axis" := by rintro rfl; exact absurd hy (by decide)
          have h5 : y ≠ Str.ofString "place" := by rintro rfl; exact absurd hy (by decide)
          have h4 : [Str.ofString "axis"].contains y = false := by simpa using h3
          simp only [if_neg h1, if_neg h2, if_neg h3, if_neg h5, h4, hy, Bool.false_eq_true, if_false]
    · rintro m₁ nx h tk ⟨c, c2, rfl, hm⟩ F' N'
      rw [frame_eq hm] at F'
      clear F1 N1
      k_steps
      (rename Fr _ _ _ _ => F3); (rename News _ _ _ _ => N3)
      refine ⟨?_⟩
      refine LCg.CompSrc.base rfl F3 N3 hlp z2' ?_
      intro g'
      rw [List.size_toArray]
      refine rest_ind ps.length (fun i ys news => Hold (news = [(lq, W.listOf ((List.range is.length).map (fun p : Nat => is.getD (srcOf (pick es 0 pis) (pick (stepsOf 1 es) 0 pis) p 0).toNat .none)).toArray c), (ls, W.listOf stv.toArray c2), (D, LCg.lst (pick ds .none pis)), (L' + 1 + 1, oa), (L' + 1, ob)] ∧ ys = pick rs .none (pis.take i))) ?_ ?_ ps.length 0 [] _ (by omega) ⟨rfl, rfl⟩
      · rintro i ys news v I oI C oC D m₂ h tk E' hi ⟨rfl, rfl⟩ hP hC hx F' N' o ne
        have hv : ps[i]? = some v := by simpa using hP
        obtain ⟨n, t', rfl, hn⟩ := hp0.out.at i v hv
        have hk := hin n (List.mem_of_getElem? hn)
        have e1 := take_snoc hn
        have hg : rs[n.toNat]? = some (rs.getD n.toNat .none) := getD_some (by omega)
        simp only [LCg.Off3, and_true] at o
        clear F3 N3
        k_steps
        exact ⟨rfl, by rw [e1, pick_snoc]⟩
      · rintro ys news ⟨rfl, rfl⟩
        intro D2 h tk F' N' o1
        rw [hps, List.take_length] at N'
        clear F3 N3
        have z6 : (pick rs .none pis).length ≤ 8 := by rw [pick_len]; omega
        have hns' : ∀ l, some l ∈ pick (nsOf es.length nm) none pis → l.length ≤ 4096 := by
          intro l hl
          obtain ⟨k, hk, e⟩ := List.mem_map.mp hl
          exact hns l (e ▸ getD_mem (by have := hin k hk; omega))
        have hrp : RowsAre (hAt H) (pick rs .none pis) (pick (nsOf es.length nm) none pis) := a8.pick (by rw [hnl]; exact hin)
        k_steps
        (rename Fr _ _ _ _ => F4); (rename News _ _ _ _ => N4); (rename VecIs _ _ _ _ _ _ => hv4); (rename AttIs _ _ _ _ _ _ => ha4)
        refine hret _ _ _ _ _ F4 N4 ⟨_, _, _, _, hv4.mono fun _ _ h => List.mem_append.mpr (.inl h), ⟨_, _, rfl, List.mem_append.mpr (.inr (.tail _ (.head _)))⟩, ha4.mono fun _ _ h => List.mem_append.mpr (.inl h)⟩
end Mine
end
section
open PySem PySem.W PySem.Calls PySem.Spec PyProof.Rows
theorem Mine.dev10 : (PySem.Challenge.rw_pq1314_01.foot = 6) → Mine.hd.heap_39 = Mine.hd.heap_39 := by
  k_fill
  intro _; rfl
namespace Mine
theorem regB10_1 : True := by
  k_with_none
  k_with "m k_ne" => (refine neN ?_; (try dsimp only); first
    | with_reducible assumption
    | exact Ne.symm (by with_reducible assumption)
    | ((repeat (rename _ ∧ _ => q8z9; rcases q8z9 with ⟨_, _⟩)); first
      | with_reducible assumption
      | exact Ne.symm (by with_reducible assumption)
      | exact Nat.ne_of_gt (by with_reducible assumption)
      | exact Nat.ne_of_lt (by with_reducible assumption)))
  k_with "m k_all" => assumption
  k_with "m k_handed" => assumption
  k_with "m call ref" => (k_here; (with_reducible show wpAny _ _ (call (Value.ref 124) [_]) _ _ _); k_dflt (refine' dim_con _ _ _ ?hdlz9 _ _ _ _ _ _ _ _ _ _ _ _ _ _ _ _ _ _ _ _ _ _ ?Bz9 ?Fz9 ?Xz9 ?Nz9 ?Tz9 ?ckz9 ?hdz9 ?huz9 ?hpz9 ?_; (case Bz9 => k_asm); (case Fz9 => k_asm); (case Xz9 => k_asm); (case Nz9 => k_asm); (case Tz9 => k_asm); (case hpz9 => exact DimIs.mono (Fr.keep (by k_asm)) (by assumption)); (case hdlz9 => k_handed); (case ckz9 => first | rfl | assumption); (case hdz9 => omega); (case huz9 => omega); k_whole); intro r'9 nx'9 h'9 tk'9 F'9 N'9 ne'9 P'9; obtain ⟨hr'9, hn'9⟩ := P'9; subst hr'9; subst hn'9; (have nr'9 := Apart.mk ne'9); (try simp only [List.cons_append, List.nil_append] at N'9); (try simp only [List.forall_mem_cons, List.not_mem_nil, false_implies, implies_true, and_true] at ne'9); (try k_sweep))
  k_with "m call ref" => (k_here; (with_reducible show wpAny _ _ (call (Value.ref 178) [_, _]) _ _ _); k_dflt (refine' check_con _ _ _ _ _ _ ?hd0z9 ?hnz9 ?hallz9 ?hcz9 _ _ _ _ _ _ _ _ _ _ _ _ _ _ _ _ _ _ _ _ _ _ ?Bz9 ?Fz9 ?Xz9 ?Nz9 ?Tz9 ?ckz9 ?hdz9 ?huz9 ?hpz9 ?_; (case Bz9 => k_asm); (case Fz9 => k_asm); (case Xz9 => k_asm); (case Nz9 => k_asm); (case Tz9 => k_asm); (case hpz9 => is_list); (case hd0z9 => assumption); (case hnz9 => first | assumption | omega); (case hallz9 => assumption); (case hcz9 => omega); (case ckz9 => first | rfl | assumption); (case hdz9 => omega); (case huz9 => omega); k_whole); intro r'9 nx'9 h'9 tk'9 F'9 N'9 ne'9 P'9; obtain ⟨hr'9, hn'9⟩ := P'9; subst hr'9; subst hn'9; (have nr'9 := Apart.mk ne'9); (try simp only [List.cons_append, List.nil_append] at N'9); (try simp only [List.forall_mem_cons, List.not_mem_nil, false_implies, implies_true, and_true] at ne'9); (try k_sweep))
  k_with "m call ref" => (k_here; (with_reducible show wpAny _ _ (call (Value.ref 171) [_]) _ _ _); k_dflt (refine' steps_con _ _ _ _ ?hd0z9 ?hfz9 _ _ _ _ _ _ _ _ _ _ _ _ _ _ _ _ _ _ _ _ _ _ ?Bz9 ?Fz9 ?Xz9 ?Nz9 ?Tz9 ?ckz9 ?hdz9 ?huz9 ?hpz9 ?_; (case Bz9 => k_asm); (case Fz9 => k_asm); (case Xz9 => k_asm); (case Nz9 => k_asm); (case Tz9 => k_asm); (case hpz9 => is_list); (case hd0z9 => assumption); (case hfz9 => assumption); (case ckz9 => first | rfl | assumption); (case hdz9 => omega); (case huz9 => omega); k_whole); intro r'9 nx'9 h'9 tk'9 F'9 N'9 ne'9 P'9; obtain ⟨l'9, n'9, vs'9, hr'9, hn'9, hi'9⟩ := P'9; subst hr'9; subst hn'9; replace hi'9 := Hold.mk hi'9; (have nr'9 := Apart.mk ne'9); (try simp only [List.cons_append, List.nil_append] at N'9); (try simp only [List.forall_mem_cons, List.not_mem_nil, false_implies, implies_true, and_true] at ne'9); (try k_sweep))
  k_with "m call ref" => (k_here; (with_reducible show wpAny _ _ (call (Value.ref 131) [_, _]) _ _ _); k_dflt (refine' axis_con _ _ _ _ _ _ ?h0z9 ?h1z9 ?hrz9 _ _ _ _ _ _ _ _ _ _ _ _ _ _ _ _ _ _ _ _ _ _ ?Bz9 ?Fz9 ?Xz9 ?Nz9 ?Tz9 ?ckz9 ?hdz9 ?huz9 ?hpz9 ?_; (case Bz9 => k_asm); (case Fz9 => k_asm); (case Xz9 => k_asm); (case Nz9 => k_asm); (case Tz9 => k_asm); (case hpz9 => exact RowsIs.mono (Fr.keep (by k_asm)) (by assumption)); (case h0z9 => omega); (case h1z9 => omega); (case hrz9 => assumption); (case ckz9 => first | rfl | assumption); (case hdz9 => omega); (case huz9 => omega); k_whole); intro r'9 nx'9 h'9 tk'9 F'9 N'9 ne'9 P'9; obtain ⟨hr'9, hn'9⟩ := P'9; subst hr'9; subst hn'9; (have nr'9 := Apart.mk ne'9); (try simp only [List.cons_append, List.nil_append] at N'9); (try simp only [List.forall_mem_cons, List.not_mem_nil, false_implies, implies_true, and_true] at ne'9); (try k_sweep))
  k_with "m call ref" => (k_here; (with_reducible show wpAny _ _ (call (Value.ref 150) [_, _, _, _]) _ _ _); k_dflt (refine' newarr_con _ _ _ _ ?hivz9 _ _ _ _ _ ?hzz9 ?hzdz9 ?hnsz9 _ _ _ _ _ _ _ _ _ _ _ _ _ _ _ _ _ _ _ _ _ _ ?Bz9 ?Fz9 ?Xz9 ?Nz9 ?Tz9 ?ckz9 ?hdz9 ?huz9 ?hpz9 ?_; (case Bz9 => k_asm); (case Fz9 => k_asm); (case Xz9 => k_asm); (case Nz9 => k_asm); (case Tz9 => k_asm); (case hpz9 => exact ⟨by is_list, by is_list, RowsAre.mono (Fr.keep (by k_asm)) (by assumption)⟩); (case hivz9 => k_handed); (case hzz9 => first | assumption | exact Nat.le_of_ble_eq_true rfl | omega); (case hzdz9 => first | assumption | exact Nat.le_of_ble_eq_true rfl | omega); (case hnsz9 => assumption); (case ckz9 => first | rfl | assumption); (case hdz9 => omega); (case huz9 => omega); k_whole); intro r'9 nx'9 h'9 tk'9 F'9 N'9 ne'9 P'9; obtain ⟨av'9, dl'9, hv'9, ha'9⟩ := P'9; (have nr'9 := Apart.mk ne'9); (try simp only [List.cons_append, List.nil_append] at N'9); (try simp only [List.forall_mem_cons, List.not_mem_nil, false_implies, implies_true, and_true] at ne'9); (try k_sweep))
  k_with "m k_inst" => (refine' kb_inst ?Fz9 ?h1z9 ?h2z9; (case Fz9 => k_asm); (case h1z9 => assumption); (case h2z9 => assumption))
  k_with "m subscriptTail" => (k_here; (with_reducible show wpAny _ _ (subscriptTail _ _ (Value.ref _) (Value.str _ _)) _ _ _); k_dflt (refine' kb_item ?Fz9 ?oz9 ?dz9 ?lz9 ?_; (case Fz9 => k_asm); (case oz9 => assumption); (case dz9 => assumption); (case lz9 => first | assumption | rfl); k_whole))
  k_with "m compareOp In str ref" => (k_here; k_dflt (refine' kb_in ?Fz9 ?oz9 ?dz9 ?sz9 ?lz9 ?_; (case Fz9 => k_asm); (case oz9 => assumption); (case dz9 => assumption); (case sz9 => assumption); (case lz9 => first | assumption | rfl); k_whole))
  k_with "m compareOp NotIn str ref" => (k_here; k_dflt (refine' kb_notIn ?Fz9 ?oz9 ?dz9 ?sz9 ?lz9 ?_; (case Fz9 => k_asm); (case oz9 => assumption); (case dz9 => assumption); (case sz9 => assumption); (case lz9 => first | assumption | rfl); k_whole))
  k_with "m subscriptTail" => (k_here; (with_reducible show wpAny _ _ (subscriptTail _ _ (Value.ref _) (Value.int _ _)) _ _ _); k_dflt (refine' kb_lst ?lz9 ?az9 ?bz9 ?xz9 ?_; (case lz9 => is_list); (case xz9 => first | with_reducible assumption | assumption); (case az9 => omega); (case bz9 => omega); k_whole))
  k_with "m eval ListComp" => (k_here; first
  | (lct_look; k_dflt (refine LCt.ListComp_T (F₀ := by k_asm) (by with_unfolding_all rfl) (by decide) (by rfl) (by decide) (by rfl) ?_))
  | ((first | lcg_look | lcf_look); k_dflt (refine LCg.ListComp_U (F₀ := by k_asm) (by with_unfolding_all rfl) (by decide) (by rfl) (by decide) (by rfl) ?_)))
  k_with "m exec Assign cons ListComp" => (k_here; first
  | (lct_look; k_dflt (refine LCt.Assign_ListComp_T (F₀ := by k_asm) (by rfl) (by with_unfolding_all rfl) (by with_unfolding_all rfl) (by decide) (by rfl) (by decide) (by rfl) (by rfl) (by rfl) ?_))
  | ((first | lcg_look | lcf_look); k_dflt (refine LCg.Assign_ListComp_U (F₀ := by k_asm) (by rfl) (by with_unfolding_all rfl) (by with_unfolding_all rfl) (by decide) (by rfl) (by decide) (by rfl) (by rfl) (by rfl) ?_)))
  k_with "m call builtin:len" => (k_here; (with_reducible show wpAny _ _ (call (Value.builtin "len") [Value.ref _]) _ _ _); k_dflt (refine' kb_len ?lz9 ?zz9 ?_; (case lz9 => is_list); (case zz9 => first | assumption | omega); k_whole))
  k_with "m exec For Name Name cons nil" => (k_here; k_dflt (refine' For_invVF ?Fz9 ?k1z9 ?k2z9 ?_; (case Fz9 => k_asm); (case k1z9 => exact rfl); (case k2z9 => exact rfl); k_whole))
  k_with "m exec For Name Call cons nil" => (k_here; k_dflt (refine' For_invVF ?Fz9 ?k1z9 ?k2z9 ?_; (case Fz9 => k_asm); (case k1z9 => exact rfl); (case k2z9 => exact rfl); k_whole))
  k_with "m call builtin:list.append" => (k_here; (with_reducible show wpAny _ _ (call (Value.builtin _) [Value.ref _, _]) _ _ _); k_dflt (refine' kb_append ?k1z9 ?k2z9 ?k3z9 ?zz9 ?_; (case k1z9 => k_asm); (case k2z9 => k_asm); (case k3z9 => k_upd); (case zz9 => first | assumption | omega); k_whole); intro h'9 F'9 N'9; (try k_sweep))
  k_with "m k_all" => exact apart_all (by assumption) (by k_mem)
  k_with "m mul_fits" => first | exact PySem.IntMulOk.of_right (PySem.intBits_le_64 (by omega) (by omega)) | exact PySem.IntMulOk.of_left (PySem.intBits_le_64 (by omega) (by omega))
  k_with "m call type:range" => (k_here; (with_reducible show wpAny _ _ (call (Value.type _) [Value.int _ _]) _ _ _); k_dflt (refine' range1_rows ?Fz9 ?Nz9 ?_; (case Fz9 => k_asm); (case Nz9 => k_asm)); intro h'9 tk'9 t1'9 t2'9 t3'9 rg'9 F'9 N'9 rk'9; clear rk'9; (try k_sweep))
  k_with "m compareOp NotIn int ref" => (k_here; k_dflt (refine' ints_in ?lz9 ?iz9 ?mz9 ?_; (case lz9 => is_list); (case iz9 => exact Hold.out (by assumption)); (case mz9 => exact AllIn.out (by assumption) _ (by omega) (by omega)); k_whole))
  k_with "m is_list" => first | with_reducible assumption | exact News.isList (by k_asm) (by k_mem) | exact Fr.lst (by assumption) (by assumption)
  k_with "m loadName" => (k_here; k_dflt (refine' kb_ldn ?Fz9 ?vz9 ?_ ?az9 ?bz9; (case Fz9 => k_asm); (case az9 => rfl); (case bz9 => rfl); (case vz9 => rfl); k_whole))
  k_with "m pyIter ref" => (k_here; (with_reducible show wpAny _ _ (pyIter (Value.ref _)) (fun it s₂ => LoopAtV _ _ _ _ _ _ _ _ _ it s₂) _ _); refine Halt.out ?_)
  k_with "m CompSrc" => (refine Halt.out ?_)
  k_with "m CompSrcT" => (refine Halt.out ?_)
  k_with "m binaryOp Mod int int" => (k_here; refine mod_int' (by omega) ?_)
  k_with "m binaryOp FloorDiv int int" => (k_here; refine floordiv_int (by omega) ?_ (Or.inl (PyProof.noPylong_small (by omega))))
  k_with "m subscriptTail Name Name ref int" => (k_here; (with_reducible show wpAny _ _ (subscriptTail _ _ (Value.ref _) (Value.int _ _)) _ _ _); k_dflt (refine' kb_lst ?lz9 ?az9 ?bz9 ?xz9 ?_; (case lz9 => is_list); (case xz9 => first | with_reducible assumption | assumption); (case az9 => omega); (case bz9 => omega); k_whole))
  k_with "m subscriptTail Name Subscript ref int" => (k_here; (with_reducible show wpAny _ _ (subscriptTail _ _ (Value.ref _) (Value.int _ _)) _ _ _); k_dflt (refine' kb_lst ?lz9 ?az9 ?bz9 ?xz9 ?_; (case lz9 => is_list); (case xz9 => first | with_reducible assumption | assumption); (case az9 => omega); (case bz9 => omega); k_whole))
  k_with "m subscriptTail Attribute Name Name ref int" => (k_here; (with_reducible show wpAny _ _ (subscriptTail _ _ (Value.ref _) (Value.int _ _)) _ _ _); k_dflt (refine' kb_lst ?lz9 ?az9 ?bz9 ?xz9 ?_; (case lz9 => is_list); (case xz9 => first | with_reducible assumption | assumption); (case az9 => omega); (case bz9 => omega); k_whole))
  k_with "m subscriptTail Name Constant ref int" => (k_here; (with_reducible show wpAny _ _ (subscriptTail _ _ (Value.ref _) (Value.int _ _)) _ _ _); k_dflt (refine' kb_lst ?lz9 ?az9 ?bz9 ?xz9 ?_; (case lz9 => is_list); (case xz9 => first | with_reducible assumption | assumption); (case az9 => omega); (case bz9 => omega); k_whole))
  k_with "m subscriptTail Attribute Name BinOp ref int" => (k_here; (with_reducible show wpAny _ _ (subscriptTail _ _ (Value.ref _) (Value.int _ _)) _ _ _); k_dflt (refine' kb_lst ?lz9 ?az9 ?bz9 ?xz9 ?_; (case lz9 => is_list); (case xz9 => first | with_reducible assumption | assumption); (case az9 => omega); (case bz9 => omega); k_whole))
  k_with "m subscriptTail Attribute Subscript Name ref int" => (k_here; (with_reducible show wpAny _ _ (subscriptTail _ _ (Value.ref _) (Value.int _ _)) _ _ _); k_dflt (refine' kb_lst ?lz9 ?az9 ?bz9 ?xz9 ?_; (case lz9 => is_list); (case xz9 => first | with_reducible assumption | assumption); (case az9 => omega); (case bz9 => omega); k_whole))
  trivial
theorem kb_listRange {prog : Program} {w : World} {A : Around} {E : Value → Shared → Prop} {s : Shared} {h₀ : Heap} {L : Addr} {m : Str → Option Value} {news : List (Addr × Obj)} {r : Addr} {a b c : Int} {t u v : Tok} {n : Nat} {Q : Value → Shared → Prop} (hh : A.handled = none) (F : Fr h₀ L s.heap m) (N : News h₀ L s.heap news)
    (hr : IsRange s.heap r a b c t u v) (hsm : Builtin.Range.small a b c = true) (hn : Builtin.Range.rangeSize a b c = (n : Int)) (hz : n ≤ 4096)
    (h : ∀ D us k h' tk, Fr h₀ L h' m → News h₀ L h' ((D, W.listOf (List.toArray us) k) :: news) → (∀ p ∈ news, p.1 < D) → IntsAre us (rangeInts a c n) → Q (.ref D) { s with heap := h', toks := tk }) :
    wpAny (model prog w) A (call (.type "list") [.ref r]) Q E s := by
  refine list_rangeD hh F N hr hsm hn (by omega) fun h' tk ys F' N' _ e _ hP hC => ?_
  obtain ⟨k, hk⟩ := hP.1
  refine h _ ys k h' tk F' (fun p hp => ?_) (fun p hp => Heap.lt_size (N p hp).1) (IntsAre.ofCarried hC)
  rcases List.mem_cons.mp hp with rfl | hp
  · exact ⟨hk, Nat.ne_of_gt F.ns.lt, e⟩
  · exact N' p hp
theorem rev_size (n : Nat) : Builtin.Range.rangeSize ((n : Int) - 1) (-1) (-1) = (n : Int) := by
  unfold Builtin.Range.rangeSize
  rw [if_neg (by decide)]
  by_cases h : ((n : Int) - 1 > -1)
  · rw [if_pos h, show (-(-1 : Int)) = 1 from rfl, Int.ediv_one]; omega
  · rw [if_neg h]; omega
theorem news_two' {h₀ h : Heap} {L d0 d1 d2 : Addr} {o0 o1 o2 : Obj} {r : List (Addr × Obj)} (N : News h₀ L h ((d0, o0) :: (d1, o1) :: (d2, o2) :: r)) : ∃ a b : Obj, a = o1 ∧ b = o2 ∧ News h₀ L h ((d0, o0) :: (d1, a) :: (d2, b) :: r) := ⟨_, _, rfl, rfl, N⟩
set_option maxHeartbeats 800000 in
theorem aperm_none (w : World) (v iv dl : Value) (is ds : List Value) (es pis : List Int) (nm : Option (List (Option (List Value)))) (hd0 : Hold (IntsAre ds es)) (hf : Few es) (hpis : pis = rangeInts ((es.length : Int) - 1) (-1) es.length) (hall : AllIn pis) (hlen : pis.length = es.length) (hin : ∀ k ∈ pis, 0 ≤ k ∧ k < (es.length : Int)) (hz : is.length ≤ 27)
    (hsrc : ∀ i : Nat, i < is.length → 0 ≤ srcOf (pick es 0 pis) (pick (stepsOf 1 es) 0 pis) i 0 ∧ srcOf (pick es 0 pis) (pick (stepsOf 1 es) 0 pis) i 0 < (is.length : Int))
    (hnl : (nsOf es.length nm).length = es.length) (hns : ∀ l, some l ∈ nsOf es.length nm → l.length ≤ 4096) :
    Con w 20 183 [v, .none] (fun h => ArrIs w (hAt h) v iv dl is ds nm) (fun r nx => ∃ iv' dl', ArrIs w (lAt nx) r iv' dl' ((List.range is.length).map (fun p : Nat => is.getD (srcOf (pick es 0 pis) (pick (stepsOf 1 es) 0 pis) p 0).toNat .none)) (pick ds .none pis) (nmOf (pick (nsOf es.length nm) none pis))) := by
  refine Con.ofC (binds := [(Str.ofString "v", v), (Str.ofString "perm", .none)]) (by k_is) (by k_is) (fun s => BindsTo.of_eq rfl) rfl (by decide +kernel) rfl rfl rfl ?_
  intro loose mean mg mb dp un gd outer A₀ base H h₁ L' s cells Q B F X N Y T hd' hu hp hs hret
  subst hs
  obtain ⟨o1, o2, hE, d1, d2⟩ := CellsAre.two Y
  subst hE; clear Y
  replace d1 : o1.data = .cell none := d1
  replace d2 : o2.data = .cell (some v) := d2
  replace F : Fr H L' s.heap (fun y => if y = Str.ofString "perm" then some .none else none) := F
  rw [show (fun y => if y = Str.ofString "perm" then some Value.none else none) = fun y => List.lookup y [(Str.ofString "perm", .none)] from funext fun y => lookup_if y _ _ []] at F
  have hA := hp
  obtain ⟨t, av, dv, t2, kvs, rs, a1, a2, a3, a4, a5, a6, a7, a8, a9⟩ := hA.open
  clear hA
  have a0 : DimIs w (hAt H) v dl := ⟨_, _, _, _, _, _, _, a1, a3, a4, a5⟩
  have b1 := a1; have b2 := a2; have b6 := a6; have b5 := a5; have b3 := a3
  obtain ⟨x, dx, u1, u2, u3, u4, u5, rfl, q1, q2⟩ := b1
  obtain ⟨li, n1, rfl, q3⟩ := b2
  obtain ⟨ld, n2, rfl, q4⟩ := b6
  obtain ⟨y, dy, w1, w2, w3, w4, w5, rfl, q5, q6⟩ := b5
  obtain ⟨ad, oo, rfl, q7, q8, q9⟩ := b3
  dsimp only [hAt] at q1 q2 q3 q4 q5 q6 q7
  have l3 := lst_of q3
  have l4 := lst_of q4
  have hds : ds.length = es.length := hd0.out.length
  have hes := hf.1
  have z1 : ds.length ≤ 4096 := by omega
  have z3 : pis.length ≤ 3 := by omega
  rw [hds] at a8
  have hrs : rs.length = es.length := by rw [a8.len, hnl]
  k_steps
  (rename Fr _ _ _ _ => F1); (rename News _ _ _ _ => N1); (rename IsRange _ _ _ _ _ _ _ _ => rg)
  refine kb_listRange (n := es.length) rfl F1 N1 rg (by rw [hds]; exact PySem.W.small_down (by omega) (by omega) (by decide) (by decide)) (by rw [hds]; exact rev_size es.length) (by omega) ?_
  intro lp ps kp h' tk' F' N' l1 hps0
  rw [hds, ← hpis] at hps0
  replace hp0 := Hold.mk hps0
  clear hps0 F1 N1 rg
  k_lt l1
  have hps : ps.length = pis.length := hp0.out.length
  have z2 : ps.length ≤ 4096 := by omega
  k_steps
  (rename Fr _ _ _ _ => F1); (rename News _ _ _ _ => N1)
  have z2' : ps.toArray.size ≤ sizeLine := by rw [List.size_toArray, sizeLine_eq]; omega
  obtain ⟨oa, ob, ha, hb, N1⟩ := news_two' N1
  subst ha; subst hb
  refine ⟨?_⟩
  refine LCg.CompSrc.ledger rfl F1 N1 (by k_mem) z2' ?_
  intro g'
  rw [List.size_toArray]
  refine rest_ind ps.length (fun i ys news => Hold (news = [(lp, W.listOf ps.toArray kp), (L' + 1 + 1, oa), (L' + 1, ob)] ∧ ys = pick ds .none (pis.take i))) ?_ ?_ ps.length 0 [] _ (by omega) ⟨rfl, rfl⟩
  · rintro i ys news v I oI C oC D m₂ h tk E' hi ⟨rfl, rfl⟩ hP hC hx F' N' o ne
    have hv : ps[i]? = some v := by simpa using hP
    obtain ⟨n, t', rfl, hn⟩ := hp0.out.at i v hv
    have hk := hin n (List.mem_of_getElem? hn)
    have e1 := take_snoc hn
    have hg : ds[n.toNat]? = some (ds.getD n.toNat .none) := by rw [List.getD_eq_getElem?_getD]; rw [List.getElem?_eq_getElem (by omega)]; rfl
    simp only [LCg.Off3, and_true] at o
    clear F1 N1
    k_steps
    exact ⟨rfl, by rw [e1, pick_snoc]⟩
  · rintro ys news ⟨rfl, rfl⟩
    intro D h tk F' N' o1
    rw [hps, List.take_length] at N'
    clear F1 N1
    have hi' : Hold (IntsAre (pick ds .none pis) (pick es 0 pis)) := ⟨ints_pick hd0.out hin⟩
    have z4 : is.length ≤ 4096 := by omega
    have z5 : (pick ds .none pis).length ≤ 4096 := by simp only [pick, List.length_map]; omega
    k_steps
    (rename Fr _ _ _ _ => F1); (rename News _ _ _ _ => N1); (rename IsRange _ _ _ _ _ _ _ _ => rg); (rename Hold (IntsAre _ (stepsOf _ _)) => hst); (rename List Value => stv)
    obtain ⟨lq, ls, hlq, hls, N1⟩ := news_name N1
    subst hlq; subst hls
    simp only [lookup_if] at F1
    refine ⟨?_⟩
    refine loop_range (n := is.length) (fun i m₁ nx => Hold (∃ c c2, nx = (lq, W.listOf ((List.range i).map (fun p : Nat => is.getD (srcOf (pick es 0 pis) (pick (stepsOf 1 es) 0 pis) p 0).toNat .none)).toArray c) :: [(ls, W.listOf stv.toArray c2), (D, LCg.lst (pick ds .none pis)), (lp, W.listOf ps.toArray kp), (L' + 1 + 1, oa), (L' + 1, ob)] ∧
        ∀ y, [Str.ofString "place", Str.ofString "rest", Str.ofString "source", Str.ofString "axis"].contains y = false → m₁ y = List.lookup y [(Str.ofString "items", .ref lq), (Str.ofString "steps", .ref ls), (Str.ofString "extents", .ref D), (Str.ofString "perm", .ref lp), (Str.ofString "perm", .none)]))
      rfl rg rfl (small_of (by omega) (by omega)) F1 N1 ⟨_, _, rfl, fun _ _ => rfl⟩ ?_ ?_
    · rintro i tp m₁ nx h tk own hi hoff ⟨c, c2, rfl, hm⟩ F' N'
      have hsr := hsrc i hi
      have hlen2 : (pick es 0 pis).length = pis.length := by simp [pick]
      have hoff' : ∀ p ∈ own, p.1 ≠ lq := fun p hp => hoff p hp lq (.head _)
      have hit : is[(srcOf (pick es 0 pis) (pick (stepsOf 1 es) 0 pis) i 0).toNat]? = some (is.getD (srcOf (pick es 0 pis) (pick (stepsOf 1 es) 0 pis) i 0).toNat .none) := by
        rw [List.getD_eq_getElem?_getD, List.getElem?_eq_getElem (by omega)]; rfl
      rw [frame_eq hm] at F'
      simp only [List.cons_append, List.nil_append] at N'
      clear F1 N1
      k_steps
      (rename Fr _ _ _ _ => F3); (rename News _ _ _ _ => N3); (rename IsRange _ _ _ _ _ _ _ _ => rg3)
      refine ⟨?_⟩
      refine loop_range (n := ps.length) (fun k m nx => Hold (nx = (lq, W.listOf ((List.range i).map (fun p : Nat => is.getD (srcOf (pick es 0 pis) (pick (stepsOf 1 es) 0 pis) p 0).toNat .none)).toArray c) :: (ls, W.listOf stv.toArray c2) :: (D, LCg.lst (pick ds .none pis)) :: (lp, W.listOf ps.toArray kp) :: (L' + 1 + 1, oa) :: (L' + 1, ob) :: own ∧
          (∃ t, m (Str.ofString "source") = some (.int (srcOf ((pick es 0 pis).take k) ((pick (stepsOf 1 es) 0 pis).take k) i 0) t)) ∧ (∃ t, m (Str.ofString "rest") = some (.int (restOf ((pick es 0 pis).take k) i) t)) ∧
          ∀ y, [Str.ofString "source", Str.ofString "rest", Str.ofString "axis"].contains y = false → m y = if y = Str.ofString "place" then some (.int (i : Int) tp) else if [Str.ofString "place", Str.ofString "rest", Str.ofString "source", Str.ofString "axis"].contains y = true then m₁ y else List.lookup y [(Str.ofString "items", .ref lq), (Str.ofString "steps", .ref ls), (Str.ofString "extents", .ref D), (Str.ofString "perm", .ref lp), (Str.ofString "perm", .none)]))
        rfl rg3 rfl (small_of (by omega) (by omega)) F3 N3 ⟨rfl, ⟨_, rfl⟩, ⟨_, rfl⟩, fun y hy => ?_⟩ ?_ ?_
      · have h1 : y ≠ Str.ofString "source" := by rintro rfl; exact absurd hy (by decide)
        have h2 : y ≠ Str.ofString "rest" := by rintro rfl; exact absurd hy (by decide)
        simp only [if_neg h1, if_neg h2]
      · rintro k ta m₂ nx h tk own2 hk hoff2 ⟨rfl, ⟨t1, hs1⟩, ⟨t2, hs2⟩, hm2⟩ F' N'
        clear F3 N3
        have hpk := getD_some (d := 0) (show k < pis.length by omega)
        generalize pis.getD k 0 = pk at hpk
        have hpb := hin pk (List.mem_of_getElem? hpk)
        obtain ⟨tpk, htpk⟩ := hp0.out.get k pk hpk
        have hes := hf.2 _ (getD_mem (d := 0) (show pk.toNat < es.length by omega))
        have hee := pick_get (l := es) (d := 0) hpk
        have hse := pick_get (l := stepsOf 1 es) (d := 0) hpk
        have hsb := hf.steps _ (getD_mem (d := 0) (show pk.toNat < (stepsOf 1 es).length by rw [stepsOf_len]; omega))
        have hsg := getD_some (d := 0) (show pk.toNat < (stepsOf 1 es).length by rw [stepsOf_len]; omega)
        obtain ⟨te, hte⟩ := hi'.out.get k _ hee
        obtain ⟨ts, hts⟩ := hst.out.get pk.toNat _ hsg
        have e3 := take_snoc hee
        have e4 := take_snoc hse
        have hrb := restOf_bound ((pick es 0 pis).take k) i 27 (fun e he => by
          obtain ⟨q, hq, rfl⟩ := List.mem_map.mp (List.mem_of_mem_take he)
          exact (hf.2 _ (getD_mem (show q.toNat < es.length by have := hin q hq; omega))).1) (by omega) (by omega)
        have e5 : ((pick es 0 pis).take k).length = ((pick (stepsOf 1 es) 0 pis).take k).length := by simp [pick_len]
        generalize es.getD pk.toNat 0 = ee at *
        generalize (stepsOf 1 es).getD pk.toNat 0 = ss at *
        have hte' : (pick ds .none pis)[((k : Nat) : Int).toNat]? = some (.int ee te) := hte
        have htpk' : ps[((k : Nat) : Int).toNat]? = some (.int pk tpk) := htpk
        rw [frame_eq3 hs1 hs2 hm2] at F'
        simp only [List.cons_append] at N'
        clear hsr hit hoff hoff' hm hlen2 hsg hee hse hte htpk hpk hst hi' z4 z5 hi hsrc hin hall hp0 hf hd0 hns hnl hret a0 a1 a2 a3 a4 a5 a6 a7 a8 a9 q1 q2 q3 q4 q5 q6 q7 q8 q9 l3 l4 rg rg3
        k_steps
        (rename Fr _ _ _ _ => F4); (rename News _ _ _ _ => N4)
        refine' inv_same F4 N4 hoff2 (Hold.mk ⟨rfl, ⟨_, ?en1⟩, ⟨_, ?en2⟩, ?en3⟩)
        case en1 => rw [e3, e4, srcOf_snoc _ _ _ _ _ _ e5]; rfl
        case en2 => rw [e3, restOf_snoc]; rfl
        case en3 =>
          intro y hy
          have h1 : y ≠ Str.ofString "source" := by rintro rfl; exact absurd hy (by decide)
          have h2 : y ≠ Str.ofString "rest" := by rintro rfl; exact absurd hy (by decide)
          have h3 : y ≠ Str.ofString "axis" := by rintro rfl; exact absurd hy (by decide)
          have h4 : [Str.ofString "axis"].contains y = false := by simpa using h3
          simp only [if_neg h1, if_neg h2, if_neg h3, h4, Bool.false_eq_true, if_false]
      · rintro m₂ nx h tk ⟨rfl, ⟨t1, hs1⟩, ⟨t2, hs2⟩, hm2⟩ F' N'
        have e6 : (pick es 0 pis).take ps.length = pick es 0 pis := List.take_of_length_le (by rw [pick_len]; omega)
        have e7 : (pick (stepsOf 1 es) 0 pis).take ps.length = pick (stepsOf 1 es) 0 pis := List.take_of_length_le (by rw [pick_len]; omega)
        rw [e6, e7] at hs1
        rw [e6] at hs2
        rw [frame_eq3 hs1 hs2 hm2] at F'
        clear F3 N3 hs1 hs2 rg rg3 hst hi' hlen2
        have hlr : ((List.range i).map (fun p : Nat => is.getD (srcOf (pick es 0 pis) (pick (stepsOf 1 es) 0 pis) p 0).toNat .none)).length ≤ 4096 := by rw [List.length_map, List.length_range]; omega
        k_steps
        (rename Fr _ _ _ _ => F4); (rename News _ _ _ _ => N4)
        refine' inv_close (nw := []) (tl := [(ls, W.listOf stv.toArray c2), (D, LCg.lst (pick ds .none pis)), (lp, W.listOf ps.toArray kp), (L' + 1 + 1, oa), (L' + 1, ob)]) F4 N4 hoff (fun _ _ _ h => nomatch h) (Hold.mk ⟨_, _, ?en4, ?en5⟩)
        case en4 => rw [List.range_succ, List.map_append]; rfl
        case en5 =>
          intro y hy
          have h1 : y ≠ Str.ofString "source" := by rintro rfl; exact absurd hy (by decide)
          have h2 : y ≠ Str.ofString "rest" := by rintro rfl; exact absurd hy (by decide)
          have h3 : y ≠ Str.ofString "axis" := by rintro rfl; exact absurd hy (by decide)
          have h5 : y ≠ Str.ofString "place" := by rintro rfl; exact absurd hy (by decide)
          have h4 : [Str.ofString "axis"].contains y = false := by simpa using h3
          simp only [if_neg h1, if_neg h2, if_neg h3, if_neg h5, h4, hy, Bool.false_eq_true, if_false]
    · rintro m₁ nx h tk ⟨c, c2, rfl, hm⟩ F' N'
      rw [frame_eq hm] at F'
      clear F1 N1
      k_steps
      (rename Fr _ _ _ _ => F3); (rename News _ _ _ _ => N3)
      refine ⟨?_⟩
      refine LCg.CompSrc.ledger rfl F3 N3 (by k_mem) z2' ?_
      intro g'
      rw [List.size_toArray]
      refine rest_ind ps.length (fun i ys news => Hold (news = [(lq, W.listOf ((List.range is.length).map (fun p : Nat => is.getD (srcOf (pick es 0 pis) (pick (stepsOf 1 es) 0 pis) p 0).toNat .none)).toArray c), (ls, W.listOf stv.toArray c2), (D, LCg.lst (pick ds .none pis)), (lp, W.listOf ps.toArray kp), (L' + 1 + 1, oa), (L' + 1, ob)] ∧ ys = pick rs .none (pis.take i))) ?_ ?_ ps.length 0 [] _ (by omega) ⟨rfl, rfl⟩
      · rintro i ys news v I oI C oC D m₂ h tk E' hi ⟨rfl, rfl⟩ hP hC hx F' N' o ne
        have hv : ps[i]? = some v := by simpa using hP
        obtain ⟨n, t', rfl, hn⟩ := hp0.out.at i v hv
        have hk := hin n (List.mem_of_getElem? hn)
        have e1 := take_snoc hn
        have hg : rs[n.toNat]? = some (rs.getD n.toNat .none) := getD_some (by omega)
        simp only [LCg.Off3, and_true] at o
        clear F3 N3
        k_steps
        exact ⟨rfl, by rw [e1, pick_snoc]⟩
      · rintro ys news ⟨rfl, rfl⟩
        intro D2 h tk F' N' o1
        rw [hps, List.take_length] at N'
        clear F3 N3
        have z6 : (pick rs .none pis).length ≤ 8 := by rw [pick_len]; omega
        have hns' : ∀ l, some l ∈ pick (nsOf es.length nm) none pis → l.length ≤ 4096 := by
          intro l hl
          obtain ⟨k, hk, e⟩ := List.mem_map.mp hl
          exact hns l (e ▸ getD_mem (by have := hin k hk; omega))
        have hrp : RowsAre (hAt H) (pick rs .none pis) (pick (nsOf es.length nm) none pis) := a8.pick (by rw [hnl]; exact hin)
        k_steps
        (rename Fr _ _ _ _ => F4); (rename News _ _ _ _ => N4); (rename VecIs _ _ _ _ _ _ => hv4); (rename AttIs _ _ _ _ _ _ => ha4)
        refine hret _ _ _ _ _ F4 N4 ⟨_, _, _, _, hv4.mono fun _ _ h => List.mem_append.mpr (.inl h), ⟨_, _, rfl, List.mem_append.mpr (.inr (.tail _ (.head _)))⟩, ha4.mono fun _ _ h => List.mem_append.mpr (.inl h)⟩
end Mine
end
section
open PySem PySem.W PySem.Calls PySem.Spec PyProof.Rows
theorem Mine.devB11 : (PySem.Challenge.rw_pq1314_01.foot = 6) → Mine.hd.heap_39 = Mine.hd.heap_39 := by
  k_fill
  intro _; rfl
namespace Mine
theorem regB11_1 : True := by
  k_with_none
  k_with "m k_ne" => (refine neN ?_; (try dsimp only); first
    | with_reducible assumption
    | exact Ne.symm (by with_reducible assumption)
    | ((repeat (rename _ ∧ _ => q8z9; rcases q8z9 with ⟨_, _⟩)); first
      | with_reducible assumption
      | exact Ne.symm (by with_reducible assumption)
      | exact Nat.ne_of_gt (by with_reducible assumption)
      | exact Nat.ne_of_lt (by with_reducible assumption)))
  k_with "m k_all" => assumption
  k_with "m k_handed" => assumption
  k_with "m call ref" => (k_here; (with_reducible show wpAny _ _ (call (Value.ref 124) [_]) _ _ _); k_dflt (refine' dim_con _ _ _ ?hdlz9 _ _ _ _ _ _ _ _ _ _ _ _ _ _ _ _ _ _ _ _ _ _ ?Bz9 ?Fz9 ?Xz9 ?Nz9 ?Tz9 ?ckz9 ?hdz9 ?huz9 ?hpz9 ?_; (case Bz9 => k_asm); (case Fz9 => k_asm); (case Xz9 => k_asm); (case Nz9 => k_asm); (case Tz9 => k_asm); (case hpz9 => exact DimIs.mono (Fr.keep (by k_asm)) (by assumption)); (case hdlz9 => k_handed); (case ckz9 => first | rfl | assumption); (case hdz9 => omega); (case huz9 => omega); k_whole); intro r'9 nx'9 h'9 tk'9 F'9 N'9 ne'9 P'9; obtain ⟨hr'9, hn'9⟩ := P'9; subst hr'9; subst hn'9; (have nr'9 := Apart.mk ne'9); (try simp only [List.cons_append, List.nil_append] at N'9); (try simp only [List.forall_mem_cons, List.not_mem_nil, false_implies, implies_true, and_true] at ne'9); (try k_sweep))
  k_with "m call ref" => (k_here; (with_reducible show wpAny _ _ (call (Value.ref 131) [_, _]) _ _ _); k_dflt (refine' axis_con _ _ _ _ _ _ ?h0z9 ?h1z9 ?hrz9 _ _ _ _ _ _ _ _ _ _ _ _ _ _ _ _ _ _ _ _ _ _ ?Bz9 ?Fz9 ?Xz9 ?Nz9 ?Tz9 ?ckz9 ?hdz9 ?huz9 ?hpz9 ?_; (case Bz9 => k_asm); (case Fz9 => k_asm); (case Xz9 => k_asm); (case Nz9 => k_asm); (case Tz9 => k_asm); (case hpz9 => exact RowsIs.mono (Fr.keep (by k_asm)) (by assumption)); (case h0z9 => omega); (case h1z9 => omega); (case hrz9 => assumption); (case ckz9 => first | rfl | assumption); (case hdz9 => omega); (case huz9 => omega); k_whole); intro r'9 nx'9 h'9 tk'9 F'9 N'9 ne'9 P'9; obtain ⟨hr'9, hn'9⟩ := P'9; subst hr'9; subst hn'9; (have nr'9 := Apart.mk ne'9); (try simp only [List.cons_append, List.nil_append] at N'9); (try simp only [List.forall_mem_cons, List.not_mem_nil, false_implies, implies_true, and_true] at ne'9); (try k_sweep))
  k_with "m call ref" => (k_here; (with_reducible show wpAny _ _ (call (Value.ref 157) [_, _, _, _, _]) _ _ _); k_dflt (refine' newmat_con _ _ _ _ ?hivz9 _ _ _ _ _ ?hrz9 ?hcz9 ?hzdz9 ?hnsz9 _ _ _ _ _ _ _ _ _ _ _ _ _ _ _ _ _ _ _ _ _ _ ?Bz9 ?Fz9 ?Xz9 ?Nz9 ?Tz9 ?ckz9 ?hdz9 ?huz9 ?hpz9 ?_; (case Bz9 => k_asm); (case Fz9 => k_asm); (case Xz9 => k_asm); (case Nz9 => k_asm); (case Tz9 => k_asm); (case hpz9 => exact ⟨by is_list, RowsAre.mono (Fr.keep (by k_asm)) (by assumption)⟩); (case hivz9 => k_handed); (case hrz9 => k_handed); (case hcz9 => k_handed); (case hzdz9 => first | assumption | exact Nat.le_of_ble_eq_true rfl | omega); (case hnsz9 => assumption); (case ckz9 => first | rfl | assumption); (case hdz9 => omega); (case huz9 => omega); k_whole); intro r'9 nx'9 h'9 tk'9 F'9 N'9 ne'9 P'9; obtain ⟨av'9, dl'9, hv'9, ha'9⟩ := P'9; (have nr'9 := Apart.mk ne'9); (try simp only [List.cons_append, List.nil_append] at N'9); (try simp only [List.forall_mem_cons, List.not_mem_nil, false_implies, implies_true, and_true] at ne'9); (try k_sweep))
  k_with "m k_inst" => (refine' kb_inst ?Fz9 ?h1z9 ?h2z9; (case Fz9 => k_asm); (case h1z9 => assumption); (case h2z9 => assumption))
  k_with "m subscriptTail" => (k_here; (with_reducible show wpAny _ _ (subscriptTail _ _ (Value.ref _) (Value.str _ _)) _ _ _); k_dflt (refine' kb_item ?Fz9 ?oz9 ?dz9 ?lz9 ?_; (case Fz9 => k_asm); (case oz9 => assumption); (case dz9 => assumption); (case lz9 => first | assumption | rfl); k_whole))
  k_with "m compareOp In str ref" => (k_here; k_dflt (refine' kb_in ?Fz9 ?oz9 ?dz9 ?sz9 ?lz9 ?_; (case Fz9 => k_asm); (case oz9 => assumption); (case dz9 => assumption); (case sz9 => assumption); (case lz9 => first | assumption | rfl); k_whole))
  k_with "m compareOp NotIn str ref" => (k_here; k_dflt (refine' kb_notIn ?Fz9 ?oz9 ?dz9 ?sz9 ?lz9 ?_; (case Fz9 => k_asm); (case oz9 => assumption); (case dz9 => assumption); (case sz9 => assumption); (case lz9 => first | assumption | rfl); k_whole))
  k_with "m subscriptTail" => (k_here; (with_reducible show wpAny _ _ (subscriptTail _ _ (Value.ref _) (Value.int _ _)) _ _ _); k_dflt (refine' kb_lst ?lz9 ?az9 ?bz9 ?xz9 ?_; (case lz9 => is_list); (case xz9 => first | with_reducible assumption | assumption); (case az9 => omega); (case bz9 => omega); k_whole))
  k_with "m eval ListComp" => (k_here; first
  | (lct_look; k_dflt (refine LCt.ListComp_T (F₀ := by k_asm) (by with_unfolding_all rfl) (by decide) (by rfl) (by decide) (by rfl) ?_))
  | ((first | lcg_look | lcf_look); k_dflt (refine LCg.ListComp_U (F₀ := by k_asm) (by with_unfolding_all rfl) (by decide) (by rfl) (by decide) (by rfl) ?_)))
  k_with "m exec Assign cons ListComp" => (k_here; first
  | (lct_look; k_dflt (refine LCt.Assign_ListComp_T (F₀ := by k_asm) (by rfl) (by with_unfolding_all rfl) (by with_unfolding_all rfl) (by decide) (by rfl) (by decide) (by rfl) (by rfl) (by rfl) ?_))
  | ((first | lcg_look | lcf_look); k_dflt (refine LCg.Assign_ListComp_U (F₀ := by k_asm) (by rfl) (by with_unfolding_all rfl) (by with_unfolding_all rfl) (by decide) (by rfl) (by decide) (by rfl) (by rfl) (by rfl) ?_)))
  k_with "m call builtin:len" => (k_here; (with_reducible show wpAny _ _ (call (Value.builtin "len") [Value.ref _]) _ _ _); k_dflt (refine' kb_len ?lz9 ?zz9 ?_; (case lz9 => is_list); (case zz9 => first | assumption | omega); k_whole))
  k_with "m exec For Name Name cons nil" => (k_here; k_dflt (refine' For_invVF ?Fz9 ?k1z9 ?k2z9 ?_; (case Fz9 => k_asm); (case k1z9 => exact rfl); (case k2z9 => exact rfl); k_whole))
  k_with "m exec For Name Call cons nil" => (k_here; k_dflt (refine' For_invVF ?Fz9 ?k1z9 ?k2z9 ?_; (case Fz9 => k_asm); (case k1z9 => exact rfl); (case k2z9 => exact rfl); k_whole))
  k_with "m call builtin:list.append" => (k_here; (with_reducible show wpAny _ _ (call (Value.builtin _) [Value.ref _, _]) _ _ _); k_dflt (refine' kb_append ?k1z9 ?k2z9 ?k3z9 ?zz9 ?_; (case k1z9 => k_asm); (case k2z9 => k_asm); (case k3z9 => k_upd); (case zz9 => first | assumption | omega); k_whole); intro h'9 F'9 N'9; (try k_sweep))
  k_with "m k_all" => exact apart_all (by assumption) (by k_mem)
  k_with "m mul_fits" => first | exact PySem.IntMulOk.of_right (PySem.intBits_le_64 (by omega) (by omega)) | exact PySem.IntMulOk.of_left (PySem.intBits_le_64 (by omega) (by omega))
  k_with "m call type:range" => (k_here; (with_reducible show wpAny _ _ (call (Value.type _) [Value.int _ _]) _ _ _); k_dflt (refine' range1_rows ?Fz9 ?Nz9 ?_; (case Fz9 => k_asm); (case Nz9 => k_asm)); intro h'9 tk'9 t1'9 t2'9 t3'9 rg'9 F'9 N'9 rk'9; clear rk'9; (try k_sweep))
  k_with "m compareOp NotIn int ref" => (k_here; k_dflt (refine' ints_in ?lz9 ?iz9 ?mz9 ?_; (case lz9 => is_list); (case iz9 => exact Hold.out (by assumption)); (case mz9 => exact AllIn.out (by assumption) _ (by omega) (by omega)); k_whole))
  k_with "m is_list" => first | with_reducible assumption | exact News.isList (by k_asm) (by k_mem) | exact Fr.lst (by assumption) (by assumption)
  k_with "m loadName" => (k_here; k_dflt (refine' kb_ldn ?Fz9 ?vz9 ?_ ?az9 ?bz9; (case Fz9 => k_asm); (case az9 => rfl); (case bz9 => rfl); (case vz9 => rfl); k_whole))
  k_with "m pyIter ref" => (k_here; (with_reducible show wpAny _ _ (pyIter (Value.ref _)) (fun it s₂ => LoopAtV _ _ _ _ _ _ _ _ _ it s₂) _ _); refine Halt.out ?_)
  k_with "m CompSrc" => (refine Halt.out ?_)
  k_with "m CompSrcT" => (refine Halt.out ?_)
  k_with "m binaryOp Mod int int" => (k_here; refine mod_int' (by omega) ?_)
  k_with "m binaryOp FloorDiv int int" => (k_here; refine floordiv_int (by omega) ?_ (Or.inl (PyProof.noPylong_small (by omega))))
  k_with "m subscriptTail Name Name ref int" => (k_here; (with_reducible show wpAny _ _ (subscriptTail _ _ (Value.ref _) (Value.int _ _)) _ _ _); k_dflt (refine' kb_lst ?lz9 ?az9 ?bz9 ?xz9 ?_; (case lz9 => is_list); (case xz9 => first | with_reducible assumption | assumption); (case az9 => omega); (case bz9 => omega); k_whole))
  k_with "m subscriptTail Name Subscript ref int" => (k_here; (with_reducible show wpAny _ _ (subscriptTail _ _ (Value.ref _) (Value.int _ _)) _ _ _); k_dflt (refine' kb_lst ?lz9 ?az9 ?bz9 ?xz9 ?_; (case lz9 => is_list); (case xz9 => first | with_reducible assumption | assumption); (case az9 => omega); (case bz9 => omega); k_whole))
  k_with "m subscriptTail Attribute Name Name ref int" => (k_here; (with_reducible show wpAny _ _ (subscriptTail _ _ (Value.ref _) (Value.int _ _)) _ _ _); k_dflt (refine' kb_lst ?lz9 ?az9 ?bz9 ?xz9 ?_; (case lz9 => is_list); (case xz9 => first | with_reducible assumption | assumption); (case az9 => omega); (case bz9 => omega); k_whole))
  k_with "m subscriptTail Name Constant ref int" => (k_here; (with_reducible show wpAny _ _ (subscriptTail _ _ (Value.ref _) (Value.int _ _)) _ _ _); k_dflt (refine' kb_lst ?lz9 ?az9 ?bz9 ?xz9 ?_; (case lz9 => is_list); (case xz9 => first | with_reducible assumption | assumption); (case az9 => omega); (case bz9 => omega); k_whole))
  k_with "m subscriptTail Attribute Name BinOp ref int" => (k_here; (with_reducible show wpAny _ _ (subscriptTail _ _ (Value.ref _) (Value.int _ _)) _ _ _); k_dflt (refine' kb_lst ?lz9 ?az9 ?bz9 ?xz9 ?_; (case lz9 => is_list); (case xz9 => first | with_reducible assumption | assumption); (case az9 => omega); (case bz9 => omega); k_whole))
  k_with "m subscriptTail Attribute Subscript Name ref int" => (k_here; (with_reducible show wpAny _ _ (subscriptTail _ _ (Value.ref _) (Value.int _ _)) _ _ _); k_dflt (refine' kb_lst ?lz9 ?az9 ?bz9 ?xz9 ?_; (case lz9 => is_list); (case xz9 => first | with_reducible assumption | assumption); (case az9 => omega); (case bz9 => omega); k_whole))
  k_with "m assign Tuple" => (k_here; (with_reducible show wpAny _ _ (assign (Expr.Tuple _ _ _) _ (Value.ref _)) _ _ _); k_dflt (refine' kun_list ?k1z9 ?k2z9 ?k3z9 ?k4z9 ?k5z9 ?k6z9 ?_; (case k1z9 => k_asm); (case k2z9 => k_asm); (case k3z9 => is_list); (case k4z9 => exact rfl); (case k5z9 => exact rfl); (case k6z9 => exact rfl); k_whole); intro h'9 F'9 N'9; (try k_sweep))
  trivial
theorem kb_lenN {prog : Program} {w : World} {A : Around} {E : Value → Shared → Prop} {s : Shared} {l : Addr} {vs : List Value} {k : Nat} {Q : Value → Shared → Prop} (hl : s.heap.IsList l vs.toArray) (e : vs.length = k) (hz : Nat.ble k 4096 = true)
    (h : Q (.int (k : Int) (s.toks + 1)) { s with toks := s.toks + 1 + 1 }) : wpAny (model prog w) A (call (.builtin "len") [.ref l]) Q E s := by
  subst e; exact kb_len hl (Nat.le_of_ble_eq_true hz) h
theorem kb_len2 {prog : Program} {w : World} {A : Around} {E : Value → Shared → Prop} {s : Shared} {l : Addr} {a b : Value} {Q : Value → Shared → Prop} (hl : s.heap.IsList l [a, b].toArray)
    (h : Q (.int 2 (s.toks + 1)) { s with toks := s.toks + 1 + 1 }) : wpAny (model prog w) A (call (.builtin "len") [.ref l]) Q E s := kb_lenN hl rfl rfl h
theorem regB11_2 : True := by
  k_with "m call builtin:len" => (k_here; (with_reducible show wpAny _ _ (call (Value.builtin "len") [Value.ref _]) _ _ _); k_dflt (refine' kb_len2 ?lz9 ?_; (case lz9 => is_list); k_whole))
  trivial
noncomputable def trRow (is : List Value) (r c p : Nat) : List Value := (List.range c).map fun q => is.getD (q * r + p) .none
noncomputable def trItems (is : List Value) (r c i : Nat) : List Value := (List.range i).flatMap (trRow is r c)
theorem trItems_succ (is : List Value) (r c i : Nat) : trItems is r c (i + 1) = trItems is r c i ++ trRow is r c i := by simp [trItems, List.range_succ]
theorem trRow_succ (is : List Value) (r c p : Nat) : trRow is r (c + 1) p = trRow is r c p ++ [is.getD (c * r + p) .none] := by simp [trRow, List.range_succ]
theorem trRow_len (is : List Value) (r c p : Nat) : (trRow is r c p).length = c := by simp [trRow]
theorem trItems_len (is : List Value) (r c i : Nat) (hc : c ≤ 3) : (trItems is r c i).length ≤ 3 * i := by
  induction i with
  | zero => simp [trItems]
  | succ i ih => rw [trItems_succ, List.length_append, trRow_len]; omega
theorem RowIs.handed {At : Addr → Obj → Prop} {r : Value} : ∀ {n : Option (List Value)}, RowIs At r n → handedIn r = true
  | none, h => by obtain rfl : r = .none := h; rfl
  | some _, ⟨_, _, e, _⟩ => by rw [e]; rfl

set_option maxHeartbeats 800000 in
theorem trans_con (w : World) (v iv dl : Value) (is : List Value) (r c : Nat) (t0 t1 : Tok) (nm : Option (List (Option (List Value)))) (hr : 1 ≤ r ∧ r ≤ 3) (hc : 1 ≤ c ∧ c ≤ 3) (hz : is.length ≤ 27) (hix : ∀ p q : Nat, p < r → q < c → q * r + p < is.length)
    (n0 n1 : Option (List Value)) (hnl : nsOf 2 nm = [n0, n1]) (hns : ∀ l, some l ∈ [n1, n0] → l.length ≤ 4096) :
    Con w 20 164 [v] (fun h => ArrIs w (hAt h) v iv dl is [.int (r : Int) t0, .int (c : Int) t1] nm) (fun r' nx => ∃ iv' dl', ArrIs w (lAt nx) r' iv' dl' (trItems is r c r) [.int (c : Int) t1, .int (r : Int) t0] (nmOf [n1, n0])) := by
  refine Con.ofP (binds := [(Str.ofString "v", v)]) (by k_is) (by k_is) (fun s => BindsTo.of_eq rfl) (locs rfl) rfl rfl rfl (by decide) ?_
  intro loose mean mg mb dp un gd outer A₀ base H h₁ L' s Q B F X N T hd' hu hp hs hret
  subst hs
  obtain ⟨t, av, dv, t2, kvs, rs, a1, a2, a3, a4, a5, a6, a7, a8, a9⟩ := ArrIs.open hp
  clear hp
  have a0 : DimIs w (hAt H) v dl := ⟨_, _, _, _, _, _, _, a1, a3, a4, a5⟩
  have b1 := a1; have b2 := a2; have b6 := a6; have b3 := a3
  obtain ⟨x, dx, u1, u2, u3, u4, u5, rfl, q1, q2⟩ := b1
  obtain ⟨li, m1, rfl, q3⟩ := b2
  obtain ⟨ld, m2, rfl, q4⟩ := b6
  obtain ⟨ad, oo, rfl, q7, q8, q9⟩ := b3
  dsimp only [hAt] at q1 q2 q3 q4 q7
  have l3 := lst_of q3
  have l4 := lst_of q4
  rw [show [Value.int (r : Int) t0, Value.int (c : Int) t1].length = 2 from rfl, hnl] at a8
  cases a8 with
  | @cons r0 rs' n ns hr0 hrest =>
  cases hrest with
  | @cons r1 rs'' n' ns' hr1 hrest =>
  cases hrest
  have g0 := hr0.handed
  have g1 := hr1.handed
  have hrow : RowsAre (hAt H) [r1, r0] [n1, n0] := .cons hr1 (.cons hr0 .nil)
  have i0 : [r0, r1][((0 : Int)).toNat]? = some r0 := rfl
  have i1 : [r0, r1][((1 : Int)).toNat]? = some r1 := rfl
  have z1 : [Value.int (r : Int) t0, Value.int (c : Int) t1].length ≤ 4096 := Nat.le_of_ble_eq_true rfl
  k_steps
  (rename Fr _ _ _ _ => F1); (rename News _ _ _ _ => N1); (rename IsRange _ _ _ _ _ _ _ _ => rg)
  obtain ⟨lq, hlq, N1⟩ : ∃ lq : Addr, lq = _ ∧ News H L' _ [(lq, W.listOf (trItems is r c 0).toArray 0)] := ⟨_, rfl, N1⟩
  subst hlq
  simp only [lookup_if] at F1
  refine ⟨?_⟩
  refine loop_range (n := r) (fun i m₁ nx => Hold (∃ cc, nx = [(lq, W.listOf (trItems is r c i).toArray cc)] ∧
        ∀ y, [Str.ofString "place", Str.ofString "column"].contains y = false → m₁ y = List.lookup y [(Str.ofString "items", .ref lq), (Str.ofString "columns", .int (c : Int) t1), (Str.ofString "rows", .int (r : Int) t0), (Str.ofString "extents", .ref ld), (Str.ofString "v", .ref x)]))
      rfl rg rfl (small_of (by omega) (by omega)) F1 N1 ⟨_, rfl, fun _ _ => rfl⟩ ?_ ?_
  · rintro i tp m₁ nx h tk own hi hoff ⟨cc, rfl, hm⟩ F' N'
    have hoff' : ∀ p ∈ own, p.1 ≠ lq := fun p hp => hoff p hp lq (.head _)
    rw [frame_eq hm] at F'
    simp only [List.cons_append, List.nil_append] at N'
    clear F1 N1
    k_steps
    (rename Fr _ _ _ _ => F3); (rename News _ _ _ _ => N3); (rename IsRange _ _ _ _ _ _ _ _ => rg3)
    refine ⟨?_⟩
    refine loop_range (n := c) (fun k m nx => Hold (∃ cc, nx = (lq, W.listOf (trItems is r c i ++ trRow is r k i).toArray cc) :: own ∧
        ∀ y, [Str.ofString "column"].contains y = false → m y = if y = Str.ofString "place" then some (.int (i : Int) tp) else if [Str.ofString "place", Str.ofString "column"].contains y = true then m₁ y else List.lookup y [(Str.ofString "items", .ref lq), (Str.ofString "columns", .int (c : Int) t1), (Str.ofString "rows", .int (r : Int) t0), (Str.ofString "extents", .ref ld), (Str.ofString "v", .ref x)]))
      rfl rg3 rfl (small_of (by omega) (by omega)) F3 N3 ⟨_, by rw [show trRow is r 0 i = [] from rfl, List.append_nil], fun _ _ => rfl⟩ ?_ ?_
    · rintro k tq m₂ nx h tk own2 hk hoff2 ⟨cc2, rfl, hm2⟩ F' N'
      clear F3 N3 rg rg3
      have hoff3 : ∀ p ∈ own ++ own2, p.1 ≠ lq := fun p hp => (List.mem_append.mp hp).elim (hoff' p) (fun q => hoff2 p q lq (.head _))
      have hx0 := hix i k hi hk
      have e1 : ((k : Int) * (r : Int) + (i : Int)) = ((k * r + i : Nat) : Int) := by push_cast; rfl
      have hb0 : 0 ≤ (k : Int) * (r : Int) + (i : Int) := by rw [e1]; exact Int.natCast_nonneg _
      have hb1 : (k : Int) * (r : Int) + (i : Int) < 27 := by rw [e1]; omega
      have hxx : is[((k : Int) * (r : Int) + (i : Int)).toNat]? = some (is.getD (k * r + i) .none) := by
        rw [e1, Int.toNat_natCast]; exact getD_some hx0
      have hln : (trItems is r c i ++ trRow is r k i).length ≤ 4096 := by
        rw [List.length_append, trRow_len]; have := trItems_len is r c i hc.2; omega
      rw [frame_eq hm2] at F'
      simp only [List.cons_append] at N'
      clear hret a0 a2 a3 a4 a5 a6 a7 a9 q3 q4 q7 q8 q9 l4 hr0 hr1 hrow hix i0 i1 z1 hnl hns g0 g1 hm hm2
      k_steps
      (rename Fr _ _ _ _ => F4); (rename News _ _ _ _ => N4)
      refine' inv_same (nx := (lq, _) :: own) F4 N4 hoff2 (Hold.mk ⟨_, ?en1, ?en2⟩)
      case en1 => rw [trRow_succ, ← List.append_assoc]
      case en2 =>
        intro y hy
        have h1 : y ≠ Str.ofString "column" := by rintro rfl; exact absurd hy (by decide)
        simp only [if_neg h1, hy, Bool.false_eq_true, if_false]
    · rintro m₂ nx h tk ⟨cc2, rfl, hm2⟩ F' N'
      rw [frame_eq hm2] at F'
      clear F3 N3 rg rg3
      k_steps
      (rename Fr _ _ _ _ => F4); (rename News _ _ _ _ => N4)
      refine' inv_same (nx := [(lq, _)]) F4 N4 hoff (Hold.mk ⟨_, ?en3, ?en4⟩)
      case en3 => rw [trItems_succ]
      case en4 =>
        intro y hy
        have h1 : y ≠ Str.ofString "column" := by rintro rfl; exact absurd hy (by decide)
        have h2 : y ≠ Str.ofString "place" := by rintro rfl; exact absurd hy (by decide)
        have h3 : [Str.ofString "column"].contains y = false := by simpa using h1
        simp only [h3, if_neg h2, hy, Bool.false_eq_true, if_false]
  · rintro m₁ nx h tk ⟨cc, rfl, hm⟩ F' N'
    rw [frame_eq hm] at F'
    clear F1 N1 rg
    k_steps
    (rename Fr _ _ _ _ => F4); (rename News _ _ _ _ => N4); (rename VecIs _ _ _ _ _ _ => hv4); (rename AttIs _ _ _ _ _ _ => ha4)
    refine hret _ _ _ _ _ F4 N4 ⟨_, _, _, _, hv4.mono fun _ _ h => List.mem_append.mpr (.inl h), ⟨_, _, rfl, List.mem_append.mpr (.inr (.tail _ (.head _)))⟩, ha4.mono fun _ _ h => List.mem_append.mpr (.inl h)⟩
end Mine
end
section
open PySem PySem.W PySem.Calls PySem.Spec PyProof.Rows
theorem Mine.devB12 : (PySem.Challenge.rw_pq1314_01.foot = 6) → Mine.hd.heap_39 = Mine.hd.heap_39 := by
  k_fill
  intro _; rfl
namespace Mine
theorem regB12_1 : True := by
  k_with_none
  k_with "m k_ne" => (refine neN ?_; (try dsimp only); first
    | with_reducible assumption
    | exact Ne.symm (by with_reducible assumption)
    | ((repeat (rename _ ∧ _ => q8z9; rcases q8z9 with ⟨_, _⟩)); first
      | with_reducible assumption
      | exact Ne.symm (by with_reducible assumption)
      | exact Nat.ne_of_gt (by with_reducible assumption)
      | exact Nat.ne_of_lt (by with_reducible assumption)))
  k_with "m k_all" => assumption
  k_with "m k_handed" => assumption
  k_with "m k_inst" => (refine' kb_inst ?Fz9 ?h1z9 ?h2z9; (case Fz9 => k_asm); (case h1z9 => assumption); (case h2z9 => assumption))
  k_with "m subscriptTail" => (k_here; (with_reducible show wpAny _ _ (subscriptTail _ _ (Value.ref _) (Value.str _ _)) _ _ _); k_dflt (refine' kb_item ?Fz9 ?oz9 ?dz9 ?lz9 ?_; (case Fz9 => k_asm); (case oz9 => assumption); (case dz9 => assumption); (case lz9 => first | assumption | rfl); k_whole))
  k_with "m compareOp In str ref" => (k_here; k_dflt (refine' kb_in ?Fz9 ?oz9 ?dz9 ?sz9 ?lz9 ?_; (case Fz9 => k_asm); (case oz9 => assumption); (case dz9 => assumption); (case sz9 => assumption); (case lz9 => first | assumption | rfl); k_whole))
  k_with "m compareOp NotIn str ref" => (k_here; k_dflt (refine' kb_notIn ?Fz9 ?oz9 ?dz9 ?sz9 ?lz9 ?_; (case Fz9 => k_asm); (case oz9 => assumption); (case dz9 => assumption); (case sz9 => assumption); (case lz9 => first | assumption | rfl); k_whole))
  k_with "m subscriptTail" => (k_here; (with_reducible show wpAny _ _ (subscriptTail _ _ (Value.ref _) (Value.int _ _)) _ _ _); k_dflt (refine' kb_lst ?lz9 ?az9 ?bz9 ?xz9 ?_; (case lz9 => is_list); (case xz9 => first | with_reducible assumption | assumption); (case az9 => omega); (case bz9 => omega); k_whole))
  k_with "m eval ListComp" => (k_here; first
  | (lct_look; k_dflt (refine LCt.ListComp_T (F₀ := by k_asm) (by with_unfolding_all rfl) (by decide) (by rfl) (by decide) (by rfl) ?_))
  | ((first | lcg_look | lcf_look); k_dflt (refine LCg.ListComp_U (F₀ := by k_asm) (by with_unfolding_all rfl) (by decide) (by rfl) (by decide) (by rfl) ?_)))
  k_with "m exec Assign cons ListComp" => (k_here; first
  | (lct_look; k_dflt (refine LCt.Assign_ListComp_T (F₀ := by k_asm) (by rfl) (by with_unfolding_all rfl) (by with_unfolding_all rfl) (by decide) (by rfl) (by decide) (by rfl) (by rfl) (by rfl) ?_))
  | ((first | lcg_look | lcf_look); k_dflt (refine LCg.Assign_ListComp_U (F₀ := by k_asm) (by rfl) (by with_unfolding_all rfl) (by with_unfolding_all rfl) (by decide) (by rfl) (by decide) (by rfl) (by rfl) (by rfl) ?_)))
  k_with "m call builtin:len" => (k_here; (with_reducible show wpAny _ _ (call (Value.builtin "len") [Value.ref _]) _ _ _); k_dflt (refine' kb_len ?lz9 ?zz9 ?_; (case lz9 => is_list); (case zz9 => first | assumption | omega); k_whole))
  k_with "m exec For Name Name cons nil" => (k_here; k_dflt (refine' For_invVF ?Fz9 ?k1z9 ?k2z9 ?_; (case Fz9 => k_asm); (case k1z9 => exact rfl); (case k2z9 => exact rfl); k_whole))
  k_with "m exec For Name Call cons nil" => (k_here; k_dflt (refine' For_invVF ?Fz9 ?k1z9 ?k2z9 ?_; (case Fz9 => k_asm); (case k1z9 => exact rfl); (case k2z9 => exact rfl); k_whole))
  k_with "m call builtin:list.append" => (k_here; (with_reducible show wpAny _ _ (call (Value.builtin _) [Value.ref _, _]) _ _ _); k_dflt (refine' kb_append ?k1z9 ?k2z9 ?k3z9 ?zz9 ?_; (case k1z9 => k_asm); (case k2z9 => k_asm); (case k3z9 => k_upd); (case zz9 => first | assumption | omega); k_whole); intro h'9 F'9 N'9; (try k_sweep))
  k_with "m k_all" => exact apart_all (by assumption) (by k_mem)
  k_with "m is_list" => first | with_reducible assumption | exact News.isList (by k_asm) (by k_mem) | exact Fr.lst (by assumption) (by assumption)
  k_with "m loadName" => (k_here; k_dflt (refine' kb_ldn ?Fz9 ?vz9 ?_ ?az9 ?bz9; (case Fz9 => k_asm); (case az9 => rfl); (case bz9 => rfl); (case vz9 => rfl); k_whole))
  k_with "m pyIter ref" => (k_here; (with_reducible show wpAny _ _ (pyIter (Value.ref _)) (fun it s₂ => LoopAtV _ _ _ _ _ _ _ _ _ it s₂) _ _); refine Halt.out ?_)
  k_with "m CompSrc" => (refine Halt.out ?_)
  k_with "m CompSrcT" => (refine Halt.out ?_)
  trivial
/-- an array of any kind -/
noncomputable def ArK (w : World) (At : Addr → Obj → Prop) (v : Value) (k : Str) (t : Tok) (is ds : List Value) (nm : Option (List (Option (List Value)))) : Prop :=
  ∃ iv av dl, VecIs w At v (.str k t) iv av ∧ LstIs At iv is ∧ AttIs w At av dl ds nm
noncomputable def SeenNm (At : Addr → Obj → Prop) (nv : Value) : Option (List (Option (List Value))) → Prop
  | none => nv = .none
  | some ns => ∃ rows, LstIs At nv rows ∧ RowsAre At rows ns

abbrev tupOf (vs : Array Value) : Obj := { cls := Value.type "tuple", data := Data.seq vs }
noncomputable def SeenIs (At : Addr → Obj → Prop) (r : Value) (k : Str) (t : Tok) (is ds : List Value) (nm : Option (List (Option (List Value)))) : Prop :=
  ∃ x l1 n1 l2 n2 nv, r = .ref x ∧ At x (tupOf #[.str k t, .ref l1, .ref l2, nv]) ∧ At l1 (W.listOf is.toArray n1) ∧ At l2 (W.listOf ds.toArray n2) ∧ SeenNm At nv nm
theorem sub_rot {α : Type} {a b c d : α} {r : List α} : ∀ p ∈ a :: b :: c :: d :: r, p ∈ d :: a :: b :: c :: r := by
  intro p hp
  simp only [List.mem_cons] at hp ⊢
  rcases hp with h | h | h | h | h <;> simp [h]
theorem RowsAre.snoc {At : Addr → Obj → Prop} {rs : List Value} {ns : List (Option (List Value))} (h : RowsAre At rs ns) {r : Value} {n : Option (List Value)} (a : RowIs At r n) : RowsAre At (rs ++ [r]) (ns ++ [n]) := by
  induction h with
  | nil => exact .cons a .nil
  | cons b _ ih => exact .cons b ih
theorem NmsAre.getv {w : World} {At : Addr → Obj → Prop} {vs rs : List Value} {ns : List (Option (List Value))} (h : NmsAre w At vs rs ns) : ∀ {k : Nat} {v : Value}, vs[k]? = some v → ∃ r n, rs[k]? = some r ∧ ns[k]? = some n ∧ NmIs w At v r n := by
  induction h with
  | nil => intro k r e; simp at e
  | cons a _ ih =>
    intro k r e
    cases k with
    | zero => simp at e; subst e; exact ⟨_, _, rfl, rfl, a⟩
    | succ k => simpa using ih (by simpa using e)

set_option maxHeartbeats 4000000 in
theorem seen_con (w : World) (v : Value) (k : Str) (t : Tok) (is ds : List Value) (nm : Option (List (Option (List Value)))) (hz : is.length ≤ 4096) (hzd : ds.length ≤ 4096) (hnm : (nsOf 0 nm).length ≤ 8) (hns : ∀ l, some l ∈ nsOf 0 nm → l.length ≤ 4096) :
    Con w 4 214 [v] (fun h => ArK w (hAt h) v k t is ds nm) (fun r nx => SeenIs (lAt nx) r k t is ds nm) := by
  refine Con.ofP (binds := [(Str.ofString "v", v)]) (by k_is) (by k_is) (fun s => BindsTo.of_eq rfl) (locs rfl) rfl rfl rfl (by decide) ?_
  intro loose mean mg mb dp un gd outer A₀ base H h₁ L' s Q B F X N T hd' hu hp hs hret
  subst hs
  obtain ⟨iv, av, dl, b1, b2, dv, t2, b5, b6, b7⟩ := hp
  obtain ⟨x, dx, u1, u2, u3, u4, u5, rfl, q1, q2⟩ := b1
  obtain ⟨li, m1, rfl, q3⟩ := b2
  obtain ⟨ld, m2, rfl, q4⟩ := b6
  obtain ⟨y, dy, w1, w2, w3, w4, w5, rfl, q5, q6⟩ := b5
  dsimp only [hAt] at q1 q2 q3 q4 q5 q6
  have l3 := lst_of q3
  have l4 := lst_of q4
  have z1 : is.toArray.size ≤ sizeLine := by rw [List.size_toArray, sizeLine_eq]; omega
  have z2 : ds.toArray.size ≤ sizeLine := by rw [List.size_toArray, sizeLine_eq]; omega
  cases nm with
  | none =>
    obtain ⟨ad, oo, rfl, q7, q8, q9⟩ := b7
    dsimp only [hAt] at q7
    have hb : (valueAt [(Str.ofString "dim", Value.ref y)] (Str.ofString "dimnames")).isSome = false := by with_unfolding_all rfl
    k_steps
    (rename Fr _ _ _ _ => F2); (rename News _ _ _ _ => N2)
    exact hret _ _ _ _ _ F2 N2 ⟨_, _, _, _, _, _, rfl, .head _, .tail _ (.tail _ (.head _)), .tail _ (.head _), rfl⟩
  | some ns =>
    obtain ⟨nv, t', nl, vs, rs, ⟨ad, oo, rfl, q7, q8, q9⟩, ⟨yn, dn, v1, v2, v3, v4, v5, rfl, p5, p6⟩, ⟨ln, m3, rfl, p7⟩, p8⟩ := b7
    dsimp only [hAt] at q7 p5 p6 p7
    have l7 := lst_of p7
    have hb : (valueAt [(Str.ofString "dim", Value.ref y), (Str.ofString "dimnames", Value.ref yn)] (Str.ofString "dimnames")).isSome = true := by with_unfolding_all rfl
    have hvs := p8.len
    dsimp only [nsOf] at hnm hns
    have z3 : vs.toArray.size ≤ sizeLine := by rw [List.size_toArray, sizeLine_eq]; omega
    k_steps
    (rename Fr _ _ _ _ => F1); (rename News _ _ _ _ => N1)
    refine ⟨?_⟩
    refine LCg.CompSrc.base rfl F1 N1 l7 z3 ?_
    intro g'
    rw [List.size_toArray]
    refine rest_ind vs.length (fun i ys news => Hold (RowsAre (lAt news) ys (ns.take i))) ?_ ?_ vs.length 0 [] _ (by omega) ⟨by rw [List.take_zero]; exact .nil⟩
    · rintro i ys news v I oI C oC D m₂ h tk E' hi hJ hP hC hx F' N' o ne
      have hv : vs[i]? = some v := by simpa using hP
      obtain ⟨r, n, hr, hn, hnm'⟩ := p8.getv hv
      have e1 := take_snoc hn
      clear F1 N1
      cases n with
      | none =>
        obtain ⟨rfl, p, dp', a1, a2, a3, rfl, r1, r2⟩ := hnm'
        dsimp only [hAt] at r1 r2
        k_steps
        exact LCg.CompEnd.intro F' N' news (fun _ h => h) o (.inl l7) ⟨by rw [e1]; exact hJ.out.snoc rfl⟩
      | some nn =>
        obtain ⟨⟨pl, pc, rfl, r3⟩, t0, p, dp', a1, a2, a3, a4, a5, rfl, r1, r2⟩ := hnm'
        dsimp only [hAt] at r1 r2 r3
        have l8 := lst_of r3
        have z4 : nn.toArray.size ≤ sizeLine := by rw [List.size_toArray, sizeLine_eq]; have := hns _ (List.mem_of_getElem? hn); omega
        k_steps
        (rename Fr _ _ _ _ => F2); (rename News _ _ _ _ => N2); (rename _ ∧ _ => l9)
        exact LCg.CompEnd.intro F2 N2 (_ :: news) sub_rot ⟨⟨Nat.ne_of_gt l9.1, Nat.ne_of_gt l9.2.1, Nat.ne_of_gt l9.2.2.1⟩, o⟩ (.inl l7) ⟨by rw [e1]; exact (hJ.out.mono fun _ _ h => .tail _ h).snoc ⟨_, _, rfl, .head _⟩⟩
    · rintro ys news hJ
      intro D h tk F' N' o1
      rw [hvs, List.take_length] at hJ
      clear F1 N1
      k_steps
      (rename Fr _ _ _ _ => F2); (rename News _ _ _ _ => N2)
      exact hret _ _ _ _ _ F2 N2 ⟨_, _, _, _, _, _, rfl, .head _, .tail _ (.tail _ (.head _)), .tail _ (.head _), _, ⟨_, _, rfl, .tail _ (.tail _ (.tail _ (.head _)))⟩, hJ.out.mono fun _ _ h => .tail _ (.tail _ (.tail _ (.tail _ h)))⟩
end Mine
end
section
open PySem PySem.W PySem.Calls PySem.Spec PyProof.Rows
theorem Mine.dev13 : (PySem.Challenge.rw_pq1314_01.foot = 6) → Mine.hd.heap_39 = Mine.hd.heap_39 := by
  k_fill
  intro _; rfl
namespace Mine
theorem regB13_1 : True := by
  k_with_none
  k_with "m k_ne" => (refine neN ?_; (try dsimp only); first
    | with_reducible assumption
    | exact Ne.symm (by with_reducible assumption)
    | ((repeat (rename _ ∧ _ => q8z9; rcases q8z9 with ⟨_, _⟩)); first
      | with_reducible assumption
      | exact Ne.symm (by with_reducible assumption)
      | exact Nat.ne_of_gt (by with_reducible assumption)
      | exact Nat.ne_of_lt (by with_reducible assumption)))
  k_with "m k_all" => assumption
  k_with "m k_handed" => assumption
  k_with "m k_inst" => (refine' kb_inst ?Fz9 ?h1z9 ?h2z9; (case Fz9 => k_asm); (case h1z9 => assumption); (case h2z9 => assumption))
  k_with "m subscriptTail" => (k_here; (with_reducible show wpAny _ _ (subscriptTail _ _ (Value.ref _) (Value.str _ _)) _ _ _); k_dflt (refine' kb_item ?Fz9 ?oz9 ?dz9 ?lz9 ?_; (case Fz9 => k_asm); (case oz9 => assumption); (case dz9 => assumption); (case lz9 => first | assumption | rfl); k_whole))
  k_with "m compareOp In str ref" => (k_here; k_dflt (refine' kb_in ?Fz9 ?oz9 ?dz9 ?sz9 ?lz9 ?_; (case Fz9 => k_asm); (case oz9 => assumption); (case dz9 => assumption); (case sz9 => assumption); (case lz9 => first | assumption | rfl); k_whole))
  k_with "m compareOp NotIn str ref" => (k_here; k_dflt (refine' kb_notIn ?Fz9 ?oz9 ?dz9 ?sz9 ?lz9 ?_; (case Fz9 => k_asm); (case oz9 => assumption); (case dz9 => assumption); (case sz9 => assumption); (case lz9 => first | assumption | rfl); k_whole))
  k_with "m subscriptTail" => (k_here; (with_reducible show wpAny _ _ (subscriptTail _ _ (Value.ref _) (Value.int _ _)) _ _ _); k_dflt (refine' kb_lst ?lz9 ?az9 ?bz9 ?xz9 ?_; (case lz9 => is_list); (case xz9 => first | with_reducible assumption | assumption); (case az9 => omega); (case bz9 => omega); k_whole))
  k_with "m eval ListComp" => (k_here; first
  | (lct_look; k_dflt (refine LCt.ListComp_T (F₀ := by k_asm) (by with_unfolding_all rfl) (by decide) (by rfl) (by decide) (by rfl) ?_))
  | ((first | lcg_look | lcf_look); k_dflt (refine LCg.ListComp_U (F₀ := by k_asm) (by with_unfolding_all rfl) (by decide) (by rfl) (by decide) (by rfl) ?_)))
  k_with "m exec Assign cons ListComp" => (k_here; first
  | (lct_look; k_dflt (refine LCt.Assign_ListComp_T (F₀ := by k_asm) (by rfl) (by with_unfolding_all rfl) (by with_unfolding_all rfl) (by decide) (by rfl) (by decide) (by rfl) (by rfl) (by rfl) ?_))
  | ((first | lcg_look | lcf_look); k_dflt (refine LCg.Assign_ListComp_U (F₀ := by k_asm) (by rfl) (by with_unfolding_all rfl) (by with_unfolding_all rfl) (by decide) (by rfl) (by decide) (by rfl) (by rfl) (by rfl) ?_)))
  k_with "m call builtin:len" => (k_here; (with_reducible show wpAny _ _ (call (Value.builtin "len") [Value.ref _]) _ _ _); k_dflt (refine' kb_len ?lz9 ?zz9 ?_; (case lz9 => is_list); (case zz9 => first | assumption | omega); k_whole))
  k_with "m exec For Name Name cons nil" => (k_here; k_dflt (refine' For_invVF ?Fz9 ?k1z9 ?k2z9 ?_; (case Fz9 => k_asm); (case k1z9 => exact rfl); (case k2z9 => exact rfl); k_whole))
  k_with "m exec For Name Call cons nil" => (k_here; k_dflt (refine' For_invVF ?Fz9 ?k1z9 ?k2z9 ?_; (case Fz9 => k_asm); (case k1z9 => exact rfl); (case k2z9 => exact rfl); k_whole))
  k_with "m call builtin:list.append" => (k_here; (with_reducible show wpAny _ _ (call (Value.builtin _) [Value.ref _, _]) _ _ _); k_dflt (refine' kb_append ?k1z9 ?k2z9 ?k3z9 ?zz9 ?_; (case k1z9 => k_asm); (case k2z9 => k_asm); (case k3z9 => k_upd); (case zz9 => first | assumption | omega); k_whole); intro h'9 F'9 N'9; (try k_sweep))
  k_with "m k_all" => exact apart_all (by assumption) (by k_mem)
  k_with "m is_list" => first | with_reducible assumption | exact News.isList (by k_asm) (by k_mem) | exact Fr.lst (by assumption) (by assumption)
  k_with "m loadName" => (k_here; k_dflt (refine' kb_ldn ?Fz9 ?vz9 ?_ ?az9 ?bz9; (case Fz9 => k_asm); (case az9 => rfl); (case bz9 => rfl); (case vz9 => rfl); k_whole))
  k_with "m pyIter ref" => (k_here; (with_reducible show wpAny _ _ (pyIter (Value.ref _)) (fun it s₂ => LoopAtV _ _ _ _ _ _ _ _ _ it s₂) _ _); refine Halt.out ?_)
  k_with "m CompSrc" => (refine Halt.out ?_)
  k_with "m CompSrcT" => (refine Halt.out ?_)
  k_with "m binaryOp Mod int int" => (k_here; refine mod_int' (by omega) ?_)
  k_with "m binaryOp FloorDiv int int" => (k_here; refine floordiv_int (by omega) ?_ (Or.inl (PyProof.noPylong_small (by omega))))
  trivial
/-- what the list cards holds -/
noncomputable def Cards (cs : List Value) : Prop := cs.length ≤ 600 ∧ ∃ ns, IntsAre cs ns ∧ ∀ n ∈ ns, 0 ≤ n ∧ n < 280
/-- a contract of a def that takes the list cards and turns it -/
noncomputable def ConM (w : World) (dep : Nat) (f : Addr) (vs : List Value) (c : Addr) (Post : Value → List (Addr × Obj) → Prop) : Prop :=
  ∀ (loose : List Str) (mean : ExcName → Option Value) (mg mb : Str → Option Value) (dp un : Nat) (gd : Option (List Code)) (cn : Str) (sc : Scope) (a : Addr) (ccd : Value) (cl : List (Str × Addr)) (outer : List Env) (A₀ : Around) (base h₀ : Heap) (L : Addr) (m : Str → Option Value) (news : List (Addr × Obj)) (s : Shared) (Q E : Value → Shared → Prop) (cs : List Value) (n : Nat),
    Below A₀ base outer h₀ → Fr h₀ L s.heap m → (hd.heap_39 w.params).In h₀ → News h₀ L s.heap ((c, W.listOf cs.toArray n) :: news) → (∀ p ∈ news, @Ne Nat p.1 c) → Cards cs → Top hd.view_39 loose mean mg mb h₀ → sc.kind = .function → dp + dep < recursionLimit → un + 8 * dep < cLine →
    (∀ r nx h' tk' cs' n', Fr h₀ L h' m → News h₀ L h' (nx ++ (c, W.listOf cs'.toArray n') :: news) → Cards cs' → (∀ q ∈ (c, W.listOf cs.toArray n) :: news, ∀ p ∈ nx, @Ne Nat q.1 p.1) → Post r nx → Q r { s with heap := h', toks := tk' }) →
    wpAny (model PySem.Challenge.rw_pq1314_01.row.prog w) (ktrTop dp un gd cn sc L a ccd cl outer) (call (.ref f) vs) Q E s
section
variable {w : World} {dep : Nat} {f c : Addr} {vs : List Value} {Post : Value → List (Addr × Obj) → Prop}
  {name qual : Str} {params : Arguments} {body : List Stmt} {scope : Scope} {dV kV doc pm cdv ct oc : Value} {an od : Option Addr} {osl : Array (Option Value)} {binds : List (Str × Value)}
theorem conM_done {h₀ h' : Heap} {L L' c : Addr} {m m' : Str → Option Value} {s : Shared} {news nx : List (Addr × Obj)} {o o' : Obj} (F : Fr h₀ L s.heap m) (N : News h₀ L s.heap ((c, o) :: news)) (hne : ∀ p ∈ news, @Ne Nat p.1 c) (F' : Fr (hideAll s.heap [c]) L' h' m') (N' : News (hideAll s.heap [c]) L' h' (nx ++ [(c, o')])) (hnx : ∀ p ∈ nx, @Ne Nat p.1 c) :
    Fr h₀ L h' m ∧ News h₀ L h' (nx ++ (c, o') :: news) ∧ ∀ q ∈ (c, o) :: news, ∀ p ∈ nx, @Ne Nat q.1 p.1 := by
  have hcL : c ≠ L := (N _ (.head _)).2.1
  have hc0 : h₀.get? c = none := (N _ (.head _)).2.2
  have k : ∀ b o, s.heap.get? b = some o → b ≠ c → h'.get? b = some o := fun b o e hb => F'.keep _ _ (hideAll_get _ e (by simpa using hb))
  have FF : Fr h₀ L h' m := ⟨F.ns.at' fun o e => k _ _ e (Ne.symm hcL), fun b o e => k _ _ (F.keep _ _ e) (fun q => by rw [q, hc0] at e; cases e), F.above⟩
  have un : ∀ p ∈ nx, ∀ o, s.heap.get? p.1 ≠ some o := fun p hp o e => by
    have h1 := (N' p (List.mem_append.mpr (.inl hp))).2.2
    rw [hideAll_get _ e (by simpa using hnx p hp)] at h1
    cases h1
  refine ⟨FF, fun p hp => ?_, fun q hq p hp e => ?_⟩
  · rcases List.mem_append.mp hp with hp | hp
    · refine ⟨(N' p (List.mem_append.mpr (.inl hp))).1, fun e => ?_, ?_⟩
      · obtain ⟨o, _, _, ho, _⟩ := F.ns
        exact un p hp o (by rw [e]; exact ho)
      · cases q : h₀.get? p.1 with
        | none => rfl
        | some o => exact absurd (F.keep _ _ q) (un p hp o)
    · rcases List.mem_cons.mp hp with rfl | hp
      · exact ⟨(N' _ (List.mem_append.mpr (.inr (.head _)))).1, hcL, hc0⟩
      · exact ⟨k _ _ (N p (.tail _ hp)).1 (hne p hp), (N p (.tail _ hp)).2⟩
  · exact un p hp q.2 (by rw [← e]; exact (N q hq).1)
theorem ConM.ofC (ho : (hd.heap_39 w.params).lookup f = some ⟨oc, od, .func (fnOf name qual params body scope dV kV doc pm an cdv ct), osl⟩) (hcd : codeIn (hd.heap_39 w.params) cdv qual = true)
    (hbind : ∀ s, BindsTo s (fnOf name qual params body scope dV kV doc pm an cdv ct) ⟨vs, []⟩ binds) (hkind : (binds.all fun y => scope.names.lookup y.1 == some .local || scope.names.lookup y.1 == some .cell) = true)
    (hnd : ((cellsFrom 0 scope.names []).map (·.1)).Nodup)
    (hco : scope.isCoroutine = false) (hgen : scope.isGenerator = false) (hks : scope.kind = .function)
    (walk : ∀ (loose : List Str) (mean : ExcName → Option Value) (mg mb : Str → Option Value) (dp un : Nat) (gd : Option (List Code)) (outer : List Env) (A₀ : Around) (base H h₁ : Heap) (L' : Addr) (s : Shared) (cells : List (Addr × Obj)) (Q : Value → Shared → Prop) (cs : List Value) (n : Nat),
      Below A₀ base outer H → Fr H L' h₁ (bindL (envOfC qual scope L' f cdv).kindOf binds fun _ => none) → (hd.heap_39 w.params).In H → News H L' h₁ (cells ++ [(c, W.listOf cs.toArray n)]) →
      CellsAre (bindC (envOfC qual scope L' f cdv).kindOf binds fun _ => none) (cellsFrom (L' + 1) scope.names []) cells → @LT.lt Nat _ c L' → Cards cs → Top hd.view_39 loose mean mg mb H → dp + dep < recursionLimit + 1 → un + 8 * dep < cLine + 3 → s.heap = h₁ →
      (∀ r nx h' tk' m' cs' n', Fr H L' h' m' → News H L' h' (nx ++ [(c, W.listOf cs'.toArray n')]) → (∀ p ∈ nx, @Ne Nat p.1 c) → Cards cs' → Post r nx → Q r { s with heap := h', toks := tk' }) →
      wpAny (model PySem.Challenge.rw_pq1314_01.row.prog w) (ktrTop dp un gd qual scope L' f cdv (cellsFrom (L' + 1) scope.names []) outer) (execs body (envX qual scope L' f cdv (cellsFrom (L' + 1) scope.names []))) (fun fl s' => Q (match fl with | .ret v => v | _ => .none) s') (fun _ _ => False) s) :
    ConM w (dep + 1) f vs c Post := by
  intro loose mean mg mb dp un gd cn sc a ccd cl outer A₀ base h₀ L m news s Q E cs n B F X N hne hcs T hck hd hu hret
  refine enterCH (news := [(c, W.listOf cs.toArray n)]) B F X T (news_sub N fun p hp => by rw [List.mem_singleton.mp hp]; exact .head _) hck ho hcd (by omega) (hbind s) hkind hnd (fun h₁ L' tk cells F' N' Y hlt B' X' T' => ?_) hco hgen hks
  refine wpAny_mono (walk loose mean mg mb (dp + 1) (un + 3) gd _ _ base _ h₁ L' _ cells Q cs n B' F' X' N' Y (hlt _ (.head _)) hcs T' (by omega) (by omega) rfl (fun r nx h' tk' m' cs' n' F'' N'' hnx hcs' P => ?_)) (fun _ _ x => x) (fun _ _ x => x.elim)
  obtain ⟨a1, a2, a3⟩ := conM_done F N hne F'' N'' hnx
  exact hret r nx h' tk' cs' n' a1 a2 hcs' a3 P
end

set_option maxHeartbeats 4000000 in
theorem card_con (w : World) (c : Addr) (k : Int) (t : Tok) (h1 : 1 ≤ k) (h2 : k ≤ 4) : ConM w 12 197 [.ref c, .int k t] c (fun r nx => nx = [] ∧ ∃ j u, r = .int j u ∧ 0 ≤ j ∧ j < k) := by
  refine ConM.ofC (binds := [(Str.ofString "cards", .ref c), (Str.ofString "many", .int k t)]) (by k_is) (by k_is) (fun s => BindsTo.of_eq rfl) rfl (by decide +kernel) rfl rfl rfl ?_
  intro loose mean mg mb dp un gd outer A₀ base H h₁ L' s cells Q cs n B F X N Y hlt hcs T hd' hu hs hret
  subst hs
  cases Y
  replace F : Fr H L' s.heap (fun y => if y = Str.ofString "many" then some (.int k t) else if y = Str.ofString "cards" then some (.ref c) else none) := F
  rw [show (fun y => if y = Str.ofString "many" then some (Value.int k t) else if y = Str.ofString "cards" then some (Value.ref c) else none) = fun y => List.lookup y [(Str.ofString "many", .int k t), (Str.ofString "cards", .ref c)] from funext fun y => by rw [← lookup_if, ← lookup_if]; rfl] at F
  simp only [List.nil_append] at N
  obtain ⟨hz, ns, hi, hb⟩ := hcs
  have hlen := hi.length
  by_cases hns : ns = []
  · subst hns
    cases hi
    k_steps
    (rename Fr _ _ _ _ => F2); (rename News _ _ _ _ => N2)
    exact hret _ [] _ _ _ _ _ F2 (news_sub N2 fun p hp => by rw [List.mem_singleton.mp hp]; exact .tail _ (.head _)) (fun _ h => nomatch h) ⟨Nat.zero_le _, _, .nil, hb⟩ ⟨rfl, _, _, rfl, by omega, by omega⟩
  · have hne : 0 < cs.length := by rw [hlen]; exact List.length_pos_iff.mpr hns
    have hdd : decide (ns = []) = false := decide_eq_false hns
    k_steps
    (rename Fr _ _ _ _ => F2); (rename News _ _ _ _ => N2); (rename IntsAre cs.dropLast _ => hi2)
    exact hret _ [] _ _ _ _ _ F2 (news_sub N2 fun p hp => by rw [List.mem_singleton.mp hp]; exact .tail _ (.head _)) (fun _ h => nomatch h) ⟨by rw [List.length_dropLast]; omega, _, hi2, fun n hn => hb n (List.dropLast_subset _ hn)⟩ ⟨rfl, _, _, rfl, fmod_lo _ (by omega), fmod_hi _ (by omega)⟩
end Mine
end
section
open PySem PySem.W PySem.Calls PySem.Spec PyProof.Rows
theorem Mine.dev14 : (PySem.Challenge.rw_pq1314_01.foot = 6) → Mine.hd.heap_39 = Mine.hd.heap_39 := by
  k_fill
  intro _; rfl
namespace Mine
theorem regB14_1 : True := by
  k_with_none
  k_with "m k_ne" => (refine neN ?_; (try dsimp only); first
    | with_reducible assumption
    | exact Ne.symm (by with_reducible assumption)
    | ((repeat (rename _ ∧ _ => q8z9; rcases q8z9 with ⟨_, _⟩)); first
      | with_reducible assumption
      | exact Ne.symm (by with_reducible assumption)
      | exact Nat.ne_of_gt (by with_reducible assumption)
      | exact Nat.ne_of_lt (by with_reducible assumption)))
  k_with "m k_all" => assumption
  k_with "m k_handed" => assumption
  trivial
inductive Spl (d : Addr) (o : Obj) : List (Addr × Obj) → List (Addr × Obj) → List (Addr × Obj) → Prop
  | head {r} : (∀ p ∈ r, p.1 ≠ d) → Spl d o ((d, o) :: r) [] r
  | tail {p r a b} : p.1 ≠ d → Spl d o r a b → Spl d o (p :: r) (p :: a) b
theorem Spl.split {d : Addr} {o : Obj} : ∀ {l a b : List (Addr × Obj)}, Spl d o l a b → l = a ++ (d, o) :: b ∧ (∀ p ∈ a, p.1 ≠ d) ∧ ∀ p ∈ b, p.1 ≠ d
  | _, _, _, .head h => ⟨rfl, (fun _ h => (nomatch h)), h⟩
  | _, _, _, .tail (p := p) h r =>
    let ⟨e, f, g⟩ := r.split
    ⟨by rw [e]; rfl, (fun q hq => by rcases List.mem_cons.mp hq with rfl | hq; exact h; exact f q hq), g⟩
theorem ConM.use {w : World} {dep : Nat} {f c : Addr} {vs : List Value} {Post : Value → List (Addr × Obj) → Prop} (H : ConM w dep f vs c Post)
  (loose : List Str) (mean : ExcName → Option Value) (mg mb : Str → Option Value) (dp un : Nat) (gd : Option (List Code)) (cn : Str) (sc : Scope) (a : Addr) (ccd : Value) (cl : List (Str × Addr)) (outer : List Env) (A₀ : Around) (base h₀ : Heap) (L : Addr) (m : Str → Option Value) (news : List (Addr × Obj)) (s : Shared) (Q E : Value → Shared → Prop) (cs : List Value) (n : Nat) {pre post : List (Addr × Obj)}
  (B : Below A₀ base outer h₀) (F : Fr h₀ L s.heap m) (X : (hd.heap_39 w.params).In h₀) (N : News h₀ L s.heap news) (U : Spl c (W.listOf cs.toArray n) news pre post) (C : Cards cs) (T : Top hd.view_39 loose mean mg mb h₀) (ck : sc.kind = .function) (hd : dp + dep < recursionLimit) (hu : un + 8 * dep < cLine)
  (ret : ∀ r nx h' tk' cs' n', Fr h₀ L h' m → News h₀ L h' (nx ++ (pre ++ (c, W.listOf cs'.toArray n') :: post)) → Cards cs' → (∀ q ∈ news, ∀ p ∈ nx, @Ne Nat q.1 p.1) → Post r nx → Q r { s with heap := h', toks := tk' }) :
    wpAny (model PySem.Challenge.rw_pq1314_01.row.prog w) (ktrTop dp un gd cn sc L a ccd cl outer) (call (.ref f) vs) Q E s := by
  obtain ⟨rfl, a1, a2⟩ := U.split
  refine H loose mean mg mb dp un gd cn sc a ccd cl outer A₀ base h₀ L m (pre ++ post) s Q E cs n B F X (news_sub N fun p hp => ?_) (fun p hp => (List.mem_append.mp hp).elim (a1 p) (a2 p)) C T ck hd hu fun r nx h' tk' cs' n' F' N' C' ne P => ret r nx h' tk' cs' n' F' (news_sub N' fun p hp => ?_) C' (fun q hq => ne q ?_) P
  · rcases List.mem_cons.mp hp with rfl | hp
    · exact List.mem_append.mpr (.inr (.head _))
    · exact List.mem_append.mpr ((List.mem_append.mp hp).imp id (.tail _))
  · rcases List.mem_append.mp hp with hp | hp
    · exact List.mem_append.mpr (.inl hp)
    · refine List.mem_append.mpr (.inr ?_)
      rcases List.mem_append.mp hp with hp | hp
      · exact .tail _ (List.mem_append.mpr (.inl hp))
      · rcases List.mem_cons.mp hp with rfl | hp
        · exact .head _
        · exact .tail _ (List.mem_append.mpr (.inr hp))
  · rcases List.mem_append.mp hq with h | h
    · exact .tail _ (List.mem_append.mpr (.inl h))
    · rcases List.mem_cons.mp h with rfl | h
      · exact .head _
      · exact .tail _ (List.mem_append.mpr (.inr h))

theorem cut_at : ∀ (p q : List Value) (y : Value), kl_cut (p ++ y :: q) p.length = some (p, y, q)
  | [], _, _ => rfl
  | x :: p, q, y => by
    show (match kl_cut (p ++ y :: q) p.length with | some (a, b, c) => some (x :: a, b, c) | none => none) = _
    rw [cut_at p q y]
theorem IntsAre.erase {vs : List Value} {ls : List Int} (h : IntsAre vs ls) : ∀ k : Nat, IntsAre (vs.eraseIdx k) (ls.eraseIdx k) := by
  induction h with
  | nil => intro k; simpa using IntsAre.nil
  | cons n t r ih =>
    intro k
    cases k with
    | zero => exact r
    | succ k => exact .cons n t (ih k)
theorem kb_popAt {prog : Program} {w : World} {A : Around} {E : Value → Shared → Prop} {s : Shared} {h₀ : Heap} {L D : Addr} {m : Str → Option Value} {news news' : List (Addr × Obj)} {n : Nat} {vs : List Value} {ls : List Int} {j : Int} {u : Tok} {Q : Value → Shared → Prop}
    (F : Fr h₀ L s.heap m) (N : News h₀ L s.heap news) (U : Upd D (W.listOf vs.toArray n) (W.listOf (vs.eraseIdx j.toNat).toArray (n + 1)) news news') (hi : Hold (IntsAre vs ls)) (h0 : 0 ≤ j) (h1 : j < (ls.length : Int)) (hz : ls.length ≤ 4096)
    (h : ∀ h' a t, ls[j.toNat]? = some a → Hold (IntsAre (vs.eraseIdx j.toNat) (ls.eraseIdx j.toNat)) → Fr h₀ L h' m → News h₀ L h' news' → Q (.int a t) { s with heap := h' }) : wpAny (model prog w) A (call (.builtin "list.pop") [.ref D, .int j u]) Q E s := by
  have hl := hi.out.length
  have hk : j.toNat < vs.length := by omega
  obtain ⟨a, ha⟩ : ∃ a, ls[j.toNat]? = some a := ⟨_, List.getElem?_eq_getElem (by omega)⟩
  obtain ⟨t, ht⟩ := hi.out.get _ _ ha
  have e : vs = vs.take j.toNat ++ .int a t :: vs.drop (j.toNat + 1) := by
    have e1 := List.take_append_drop j.toNat vs
    rw [← List.getElem_cons_drop hk] at e1
    rw [show vs[j.toNat] = .int a t from Option.some.inj (by rw [← List.getElem?_eq_getElem hk]; exact ht)] at e1
    exact e1.symm
  have e2 : vs.eraseIdx j.toNat = vs.take j.toNat ++ vs.drop (j.toNat + 1) := List.eraseIdx_eq_take_drop_succ ..
  have e3 : (vs.take j.toNat).length = j.toNat := by rw [List.length_take]; omega
  refine kl_popAt (k := j.toNat) (p := vs.take j.toNat) (y := .int a t) (q := vs.drop (j.toNat + 1)) F N ?_ ?_ ?_ (by rw [← e2]; exact U) ?_ fun h' F' N' => h h' a t ha ⟨IntsAre.erase hi.out _⟩ F' N'
  · simp only [Builtin.List.listFitsIndex]; simp; omega
  · have h2 : (vs.toArray.size : Int) = ls.length := by rw [List.size_toArray]; omega
    unfold seqIndex?
    rw [if_neg (show ¬ j < 0 by omega), h2]
    have h3 : (decide (0 ≤ j) && decide (j < (ls.length : Int))) = true := by simp; omega
    simp only [h3, if_true]
  · show kl_cut vs _ = _
    have := cut_at (vs.take j.toNat) (vs.drop (j.toNat + 1)) (.int a t)
    rw [e3, ← e] at this
    exact this
  · rw [sizeLine_eq]; show vs.length ≤ _; omega
end Mine
end
section
open PySem PySem.W PySem.Calls PySem.Spec PyProof.Rows
theorem Mine.dev15 : (PySem.Challenge.rw_pq1314_01.foot = 6) → Mine.hd.heap_39 = Mine.hd.heap_39 := by
  k_fill
  intro _; rfl
namespace Mine
theorem regB15_1 : True := by
  k_with_none
  k_with "m k_ne" => (refine neN ?_; (try dsimp only); first
    | with_reducible assumption
    | exact Ne.symm (by with_reducible assumption)
    | ((repeat (rename _ ∧ _ => q8z9; rcases q8z9 with ⟨_, _⟩)); first
      | with_reducible assumption
      | exact Ne.symm (by with_reducible assumption)
      | exact Nat.ne_of_gt (by with_reducible assumption)
      | exact Nat.ne_of_lt (by with_reducible assumption)))
  k_with "m k_all" => assumption
  k_with "m k_handed" => assumption
  k_with "m k_inst" => (refine' kb_inst ?Fz9 ?h1z9 ?h2z9; (case Fz9 => k_asm); (case h1z9 => assumption); (case h2z9 => assumption))
  k_with "m subscriptTail" => (k_here; (with_reducible show wpAny _ _ (subscriptTail _ _ (Value.ref _) (Value.str _ _)) _ _ _); k_dflt (refine' kb_item ?Fz9 ?oz9 ?dz9 ?lz9 ?_; (case Fz9 => k_asm); (case oz9 => assumption); (case dz9 => assumption); (case lz9 => first | assumption | rfl); k_whole))
  k_with "m compareOp In str ref" => (k_here; k_dflt (refine' kb_in ?Fz9 ?oz9 ?dz9 ?sz9 ?lz9 ?_; (case Fz9 => k_asm); (case oz9 => assumption); (case dz9 => assumption); (case sz9 => assumption); (case lz9 => first | assumption | rfl); k_whole))
  k_with "m compareOp NotIn str ref" => (k_here; k_dflt (refine' kb_notIn ?Fz9 ?oz9 ?dz9 ?sz9 ?lz9 ?_; (case Fz9 => k_asm); (case oz9 => assumption); (case dz9 => assumption); (case sz9 => assumption); (case lz9 => first | assumption | rfl); k_whole))
  k_with "m subscriptTail" => (k_here; (with_reducible show wpAny _ _ (subscriptTail _ _ (Value.ref _) (Value.int _ _)) _ _ _); k_dflt (refine' kb_lst ?lz9 ?az9 ?bz9 ?xz9 ?_; (case lz9 => is_list); (case xz9 => first | with_reducible assumption | assumption); (case az9 => omega); (case bz9 => omega); k_whole))
  k_with "m call builtin:len" => (k_here; (with_reducible show wpAny _ _ (call (Value.builtin "len") [Value.ref _]) _ _ _); k_dflt (refine' kb_len ?lz9 ?zz9 ?_; (case lz9 => is_list); (case zz9 => first | assumption | omega); k_whole))
  k_with "m exec For Name Name cons nil" => (k_here; k_dflt (refine' For_invVF ?Fz9 ?k1z9 ?k2z9 ?_; (case Fz9 => k_asm); (case k1z9 => exact rfl); (case k2z9 => exact rfl); k_whole))
  k_with "m exec For Name Call cons nil" => (k_here; k_dflt (refine' For_invVF ?Fz9 ?k1z9 ?k2z9 ?_; (case Fz9 => k_asm); (case k1z9 => exact rfl); (case k2z9 => exact rfl); k_whole))
  k_with "m call builtin:list.append" => (k_here; (with_reducible show wpAny _ _ (call (Value.builtin _) [Value.ref _, _]) _ _ _); k_dflt (refine' kb_append ?k1z9 ?k2z9 ?k3z9 ?zz9 ?_; (case k1z9 => k_asm); (case k2z9 => k_asm); (case k3z9 => k_upd); (case zz9 => first | assumption | omega); k_whole); intro h'9 F'9 N'9; (try k_sweep))
  k_with "m call type:range" => (k_here; (with_reducible show wpAny _ _ (call (Value.type _) [Value.int _ _]) _ _ _); k_dflt (refine' range1_rows ?Fz9 ?Nz9 ?_; (case Fz9 => k_asm); (case Nz9 => k_asm)); intro h'9 tk'9 t1'9 t2'9 t3'9 rg'9 F'9 N'9 rk'9; clear rk'9; (try k_sweep))
  k_with "m compareOp NotIn int ref" => (k_here; k_dflt (refine' ints_in ?lz9 ?iz9 ?mz9 ?_; (case lz9 => is_list); (case iz9 => exact Hold.out (by assumption)); (case mz9 => exact AllIn.out (by assumption) _ (by omega) (by omega)); k_whole))
  k_with "m is_list" => first | with_reducible assumption | exact News.isList (by k_asm) (by k_mem) | exact Fr.lst (by assumption) (by assumption)
  k_with "m loadName" => (k_here; k_dflt (refine' kb_ldn ?Fz9 ?vz9 ?_ ?az9 ?bz9; (case Fz9 => k_asm); (case az9 => rfl); (case bz9 => rfl); (case vz9 => rfl); k_whole))
  k_with "m pyIter ref" => (k_here; (with_reducible show wpAny _ _ (pyIter (Value.ref _)) (fun it s₂ => LoopAtV _ _ _ _ _ _ _ _ _ it s₂) _ _); refine Halt.out ?_)
  k_with "m CompSrc" => (refine Halt.out ?_)
  k_with "m CompSrcT" => (refine Halt.out ?_)
  k_with "m binaryOp Mod int int" => (k_here; refine mod_int' (by omega) ?_)
  k_with "m binaryOp FloorDiv int int" => (k_here; refine floordiv_int (by omega) ?_ (Or.inl (PyProof.noPylong_small (by omega))))
  k_with "m k_upd" => first | (refine' Spl.head ?az9; (case az9 => k_all)) | (refine' Spl.tail ?az9 ?bz9; (case az9 => k_ne); (case bz9 => k_upd))
  k_with "m call ref" => (k_here; (with_reducible show wpAny _ _ (call (Value.ref 197) [_, _]) _ _ _); k_dflt (refine' ConM.use (card_con _ _ _ _ ?h1z9 ?h2z9) _ _ _ _ _ _ _ _ _ _ _ _ _ _ _ _ _ _ _ _ _ _ _ _ ?Bz9 ?Fz9 ?Xz9 ?Nz9 ?Uz9 ?Cz9 ?Tz9 ?ckz9 ?hdz9 ?huz9 ?_; (case Bz9 => k_asm); (case Fz9 => k_asm); (case Xz9 => k_asm); (case Nz9 => k_asm); (case Uz9 => k_upd); (case Cz9 => assumption); (case Tz9 => k_asm); (case h1z9 => omega); (case h2z9 => omega); (case ckz9 => first | rfl | assumption); (case hdz9 => omega); (case huz9 => omega); k_whole); intro r'9 nx'9 h'9 tk'9 cs'9 n'9 F'9 N'9 C'9 ne'9 P'9; obtain ⟨hn'9, j'9, u'9, hr'9, hj1'9, hj2'9⟩ := P'9; subst hr'9; subst hn'9; (have nr'9 := Apart.mk ne'9); (try simp only [List.cons_append, List.nil_append] at N'9); (try simp only [List.forall_mem_cons, List.not_mem_nil, false_implies, implies_true, and_true] at ne'9); (try k_sweep))
  k_with "m exec While Compare cons nil" => (k_here; refine Halt.out ?_)
  k_with "m call builtin:list.pop" => (k_here; (with_reducible show wpAny _ _ (call (Value.builtin _) [Value.ref _, Value.int _ _]) _ _ _); k_dflt (refine' kb_popAt ?Fz9 ?Nz9 ?Uz9 ?iz9 ?k0z9 ?k1z9 ?zz9 ?_; (case Fz9 => k_asm); (case Nz9 => k_asm); (case Uz9 => k_upd); (case iz9 => with_reducible assumption); (case k0z9 => omega); (case k1z9 => omega); (case zz9 => omega); k_whole); intro h'9 a'9 t'9 hp'9 hi'9 F'9 N'9; (try dsimp only [List.nil_append, List.cons_append] at N'9); (try k_sweep))
  trivial
theorem news_tail {h₀ h : Heap} {L : Addr} {p : Addr × Obj} {l : List (Addr × Obj)} (N : News h₀ L h (p :: l)) : News h₀ L h l := news_sub N fun _ hp => .tail _ hp
theorem erase_perm0 : ∀ (ls : List Int) (j : Nat) (a : Int), ls[j]? = some a → (a :: ls.eraseIdx j).Perm ls
  | [], _, _, h => by simp at h
  | x :: r, 0, a, h => by simp at h; subst h; exact List.Perm.refl _
  | x :: r, j + 1, a, h => by
    have := erase_perm0 r j a (by simpa using h)
    exact (List.Perm.swap x a _).trans (List.Perm.cons x this)
theorem erase_perm {ls fs : List Int} {j : Nat} {a : Int} (h : ls[j]? = some a) : ((fs ++ [a]) ++ ls.eraseIdx j).Perm (fs ++ ls) := by
  rw [List.append_assoc]
  exact List.Perm.append_left fs (erase_perm0 ls j a h)
noncomputable def rangeL (k : Nat) : List Int := (List.range k).map fun i : Nat => (i : Int)
set_option maxHeartbeats 4000000 in
theorem order_con (w : World) (c : Addr) (k : Nat) (t : Tok) (h1 : 1 ≤ k) (h2 : k ≤ 3) : ConM w 16 204 [.ref c, .int (k : Int) t] c (fun r nx => ∃ l n vs fs, r = .ref l ∧ nx = [(l, W.listOf vs.toArray n)] ∧ Hold (IntsAre vs fs) ∧ fs.Perm (rangeL k)) := by
  refine ConM.ofC (binds := [(Str.ofString "cards", .ref c), (Str.ofString "many", .int k t)]) (by k_is) (by k_is) (fun s => BindsTo.of_eq rfl) rfl (by decide +kernel) rfl rfl rfl ?_
  intro loose mean mg mb dp un gd outer A₀ base H h₁ L' s cells Q cs n B F X N Y hlt hcs T hd' hu hs hret
  subst hs
  cases Y
  replace F : Fr H L' s.heap (fun y => if y = Str.ofString "many" then some (.int k t) else if y = Str.ofString "cards" then some (.ref c) else none) := F
  rw [show (fun y => if y = Str.ofString "many" then some (Value.int k t) else if y = Str.ofString "cards" then some (Value.ref c) else none) = fun y => List.lookup y [(Str.ofString "many", .int k t), (Str.ofString "cards", .ref c)] from funext fun y => by rw [← lookup_if, ← lookup_if]; rfl] at F
  simp only [List.nil_append] at N
  k_steps
  (rename Fr _ _ _ _ => F1); (rename News _ _ _ _ => N1); (rename IntsAre _ (rangeKs _ _) => hi1)
  simp only [lookup_if] at F1
  obtain ⟨lf, ll, hlf, hll, N1⟩ := news_name N1
  subst hlf; subst hll
  rw [show rangeKs 0 ((k : Int) - 0).toNat = rangeL k by simp [rangeKs, rangeL]] at hi1
  refine ⟨?_⟩
  refine While_inv (n₀ := k) (fun n m news => Hold (∃ ls fs lv fv cl cf cs' cn, n = ls.length ∧ news = [(lf, W.listOf (List.toArray fv) cf), (ll, W.listOf (List.toArray lv) cl), (c, W.listOf (List.toArray cs') cn)] ∧ IntsAre lv ls ∧ IntsAre fv fs ∧ (fs ++ ls).Perm (rangeL k) ∧ Cards cs' ∧
      m = fun y => List.lookup y [(Str.ofString "found", Value.ref lf), (Str.ofString "left", Value.ref ll), (Str.ofString "many", Value.int (k : Int) t), (Str.ofString "cards", Value.ref c)])) F1 N1
    ⟨_, [], _, [], _, _, _, _, by simp [rangeL], rfl, hi1, .nil, by simp, hcs, rfl⟩ ?_
  rintro n m₁ news₁ hh tk₁ F2 N2 ⟨ls, fs, lv, fv, cl, cf, cs', cn, rfl, rfl, hlv, hfv, hperm, hcs', rfl⟩
  clear F1 N1 hcs
  have hll := hlv.length
  have hlf := hfv.length
  have hpl := hperm.length_eq
  simp only [List.length_append, rangeL, List.length_map, List.length_range] at hpl
  by_cases hls : ls = []
  · subst hls
    cases hlv
    simp only [List.append_nil] at hperm
    replace hfv := Hold.mk hfv
    k_steps
    (rename Fr _ _ _ _ => F3); (rename News _ _ _ _ => N3)
    exact hret _ [(lf, W.listOf (List.toArray fv) cf)] _ _ _ cs' cn F3 (news_sub N3 fun p hp => by simp only [List.mem_append, List.mem_singleton] at hp; rcases hp with rfl | rfl <;> simp) (fun p hp => by rw [List.mem_singleton.mp hp]; exact Ne.symm (by omega)) hcs' ⟨_, _, _, _, rfl, rfl, hfv, hperm⟩
  · have hpos : 1 ≤ ls.length := List.length_pos_iff.mpr hls
    have hdd : decide (ls = []) = false := decide_eq_false hls
    have hz1 : fv.length ≤ 4096 := by omega
    replace hfv := Hold.mk hfv
    have hlv' := Hold.mk hlv
    k_steps
    (rename Fr _ _ _ _ => F3); (rename News _ _ _ _ => N3); (rename Hold (IntsAre (List.eraseIdx _ _) _) => hl3); (rename (_ : List Int)[_]? = some _ => hp3); (rename Cards _ => hc3)
    have hj3 := (List.getElem?_eq_some_iff.mp hp3).1
    refine WhileStep.intro F3 (news_tail N3) (n' := (ls.eraseIdx _).length) (by rw [List.length_eraseIdx_of_lt hj3]; omega) ⟨_, _, _, _, _, _, _, _, rfl, rfl, hl3.out, hfv.out.append (.cons _ _ .nil), ?_, hc3, rfl⟩
    exact (erase_perm hp3).trans hperm
end Mine
end
section
open PySem PySem.W PySem.Calls PySem.Spec PyProof.Rows
theorem Mine.dev16 : (PySem.Challenge.rw_pq1314_01.foot = 6) → Mine.hd.heap_39 = Mine.hd.heap_39 := by
  k_fill
  intro _; rfl
namespace Mine
theorem regB16_1 : True := by
  k_with_none
  k_with "m k_ne" => (refine neN ?_; (try dsimp only); first
    | with_reducible assumption
    | exact Ne.symm (by with_reducible assumption)
    | ((repeat (rename _ ∧ _ => q8z9; rcases q8z9 with ⟨_, _⟩)); first
      | with_reducible assumption
      | exact Ne.symm (by with_reducible assumption)
      | exact Nat.ne_of_gt (by with_reducible assumption)
      | exact Nat.ne_of_lt (by with_reducible assumption)))
  k_with "m k_all" => assumption
  k_with "m k_handed" => assumption
  k_with "m k_inst" => (refine' kb_inst ?Fz9 ?h1z9 ?h2z9; (case Fz9 => k_asm); (case h1z9 => assumption); (case h2z9 => assumption))
  k_with "m subscriptTail" => (k_here; (with_reducible show wpAny _ _ (subscriptTail _ _ (Value.ref _) (Value.str _ _)) _ _ _); k_dflt (refine' kb_item ?Fz9 ?oz9 ?dz9 ?lz9 ?_; (case Fz9 => k_asm); (case oz9 => assumption); (case dz9 => assumption); (case lz9 => first | assumption | rfl); k_whole))
  k_with "m compareOp In str ref" => (k_here; k_dflt (refine' kb_in ?Fz9 ?oz9 ?dz9 ?sz9 ?lz9 ?_; (case Fz9 => k_asm); (case oz9 => assumption); (case dz9 => assumption); (case sz9 => assumption); (case lz9 => first | assumption | rfl); k_whole))
  k_with "m compareOp NotIn str ref" => (k_here; k_dflt (refine' kb_notIn ?Fz9 ?oz9 ?dz9 ?sz9 ?lz9 ?_; (case Fz9 => k_asm); (case oz9 => assumption); (case dz9 => assumption); (case sz9 => assumption); (case lz9 => first | assumption | rfl); k_whole))
  k_with "m subscriptTail" => (k_here; (with_reducible show wpAny _ _ (subscriptTail _ _ (Value.ref _) (Value.int _ _)) _ _ _); k_dflt (refine' kb_lst ?lz9 ?az9 ?bz9 ?xz9 ?_; (case lz9 => is_list); (case xz9 => first | with_reducible assumption | assumption); (case az9 => omega); (case bz9 => omega); k_whole))
  k_with "m call builtin:len" => (k_here; (with_reducible show wpAny _ _ (call (Value.builtin "len") [Value.ref _]) _ _ _); k_dflt (refine' kb_len ?lz9 ?zz9 ?_; (case lz9 => is_list); (case zz9 => first | assumption | omega); k_whole))
  k_with "m exec For Name Name cons nil" => (k_here; k_dflt (refine' For_invVF ?Fz9 ?k1z9 ?k2z9 ?_; (case Fz9 => k_asm); (case k1z9 => exact rfl); (case k2z9 => exact rfl); k_whole))
  k_with "m exec For Name Call cons nil" => (k_here; k_dflt (refine' For_invVF ?Fz9 ?k1z9 ?k2z9 ?_; (case Fz9 => k_asm); (case k1z9 => exact rfl); (case k2z9 => exact rfl); k_whole))
  k_with "m call builtin:list.append" => (k_here; (with_reducible show wpAny _ _ (call (Value.builtin _) [Value.ref _, _]) _ _ _); k_dflt (refine' kb_append ?k1z9 ?k2z9 ?k3z9 ?zz9 ?_; (case k1z9 => k_asm); (case k2z9 => k_asm); (case k3z9 => k_upd); (case zz9 => first | assumption | omega); k_whole); intro h'9 F'9 N'9; (try k_sweep))
  k_with "m call type:range" => (k_here; (with_reducible show wpAny _ _ (call (Value.type _) [Value.int _ _]) _ _ _); k_dflt (refine' range1_rows ?Fz9 ?Nz9 ?_; (case Fz9 => k_asm); (case Nz9 => k_asm)); intro h'9 tk'9 t1'9 t2'9 t3'9 rg'9 F'9 N'9 rk'9; clear rk'9; (try k_sweep))
  k_with "m compareOp NotIn int ref" => (k_here; k_dflt (refine' ints_in ?lz9 ?iz9 ?mz9 ?_; (case lz9 => is_list); (case iz9 => exact Hold.out (by assumption)); (case mz9 => exact AllIn.out (by assumption) _ (by omega) (by omega)); k_whole))
  k_with "m is_list" => first | with_reducible assumption | exact News.isList (by k_asm) (by k_mem) | exact Fr.lst (by assumption) (by assumption)
  k_with "m loadName" => (k_here; k_dflt (refine' kb_ldn ?Fz9 ?vz9 ?_ ?az9 ?bz9; (case Fz9 => k_asm); (case az9 => rfl); (case bz9 => rfl); (case vz9 => rfl); k_whole))
  k_with "m pyIter ref" => (k_here; (with_reducible show wpAny _ _ (pyIter (Value.ref _)) (fun it s₂ => LoopAtV _ _ _ _ _ _ _ _ _ it s₂) _ _); refine Halt.out ?_)
  k_with "m CompSrc" => (refine Halt.out ?_)
  k_with "m CompSrcT" => (refine Halt.out ?_)
  k_with "m binaryOp Mod int int" => (k_here; refine mod_int' (by omega) ?_)
  k_with "m binaryOp FloorDiv int int" => (k_here; refine floordiv_int (by omega) ?_ (Or.inl (PyProof.noPylong_small (by omega))))
  k_with "m exec For Name Subscript cons nil" => (k_here; k_dflt (refine' For_invVF ?Fz9 ?k1z9 ?k2z9 ?_; (case Fz9 => k_asm); (case k1z9 => exact rfl); (case k2z9 => exact rfl); k_whole))
  trivial
theorem kb_rev {prog : Program} {w : World} {A : Around} {E : Value → Shared → Prop} {s : Shared} {h₀ : Heap} {L D : Addr} {m : Str → Option Value} {news news' : List (Addr × Obj)} {n : Nat} {vs : List Value} {Q : Value → Shared → Prop} (F : Fr h₀ L s.heap m) (N : News h₀ L s.heap news) (U : Upd D (W.listOf vs.toArray n) (W.listOf vs.reverse.toArray n) news news') (hz : vs.length ≤ 4096)
    (h : ∀ h', Fr h₀ L h' m → News h₀ L h' news' → Q .none { s with heap := h' }) : wpAny (model prog w) A (call (.builtin "list.reverse") [.ref D]) Q E s :=
  kl_reverse (l := vs.reverse) F N rfl U (by rw [sizeLine_eq]; show vs.length ≤ _; omega) h
theorem regB16_2 : True := by
  k_with "m call builtin:list.reverse" => (k_here; (with_reducible show wpAny _ _ (call (Value.builtin _) [Value.ref _]) _ _ _); k_dflt (refine' kb_rev ?Fz9 ?Nz9 ?Uz9 ?zz9 ?_; (case Fz9 => k_asm); (case Nz9 => k_asm); (case Uz9 => k_upd); (case zz9 => exact Nat.le_trans (Nat.le_of_eq (IntsAre.length (by assumption))) (by omega)); k_whole); intro h'9 F'9 N'9; (try dsimp only [List.nil_append, List.cons_append] at N'9); (try k_sweep))
  trivial
theorem cards_fr {y : Str} {v u : Value} {m₁ : Str → Option Value} {l : List (Str × Value)} (hy : [Str.ofString "stacked_up", Str.ofString "cell", Str.ofString "lap"].contains y = false) :
    (if y = Str.ofString "stacked_up" then some v else if y = Str.ofString "cell" then some u else if [Str.ofString "cell", Str.ofString "stacked_up", Str.ofString "lap"].contains y = true then m₁ y else List.lookup y l) = List.lookup y l := by
  have h1 : y ≠ Str.ofString "stacked_up" := by rintro rfl; exact absurd hy (by decide)
  have h2 : y ≠ Str.ofString "cell" := by rintro rfl; exact absurd hy (by decide)
  have h3 : y ≠ Str.ofString "lap" := by rintro rfl; exact absurd hy (by decide)
  rw [if_neg h1, if_neg h2, if_neg]
  simp [h1, h2, h3]
noncomputable def CB (cs : List Value) : Prop := ∃ ns, IntsAre cs ns ∧ ∀ n ∈ ns, 0 ≤ n ∧ n < 280
theorem CB.snoc {cs : List Value} (h : CB cs) {n : Int} {t : Tok} (h0 : 0 ≤ n) (h1 : n < 280) : CB (cs ++ [.int n t]) := by
  obtain ⟨ns, a, b⟩ := h
  refine ⟨ns ++ [n], a.append (.cons _ _ .nil), fun x hx => ?_⟩
  rcases List.mem_append.mp hx with hx | hx
  · exact b x hx
  · rw [List.mem_singleton.mp hx]; exact ⟨h0, h1⟩
theorem sub_in {α : Type} {a b : α} {own own2 : List α} : ∀ p ∈ [a, b] ++ own, p ∈ a :: b :: (own ++ own2) := by
  intro p hp
  simp only [List.cons_append, List.nil_append, List.mem_cons, List.mem_append] at hp ⊢
  rcases hp with h | h | h <;> simp [h]
set_option maxHeartbeats 4000000 in
theorem cards_con (w : World) (l : Addr) (vs : List Value) (ns : List Int) (hi0 : Hold (IntsAre vs ns)) (hz0 : vs.length ≤ 63) : Con w 12 190 [.ref l] (fun h => h.IsList l vs.toArray) (fun r nx => ∃ lc cs n, r = .ref lc ∧ nx = [(lc, W.listOf cs.toArray n)] ∧ Cards cs) := by
  refine Con.ofP (binds := [(Str.ofString "script", .ref l)]) (by k_is) (by k_is) (fun s => BindsTo.of_eq rfl) (locs rfl) rfl rfl rfl (by decide) ?_
  intro loose mean mg mb dp un gd outer A₀ base H h₁ L' s Q B F X N T hd' hu hp hs hret
  subst hs
  have hi := hi0.out
  k_steps
  (rename Fr _ _ _ _ => F1); (rename News _ _ _ _ => N1); (rename IntsAre _ (List.take 50 _) => hi1); (rename (List.take 50 _).length ≤ _ => hl1)
  obtain ⟨lsl, lc, hlsl, hlc, N1⟩ := news_name N1
  subst hlsl; subst hlc
  simp only [lookup_if] at F1
  have hwl := hi1.length
  refine ⟨?_⟩
  refine kdl_iter (fun i m nx => Hold (∃ cs n, nx = [(lsl, _), (lc, W.listOf (List.toArray cs) n)] ∧ cs.length ≤ 12 * i ∧ CB cs ∧ ∀ y, [Str.ofString "cell", Str.ofString "stacked_up", Str.ofString "lap"].contains y = false → m y = List.lookup y [(Str.ofString "cards", Value.ref lc), (Str.ofString "script", .ref l)]))
    rfl (.head _) F1 N1 ⟨[], _, rfl, Nat.zero_le _, ⟨_, .nil, fun _ h => nomatch h⟩, fun _ _ => rfl⟩ ?_ ?_
  · rintro i v m₁ nx h tk own hv hoff hmem ⟨cs, n, rfl, hcl, hcb, hm⟩ F' N'
    clear F1 N1
    obtain ⟨a, ta, rfl, ha⟩ := hi1.at i v hv
    have hil : i < 50 := by have := (List.getElem?_eq_some_iff.mp ha).1; rw [List.length_take] at this; omega
    have hoff' : ∀ p ∈ own, p.1 ≠ lc := fun p hp => hoff p hp lc (.tail _ (.head _))
    have hoff2 : ∀ p ∈ own, p.1 ≠ lsl := fun p hp => hoff p hp lsl (.head _)
    replace hi1 := Hold.mk hi1
    clear hi
    rw [frame_eq hm] at F'
    simp only [List.cons_append, List.nil_append] at N'
    k_steps
    all_goals (
      (rename Fr _ _ _ _ => F3); (rename News _ _ _ _ => N3); (rename IsRange _ _ _ _ _ _ _ _ => rg3)
      refine ⟨?_⟩
      refine loop_range (n := 12) (fun k m nx => Hold (∃ cs n a t, nx = (lsl, _) :: (lc, W.listOf (List.toArray cs) n) :: own ∧ cs.length ≤ 12 * i + k ∧ CB cs ∧ 0 ≤ a ∧ m (Str.ofString "stacked_up") = some (.int a t) ∧
          ∀ y, [Str.ofString "stacked_up", Str.ofString "cell", Str.ofString "lap"].contains y = false → m y = List.lookup y [(Str.ofString "cards", Value.ref lc), (Str.ofString "script", .ref l)]))
        rfl rg3 rfl (small_of (by omega) (by omega)) F3 N3 ⟨cs, n, _, _, rfl, by omega, hcb, ?_, rfl, fun y hy => ?_⟩ ?_ ?_
      · omega
      · exact cards_fr hy
      · rintro k tq m₂ nx h tk own2 hk hoff3 ⟨cs2, n2, a2, t2, rfl, hcl2, hcb2, ha2, hm2, hm3⟩ F' N'
        clear F3 N3 rg3
        have hoff4 : ∀ p ∈ own ++ own2, p.1 ≠ lc := fun p hp => (List.mem_append.mp hp).elim (hoff' p) (fun q => hoff3 p q lc (.tail _ (.head _)))
        have hoff5 : ∀ p ∈ own ++ own2, p.1 ≠ lsl := fun p hp => (List.mem_append.mp hp).elim (hoff2 p) (fun q => hoff3 p q lsl (.head _))
        have hz2 : cs2.length ≤ 4096 := by omega
        have hb0 := fmod_lo a2 (n := 280) (by decide)
        have hb1 := fmod_hi a2 (n := 280) (by decide)
        have hd0 : 0 ≤ Int.fdiv a2 280 := Int.fdiv_nonneg ha2 (by decide)
        rw [frame_eq2 (st := [Str.ofString "cell", Str.ofString "lap"]) hm2 hm3] at F'
        simp only [List.cons_append] at N'
        k_steps
        · (rename Fr _ _ _ _ => F4); (rename News _ _ _ _ => N4)
          refine inv_same (nx := [(lsl, _), (lc, _)]) F4 (news_sub N4 sub_in) hoff ⟨.head _, ⟨_, _, rfl, by simp; omega, hcb2.snoc hb0 hb1, fun y hy => ?_⟩⟩
          have h1 : y ≠ Str.ofString "stacked_up" := by rintro rfl; exact absurd hy (by decide)
          have h2 : y ≠ Str.ofString "cell" := by rintro rfl; exact absurd hy (by decide)
          have h3 : y ≠ Str.ofString "lap" := by rintro rfl; exact absurd hy (by decide)
          have h4 : [Str.ofString "cell", Str.ofString "lap"].contains y = false := by simp [h2, h3]
          simp only [if_neg h1, if_neg h2, if_neg h3, h4, Bool.false_eq_true, if_false]
        · (rename Fr _ _ _ _ => F4); (rename News _ _ _ _ => N4)
          refine inv_same (nx := (lsl, _) :: (lc, _) :: own) F4 N4 hoff3 (Hold.mk ⟨_, _, _, _, rfl, by simp; omega, hcb2.snoc hb0 hb1, hd0, rfl, fun y hy => ?_⟩)
          have h1 : y ≠ Str.ofString "stacked_up" := by rintro rfl; exact absurd hy (by decide)
          have h2 : y ≠ Str.ofString "cell" := by rintro rfl; exact absurd hy (by decide)
          have h3 : y ≠ Str.ofString "lap" := by rintro rfl; exact absurd hy (by decide)
          have h4 : [Str.ofString "cell", Str.ofString "lap"].contains y = false := by simp [h2, h3]
          simp only [if_neg h1, if_neg h2, if_neg h3, h4, Bool.false_eq_true, if_false]
      · rintro m₂ nx h tk ⟨cs2, n2, a2, t2, rfl, hcl2, hcb2, ha2, hm2, hm3⟩ F' N'
        rw [frame_eq2 (st := [Str.ofString "cell", Str.ofString "lap"]) hm2 hm3] at F'
        clear F3 N3 rg3
        k_steps
        (rename Fr _ _ _ _ => F4); (rename News _ _ _ _ => N4)
        refine inv_same (nx := [(lsl, _), (lc, _)]) F4 N4 hoff ⟨.head _, ⟨_, _, rfl, by omega, hcb2, fun y hy => ?_⟩⟩
        have h1 : y ≠ Str.ofString "stacked_up" := by rintro rfl; exact absurd hy (by decide)
        have h2 : y ≠ Str.ofString "cell" := by rintro rfl; exact absurd hy (by decide)
        have h3 : y ≠ Str.ofString "lap" := by rintro rfl; exact absurd hy (by decide)
        have h4 : [Str.ofString "cell", Str.ofString "lap"].contains y = false := by simp [h2, h3]
        simp only [if_neg h1, if_neg h2, if_neg h3, h4, Bool.false_eq_true, if_false])
  · rintro m₁ nx h tk ⟨cs, n, rfl, hcl, hcb, hm⟩ F' N'
    clear F1 N1
    rw [frame_eq hm] at F'
    replace hi1 := Hold.mk hi1
    obtain ⟨hcs, hci, hcr⟩ := hcb
    have hcil := hci.length
    k_steps
    (rename Fr _ _ _ _ => F4); (rename News _ _ _ _ => N4); (rename IntsAre _ (List.take 140 _) => hi4)
    have hl4 := hi4.length
    rw [List.length_take] at hl4
    exact hret _ _ _ _ _ F4 (news_sub N4 fun p hp => by rw [List.mem_singleton.mp hp]; exact .head _) ⟨_, _, _, rfl, rfl, by rw [List.length_reverse]; omega, _, hi4.reverse, fun x hx => hcr x (List.mem_of_mem_take (List.mem_reverse.mp hx))⟩
end Mine
end
section
open PySem PySem.W PySem.Calls PySem.Spec PyProof.Rows
theorem Mine.dev17a : (PySem.Challenge.rw_pq1314_01.foot = 6) → Mine.hd.heap_39 = Mine.hd.heap_39 := by
  k_fill
  intro _; rfl
namespace Mine
theorem regB17a_1 : True := by
  k_with_none
  k_with "m k_ne" => (refine neN ?_; (try dsimp only); first
    | with_reducible assumption
    | exact Ne.symm (by with_reducible assumption)
    | ((repeat (rename _ ∧ _ => q8z9; rcases q8z9 with ⟨_, _⟩)); first
      | with_reducible assumption
      | exact Ne.symm (by with_reducible assumption)
      | exact Nat.ne_of_gt (by with_reducible assumption)
      | exact Nat.ne_of_lt (by with_reducible assumption)))
  k_with "m k_all" => assumption
  k_with "m k_handed" => assumption
  trivial
section
variable {prog : Program} {w : World} {A : Around} {E : Value → Shared → Prop} {s : Shared} {env : Env} {h₀ : Heap} {x : Str} {px : Pos} {body : List Stmt} {Q : Flow → Shared → Prop}
theorem For_cell {iter : PySem.Expr} {pos : Pos} {m : Str → Option Value} (F : Fr h₀ env.locals s.heap m) (_hk : env.kindOf x = some .cell)
    (h : wpAny (model prog w) A (eval iter env) (fun xv s₁ => wpAny (model prog w) A (pyIter xv) (fun it s₂ => LoopAtT prog w A h₀ env (.Name x px) body Q E it s₂) E s₁) E s)
    (hs : ∀ x, foldedSetIterable iter env x = pure x := by intro _; rfl)
    (hE : PassesOwn (model prog w) A env E := by passes_own) :
    wpAny (model prog w) A (exec (.For (.Name x px) iter body [] pos) env) Q E s := For_invTF F h hs hE
noncomputable def EndT (h₀ : Heap) (L : Addr) (J : (Str → Option Value) → List (Addr × Obj) → Prop) (own : List (Addr × Obj)) (s₁ : Shared) (f : Flow) (s₂ : Shared) : Prop :=
  match f with
  | .next => InvEndG h₀ L J own s₁ s₂
  | _ => False
set_option maxHeartbeats 1000000 in
theorem loop_rangeT {r : Addr} {b₀ : Int} {t₀ u₀ v₀ : Tok} {n : Nat} {m₀ : Str → Option Value} {news : List (Addr × Obj)} (J : Nat → (Str → Option Value) → List (Addr × Obj) → Prop)
    (hh : A.handled = none) (hr : IsRange s.heap r 0 b₀ 1 t₀ u₀ v₀) (hb : b₀ = (n : Int)) (hsm : Builtin.Range.small 0 b₀ 1 = true) (F : Fr h₀ env.locals s.heap m₀) (N : News h₀ env.locals s.heap news) (hj : J 0 m₀ news)
    (turn : ∀ i (t : Tok) m₁ news₁ (s₁ : Shared) own, i < n → OwnOff own (news₁.map (·.1)) → J i m₁ news₁ → Fr h₀ env.locals s₁.heap m₁ → News h₀ env.locals s₁.heap (news₁ ++ own) →
      wpAny (model prog w) A (assign (.Name x px) env (.int (i : Int) t)) (fun _ s₃ => wpAny (model prog w) A (execs body env) (EndT h₀ env.locals (J (i + 1)) own s₁) E s₃) E s₁)
    (done : ∀ m₁ news₁ h tk, J n m₁ news₁ → Fr h₀ env.locals h m₁ → News h₀ env.locals h news₁ → Q .next { s with heap := h, toks := tk }) :
    wpAny (model prog w) A (pyIter (.ref r)) (fun it s₂ => LoopAtT prog w A h₀ env (.Name x px) body Q E it s₂) E s := by
  subst hb
  have hsz : Builtin.Range.rangeSize 0 (n : Int) 1 = (n : Int) := by
    unfold Builtin.Range.rangeSize
    by_cases h : (0 : Int) < n
    · rw [if_pos (by decide), if_pos h]; omega
    · rw [if_pos (by decide), if_neg h]; omega
  refine wpAny_pyIter_range hr hsm ?_
  have W : Walks prog w A s.heap.objs.size [s.heap.objs.size] [s.heap.objs.size] n (fun i v => i < n ∧ ∃ t, v = .int (0 + i * 1) t)
      (fun i h => IsRangeIter h s.heap.objs.size (0 + (i : Nat) * 1) ((n : Int) - (i : Nat)) 1) := (Walks.range hh _ 0 1 n).bound
  refine ⟨_, _, _, n, _, _, m₀, news, J, rfl, W, ?_, ?_, ?_, (by show IsRangeIter _ _ _ _ _; rw [hsz]; simpa using Heap.get?_push_size _ rfl), F.push _, (fun p hp => ⟨Heap.get?_push_of_some _ (N p hp).1, (N p hp).2⟩), ?_, hj, ?_, ?_⟩
  · intro hm
    exact absurd F.ns.lt ((List.mem_singleton.mp hm) ▸ Nat.lt_irrefl _)
  · intro b hb
    rw [List.mem_singleton.mp hb]
    exact next_is_new F
  · intro p hp hI
    exact absurd (Heap.lt_size (N p hp).1) ((List.mem_singleton.mp hI) ▸ Nat.lt_irrefl _)
  · intro i s' v Q' _ hQ
    exact wpAny_pure hQ
  · rintro i v m₁ news₁ s₁ own hi ⟨_, t, rfl⟩ hJ hoff hown _ hmem hst F₁ N₁
    have e1 : (0 : Int) + (i : Int) * 1 = (i : Int) := by omega
    rw [e1]
    have hsep : OwnOff own (news₁.map (·.1)) := by
      intro p hp b hb e
      obtain ⟨q, hq, rfl⟩ := List.mem_map.mp hb
      exact hoff q hq (e ▸ hown p hp)
    have N₂ : News h₀ env.locals s₁.heap (news₁ ++ own) := fun p hp => N₁ p ((List.mem_append.mp hp).elim (fun h => List.mem_append.mpr (.inr h)) fun h => List.mem_append.mpr (.inl h))
    refine wpAny_mono (turn i t m₁ news₁ s₁ own hi hsep hJ F₁ N₂) (fun _ s₃ p => wpAny_mono p (fun f s₂ q => ?_) fun _ _ e => e) fun _ _ e => e
    cases f with
    | next =>
      obtain ⟨h', tk, m', news', nx, e, F', N', hn, ho, ha, hm⟩ := q
      refine ⟨rfl, h', tk, m', nx, e, F', fun p hp => N' p ((List.mem_append.mp hp).elim (ho p) (hn p)), fun p hp hq => ?_, hm⟩
      obtain ⟨o, hbo⟩ : ∃ o, s₁.heap.get? s.heap.objs.size = some o := ⟨_, hst⟩
      have hI : (s.heap.objs.size, o) ∈ own := hmem _ (List.mem_singleton.mpr rfl) (next_is_new F) o hbo
      exact ha _ hI p.1 (List.mem_map.mpr ⟨p, hp, rfl⟩) (List.mem_singleton.mp hq).symm
    | _ => exact q.elim
  · rintro h' tk m' news' F' N' _ hJ
    exact done m' news' h' tk hJ F' N'
end
section
variable {prog : Program} {w : World} {A : Around} {E : Value → Shared → Prop} {s : Shared}
theorem kb_abc {value slice : PySem.Expr} {x : Str} {t : Tok} {i : Int} {u : Tok} {Q : Value → Shared → Prop} (h0 : 0 ≤ i) (h1 : i < 3) (hx : x.length = 3) (h : ∀ y t', y.length ≤ 1 → Q (.str y t') { s with toks := s.toks + 1 })
    (hs : subscripted slice false (.str x t) (.int i u) = operate [.str x t, .int i u] (getItem (.str x t) (.int i u)) := by with_unfolding_all rfl)
    (ht : ∀ r, letTemporaryGo value (.str x t) r = pure () := by intro _; with_unfolding_all rfl) :
    wpAny (model prog w) A (subscriptTail value slice (.str x t) (.int i u)) Q E s :=
  item_str (by have : i = 0 ∨ i = 1 ∨ i = 2 := by omega
               rcases this with rfl | rfl | rfl <;> decide) (by omega) (by omega) (fun q => h _ _ q.2) hs ht
theorem ofString_ok' (x : String) : PySem.PyData.strOk (Str.ofString x) = true := by
  rw [Str.ofString_eq_toList]
  unfold PySem.PyData.strOk
  rw [Array.all_eq_true_iff_forall_mem]
  intro c hc
  simp only [List.mem_toArray, List.mem_map] at hc
  obtain ⟨ch, _, rfl⟩ := hc
  simp only [decide_eq_true_eq]
  have := ch.valid
  have h2 : ch.toNat = ch.val.toNat := rfl
  rcases this with h | ⟨_, h⟩ <;> omega
theorem kb_stri {a : Int} {t : Tok} {Q : Value → Shared → Prop} (h0 : 0 ≤ a) (h1 : a < 4) (h : ∀ y t', y.length ≤ 6 → PySem.PyData.strOk y = true → Q (.str y t') { s with toks := s.toks + 1 }) : wpAny (model prog w) A (call (.type "str") [.int a t]) Q E s := by
  refine PySem.P.str_of_int ?_ (h _ _ ?_ (ofString_ok' _))
  · have : a = 0 ∨ a = 1 ∨ a = 2 ∨ a = 3 := by omega
    rcases this with rfl | rfl | rfl | rfl <;> decide
  · have := len_str_of_int a
    omega
theorem kb_addstr {x y : Str} {t u : Tok} {Q : Value → Shared → Prop} (hx : x.length ≤ 6) (hy : y.length ≤ 6) (ox : PySem.PyData.strOk x = true) (oy : PySem.PyData.strOk y = true) (h : ∀ z t' tk, PySem.PyData.strOk z = true → Q (.str z t') { s with toks := tk }) : wpAny (model prog w) A (binaryOp .Add (.str x t) (.str y u)) Q E s :=
  PyProof.Rows.add_str (fun t' tk => h _ t' tk (by
    unfold PySem.PyData.strOk at *
    rw [show (x ++ y).cps = x.cps ++ y.cps from rfl, Array.all_append, ox, oy]; rfl)) (by rw [sizeLine_eq]; omega)
theorem item_ok {i : Int} (h0 : 0 ≤ i) (h1 : i < 3) : PySem.PyData.strOk (Txt.item (Str.ofString "abc") i) = true := by
  have : i = 0 ∨ i = 1 ∨ i = 2 := by omega
  rcases this with rfl | rfl | rfl <;> decide +kernel
end
theorem end_new {h₀ h' : Heap} {L lL a c : Addr} {m' : Str → Option Value} {J : (Str → Option Value) → List (Addr × Obj) → Prop} {p1 p2 p3 q1 q2 q3 : Obj} {fx tl own nw all : List (Addr × Obj)} {s₁ : Shared} {tk : Nat} (F : Fr h₀ L h' m') (N : News h₀ L h' all)
    (hoff : OwnOff own (((lL, p1) :: (a, p2) :: (c, p3) :: (fx ++ tl)).map (·.1))) (hnw : ∀ q ∈ fx ++ tl ++ own, ∀ p ∈ nw, @Ne Nat q.1 p.1) (hsub : ∀ p ∈ nw ++ (lL, q1) :: (a, q2) :: (c, q3) :: (fx ++ tl ++ own), p ∈ all)
    (hj : J m' ((lL, q1) :: (a, q2) :: (c, q3) :: (fx ++ (tl ++ nw)))) : EndT h₀ L J own s₁ .next { s₁ with heap := h', toks := tk } := by
  refine InvEndG.intro F N hj ?_ (fun p hp => hsub p ?_) (fun p hp => hsub p (List.mem_append.mpr (.inr (.tail _ (.tail _ (.tail _ (List.mem_append.mpr (.inr hp))))))))
  · intro p hp b hb
    simp only [List.map_cons, List.map_append, List.mem_cons, List.mem_append] at hb
    rcases hb with rfl | rfl | rfl | hb | hb | hb
    · exact hoff p hp _ (.head _)
    · exact hoff p hp _ (.tail _ (.head _))
    · exact hoff p hp _ (.tail _ (.tail _ (.head _)))
    · exact hoff p hp _ (.tail _ (.tail _ (.tail _ (by rw [List.map_append]; exact List.mem_append.mpr (.inl hb)))))
    · exact hoff p hp _ (.tail _ (.tail _ (.tail _ (by rw [List.map_append]; exact List.mem_append.mpr (.inr hb)))))
    · obtain ⟨q, hq, rfl⟩ := List.mem_map.mp hb
      exact hnw p (List.mem_append.mpr (.inr hp)) q hq
  · simp only [List.mem_cons, List.mem_append] at hp ⊢
    rcases hp with rfl | rfl | rfl | h | h | h <;> simp [*]
theorem off1_mem {D : Addr} : ∀ {l : List (Addr × Obj)}, LCg.Off1 D l → ∀ p ∈ l, @Ne Nat p.1 D
  | [], _, _, h => nomatch h
  | _ :: _, x, p, h => by
    rcases List.mem_cons.mp h with rfl | h
    · exact x.1
    · exact off1_mem x.2 p h
theorem strs_snoc {nms : List (Option (List Value))} {n : Option (List Value)} (h : ∀ l, some l ∈ nms → l.length ≤ 3 ∧ ∀ v ∈ l, ∃ x t, v = .str x t ∧ PySem.PyData.strOk x = true) (h1 : ∀ l, n = some l → l.length ≤ 3 ∧ ∀ v ∈ l, ∃ x t, v = .str x t ∧ PySem.PyData.strOk x = true) : ∀ l, some l ∈ nms ++ [n] → l.length ≤ 3 ∧ ∀ v ∈ l, ∃ x t, v = .str x t ∧ PySem.PyData.strOk x = true := fun l hl => by
  rcases List.mem_append.mp hl with hl | hl
  · exact h l hl
  · exact h1 l (List.mem_singleton.mp hl).symm
theorem kb_neNil {prog : Program} {w : World} {A : Around} {E : Value → Shared → Prop} {s : Shared} {l l2 : Addr} {vs : List Value} {Q : Value → Shared → Prop} (hl : s.heap.IsList l vs.toArray) (h2 : s.heap.IsList l2 (List.toArray [])) (hu : A.units + 64 < cLine) (h : Q (.bool (!vs.isEmpty)) s) :
    wpAny (model prog w) A (compareOp .NotEq (.ref l) (.ref l2)) Q E s := by
  cases vs with
  | nil =>
    obtain ⟨o, e1, e2, n, e3⟩ := hl
    obtain ⟨o', f1, f2, n', f3⟩ := h2
    exact ne_dataH (.list (xs := []) e1 e2 e3 .nil) (.list (xs := []) f1 f2 f3 .nil) rfl rfl hu h
  | cons v vs => exact PySem.SeqAt.RcNeAt.lists_lengths hl h2 (by simp) (by omega) prog w E Q h
theorem nw_join {W : List (Addr × Obj)} {x1 x2 a b c a' b' c' : Addr × Obj} {D : Addr} {o : Obj} (q : Apart ((D, o) :: a :: b :: c :: W) [x1, x2]) (o0 : ∀ p ∈ a' :: b' :: c' :: W, @Ne Nat p.1 D) : ∀ q ∈ W, ∀ p ∈ [x1, x2, (D, o)], @Ne Nat q.1 p.1 := by
  intro r hr p hp
  rcases List.mem_cons.mp hp with rfl | hp
  · exact q.out r (.tail _ (.tail _ (.tail _ (.tail _ hr)))) _ (.head _)
  rcases List.mem_cons.mp hp with rfl | hp
  · exact q.out r (.tail _ (.tail _ (.tail _ (.tail _ hr)))) _ (.tail _ (.head _))
  rw [List.mem_singleton.mp hp]
  exact o0 r (.tail _ (.tail _ (.tail _ hr)))
theorem apart_l {news nx : List (Addr × Obj)} {a b : Addr} {oa ob : Obj} (h : Apart news nx) (ha : (a, oa) ∈ news) (hb : (b, ob) ∈ nx) : @Ne Nat a b := h.out _ ha _ hb
theorem apart_r {news nx : List (Addr × Obj)} {a b : Addr} {oa ob : Obj} (h : Apart news nx) (ha : (a, oa) ∈ nx) (hb : (b, ob) ∈ news) : @Ne Nat a b := Ne.symm (h.out _ hb _ ha)
end Mine
end
section
open PySem PySem.W PySem.Calls PySem.Spec PyProof.Rows
theorem Mine.dev17 : (PySem.Challenge.rw_pq1314_01.foot = 6) → Mine.hd.heap_39 = Mine.hd.heap_39 := by
  k_fill
  intro _; rfl
namespace Mine
theorem regB17_1 : True := by
  k_with_none
  k_with "m k_ne" => (refine neN ?_; (try dsimp only); first
    | with_reducible assumption
    | exact Ne.symm (by with_reducible assumption)
    | ((repeat (rename _ ∧ _ => q8z9; rcases q8z9 with ⟨_, _⟩)); first
      | with_reducible assumption
      | exact Ne.symm (by with_reducible assumption)
      | exact Nat.ne_of_gt (by with_reducible assumption)
      | exact Nat.ne_of_lt (by with_reducible assumption)))
  k_with "m k_all" => assumption
  k_with "m k_handed" => assumption
  k_with "m call ref" => (k_here; (with_reducible show wpAny _ _ (call (Value.ref 99) [_, _]) _ _ _); k_dflt (refine' vec_con _ _ _ ?hkz9 ?hiz9 _ _ _ _ _ _ _ _ _ _ _ _ _ _ _ _ _ _ _ _ _ _ ?Bz9 ?Fz9 ?Xz9 ?Nz9 ?Tz9 ?ckz9 ?hdz9 ?huz9 ?hpz9 ?_; (case Bz9 => k_asm); (case Fz9 => k_asm); (case Xz9 => k_asm); (case Nz9 => k_asm); (case Tz9 => k_asm); (case hpz9 => exact True.intro); (case hkz9 => k_handed); (case hiz9 => k_handed); (case ckz9 => first | rfl | assumption); (case hdz9 => omega); (case huz9 => omega); k_whole); intro r'9 nx'9 h'9 tk'9 F'9 N'9 ne'9 P'9; obtain ⟨x'9, d'9, t1'9, t2'9, t3'9, t4'9, t5'9, hr'9, hx'9, hn'9⟩ := P'9; subst hr'9; subst hn'9; replace hx'9 := neN hx'9; (have nr'9 := Apart.mk ne'9); (try simp only [List.cons_append, List.nil_append] at N'9); clear ne'9; (try k_sweep))
  k_with "m call ref" => (k_here; (with_reducible show wpAny _ _ (call (Value.ref 70) _) _ _ _); k_dflt (refine' null_con _ _ _ _ _ _ _ _ _ _ _ _ _ _ _ _ _ _ _ _ _ _ _ ?Bz9 ?Fz9 ?Xz9 ?Nz9 ?Tz9 ?ckz9 ?hdz9 ?huz9 ?hpz9 ?_; (case Bz9 => k_asm); (case Fz9 => k_asm); (case Xz9 => k_asm); (case Nz9 => k_asm); (case Tz9 => k_asm); (case hpz9 => exact True.intro); (case ckz9 => first | rfl | assumption); (case hdz9 => omega); (case huz9 => omega); k_whole); intro r'9 nx'9 h'9 tk'9 F'9 N'9 ne'9 P'9; obtain ⟨x'9, d'9, t1'9, t2'9, t3'9, hr'9, hx'9, hn'9⟩ := P'9; subst hr'9; subst hn'9; replace hx'9 := neN hx'9; (have nr'9 := Apart.mk ne'9); (try simp only [List.cons_append, List.nil_append] at N'9); clear ne'9; (try k_sweep))
  k_with "m k_ne" => (refine neN ?_; (try dsimp only); first | with_reducible assumption | exact Ne.symm (by with_reducible assumption) | ((rename Apart _ _ => q9); first
  | (refine' apart_l q9 ?kaz9 ?kbz9; (case kaz9 => ((repeat (first | with_reducible exact List.mem_cons_self | with_reducible refine List.mem_cons_of_mem _ ?_)); done)); (case kbz9 => ((repeat (first | with_reducible exact List.mem_cons_self | with_reducible refine List.mem_cons_of_mem _ ?_)); done)))
  | (refine' apart_r q9 ?kaz9 ?kbz9; (case kaz9 => ((repeat (first | with_reducible exact List.mem_cons_self | with_reducible refine List.mem_cons_of_mem _ ?_)); done)); (case kbz9 => ((repeat (first | with_reducible exact List.mem_cons_self | with_reducible refine List.mem_cons_of_mem _ ?_)); done)))
  | (clear q9; k_ne)))
  k_with "m k_inst" => (refine' kb_inst ?Fz9 ?h1z9 ?h2z9; (case Fz9 => k_asm); (case h1z9 => assumption); (case h2z9 => assumption))
  k_with "m subscriptTail" => (k_here; (with_reducible show wpAny _ _ (subscriptTail _ _ (Value.ref _) (Value.str _ _)) _ _ _); k_dflt (refine' kb_item ?Fz9 ?oz9 ?dz9 ?lz9 ?_; (case Fz9 => k_asm); (case oz9 => assumption); (case dz9 => assumption); (case lz9 => first | assumption | rfl); k_whole))
  k_with "m compareOp In str ref" => (k_here; k_dflt (refine' kb_in ?Fz9 ?oz9 ?dz9 ?sz9 ?lz9 ?_; (case Fz9 => k_asm); (case oz9 => assumption); (case dz9 => assumption); (case sz9 => assumption); (case lz9 => first | assumption | rfl); k_whole))
  k_with "m compareOp NotIn str ref" => (k_here; k_dflt (refine' kb_notIn ?Fz9 ?oz9 ?dz9 ?sz9 ?lz9 ?_; (case Fz9 => k_asm); (case oz9 => assumption); (case dz9 => assumption); (case sz9 => assumption); (case lz9 => first | assumption | rfl); k_whole))
  k_with "m subscriptTail" => (k_here; (with_reducible show wpAny _ _ (subscriptTail _ _ (Value.ref _) (Value.int _ _)) _ _ _); k_dflt (refine' kb_lst ?lz9 ?az9 ?bz9 ?xz9 ?_; (case lz9 => is_list); (case xz9 => first | with_reducible assumption | assumption); (case az9 => omega); (case bz9 => omega); k_whole))
  k_with "m eval ListComp" => (k_here; first
  | (lct_look; k_dflt (refine LCt.ListComp_T (F₀ := by k_asm) (by with_unfolding_all rfl) (by decide) (by rfl) (by decide) (by rfl) ?_))
  | ((first | lcg_look | lcf_look); k_dflt (refine LCg.ListComp_U (F₀ := by k_asm) (by with_unfolding_all rfl) (by decide) (by rfl) (by decide) (by rfl) ?_)))
  k_with "m exec Assign cons ListComp" => (k_here; first
  | (lct_look; k_dflt (refine LCt.Assign_ListComp_T (F₀ := by k_asm) (by rfl) (by with_unfolding_all rfl) (by with_unfolding_all rfl) (by decide) (by rfl) (by decide) (by rfl) (by rfl) (by rfl) ?_))
  | ((first | lcg_look | lcf_look); k_dflt (refine LCg.Assign_ListComp_U (F₀ := by k_asm) (by rfl) (by with_unfolding_all rfl) (by with_unfolding_all rfl) (by decide) (by rfl) (by decide) (by rfl) (by rfl) (by rfl) ?_)))
  k_with "m call builtin:len" => (k_here; (with_reducible show wpAny _ _ (call (Value.builtin "len") [Value.ref _]) _ _ _); k_dflt (refine' kb_len ?lz9 ?zz9 ?_; (case lz9 => is_list); (case zz9 => first | assumption | omega); k_whole))
  k_with "m exec For Name Name cons nil" => (k_here; k_dflt (refine' For_invVF ?Fz9 ?k1z9 ?k2z9 ?_; (case Fz9 => k_asm); (case k1z9 => exact rfl); (case k2z9 => exact rfl); k_whole))
  k_with "m exec For Name Call cons nil" => (k_here; k_dflt (refine' For_invVF ?Fz9 ?k1z9 ?k2z9 ?_; (case Fz9 => k_asm); (case k1z9 => exact rfl); (case k2z9 => exact rfl); k_whole))
  k_with "m call builtin:list.append" => (k_here; (with_reducible show wpAny _ _ (call (Value.builtin _) [Value.ref _, _]) _ _ _); k_dflt (refine' kb_append ?k1z9 ?k2z9 ?k3z9 ?zz9 ?_; (case k1z9 => k_asm); (case k2z9 => k_asm); (case k3z9 => k_upd); (case zz9 => first | assumption | omega); k_whole); intro h'9 F'9 N'9; (try k_sweep))
  k_with "m k_all" => exact apart_all (by assumption) (by k_mem)
  k_with "m mul_fits" => first | exact PySem.IntMulOk.of_right (PySem.intBits_le_64 (by omega) (by omega)) | exact PySem.IntMulOk.of_left (PySem.intBits_le_64 (by omega) (by omega))
  k_with "m call type:range" => (k_here; (with_reducible show wpAny _ _ (call (Value.type _) [Value.int _ _]) _ _ _); k_dflt (refine' range1_rows ?Fz9 ?Nz9 ?_; (case Fz9 => k_asm); (case Nz9 => k_asm)); intro h'9 tk'9 t1'9 t2'9 t3'9 rg'9 F'9 N'9 rk'9; clear rk'9; (try k_sweep))
  k_with "m compareOp NotIn int ref" => (k_here; k_dflt (refine' ints_in ?lz9 ?iz9 ?mz9 ?_; (case lz9 => is_list); (case iz9 => exact Hold.out (by assumption)); (case mz9 => exact AllIn.out (by assumption) _ (by omega) (by omega)); k_whole))
  k_with "m is_list" => first | with_reducible assumption | exact News.isList (by k_asm) (by k_mem) | exact Fr.lst (by assumption) (by assumption)
  k_with "m loadName" => (k_here; k_dflt (refine' kb_ldn ?Fz9 ?vz9 ?_ ?az9 ?bz9; (case Fz9 => k_asm); (case az9 => rfl); (case bz9 => rfl); (case vz9 => rfl); k_whole))
  k_with "m pyIter ref" => (k_here; (with_reducible show wpAny _ _ (pyIter (Value.ref _)) (fun it s₂ => LoopAtV _ _ _ _ _ _ _ _ _ it s₂) _ _); refine Halt.out ?_)
  k_with "m CompSrc" => (refine Halt.out ?_)
  k_with "m CompSrcT" => (refine Halt.out ?_)
  k_with "m binaryOp Mod int int" => (k_here; refine mod_int' (by omega) ?_)
  k_with "m binaryOp FloorDiv int int" => (k_here; refine floordiv_int (by omega) ?_ (Or.inl (PyProof.noPylong_small (by omega))))
  k_with "m k_upd" => first | (refine' Spl.head ?az9; (case az9 => k_all)) | (refine' Spl.tail ?az9 ?bz9; (case az9 => k_ne); (case bz9 => k_upd))
  k_with "m call ref" => (k_here; (with_reducible show wpAny _ _ (call (Value.ref 197) [_, _]) _ _ _); k_dflt (refine' ConM.use (card_con _ _ _ _ ?h1z9 ?h2z9) _ _ _ _ _ _ _ _ _ _ _ _ _ _ _ _ _ _ _ _ _ _ _ _ ?Bz9 ?Fz9 ?Xz9 ?Nz9 ?Uz9 ?Cz9 ?Tz9 ?ckz9 ?hdz9 ?huz9 ?_; (case Bz9 => k_asm); (case Fz9 => k_asm); (case Xz9 => k_asm); (case Nz9 => k_asm); (case Uz9 => k_upd); (case Cz9 => assumption); (case Tz9 => k_asm); (case h1z9 => omega); (case h2z9 => omega); (case ckz9 => first | rfl | assumption); (case hdz9 => omega); (case huz9 => omega); k_whole); intro r'9 nx'9 h'9 tk'9 cs'9 n'9 F'9 N'9 C'9 ne'9 P'9; obtain ⟨hn'9, j'9, u'9, hr'9, hj1'9, hj2'9⟩ := P'9; subst hr'9; subst hn'9; (have nr'9 := Apart.mk ne'9); (try simp only [List.cons_append, List.nil_append] at N'9); clear ne'9; (try k_sweep))
  k_with "m subscriptTail Name Name ref int" => (k_here; (with_reducible show wpAny _ _ (subscriptTail _ _ (Value.ref _) (Value.int _ _)) _ _ _); k_dflt (refine' kb_lst ?lz9 ?az9 ?bz9 ?xz9 ?_; (case lz9 => is_list); (case xz9 => first | with_reducible assumption | assumption); (case az9 => omega); (case bz9 => omega); k_whole))
  k_with "m subscriptTail Name Subscript ref int" => (k_here; (with_reducible show wpAny _ _ (subscriptTail _ _ (Value.ref _) (Value.int _ _)) _ _ _); k_dflt (refine' kb_lst ?lz9 ?az9 ?bz9 ?xz9 ?_; (case lz9 => is_list); (case xz9 => first | with_reducible assumption | assumption); (case az9 => omega); (case bz9 => omega); k_whole))
  k_with "m subscriptTail Attribute Name Name ref int" => (k_here; (with_reducible show wpAny _ _ (subscriptTail _ _ (Value.ref _) (Value.int _ _)) _ _ _); k_dflt (refine' kb_lst ?lz9 ?az9 ?bz9 ?xz9 ?_; (case lz9 => is_list); (case xz9 => first | with_reducible assumption | assumption); (case az9 => omega); (case bz9 => omega); k_whole))
  k_with "m subscriptTail Name Constant ref int" => (k_here; (with_reducible show wpAny _ _ (subscriptTail _ _ (Value.ref _) (Value.int _ _)) _ _ _); k_dflt (refine' kb_lst ?lz9 ?az9 ?bz9 ?xz9 ?_; (case lz9 => is_list); (case xz9 => first | with_reducible assumption | assumption); (case az9 => omega); (case bz9 => omega); k_whole))
  k_with "m subscriptTail Attribute Name BinOp ref int" => (k_here; (with_reducible show wpAny _ _ (subscriptTail _ _ (Value.ref _) (Value.int _ _)) _ _ _); k_dflt (refine' kb_lst ?lz9 ?az9 ?bz9 ?xz9 ?_; (case lz9 => is_list); (case xz9 => first | with_reducible assumption | assumption); (case az9 => omega); (case bz9 => omega); k_whole))
  k_with "m subscriptTail Attribute Subscript Name ref int" => (k_here; (with_reducible show wpAny _ _ (subscriptTail _ _ (Value.ref _) (Value.int _ _)) _ _ _); k_dflt (refine' kb_lst ?lz9 ?az9 ?bz9 ?xz9 ?_; (case lz9 => is_list); (case xz9 => first | with_reducible assumption | assumption); (case az9 => omega); (case bz9 => omega); k_whole))
  k_with "m k_mem" => first | with_reducible assumption | with_reducible exact List.mem_cons_self | (with_reducible refine List.mem_cons_of_mem _ ?_; k_mem)
  k_with "m eval Name" => (k_here; (with_reducible show wpAny _ _ (eval (Expr.Name _ _) (envX _ _ _ _ _ _)) _ _ _); k_dflt (refine' nameX_C ?Nz9 ?cz9 ?mz9 ?dz9 ?_ ?az9 ?bz9; (case az9 => rfl); (case bz9 => rfl); (case Nz9 => k_asm); (case cz9 => rfl); (case mz9 => ((repeat (first | with_reducible assumption | with_reducible exact List.mem_cons_self | with_reducible refine List.mem_cons_of_mem _ ?_)); done)); (case dz9 => k_asm); k_whole))
  k_with "m compareOp NotEq ref ref" => (k_here; (with_reducible show wpAny _ _ (compareOp CmpOp.NotEq (Value.ref _) (Value.ref _)) _ _ _); k_dflt (refine' kb_neNil ?az9 ?bz9 ?uz9 ?_; (case bz9 => is_list); (case az9 => is_list); (case uz9 => ke_room); k_whole))
  k_with "m exec For Name Call cons nil" => (k_here; k_dflt (refine' For_cell ?Fz9 ?k1z9 ?_; (case Fz9 => k_asm); (case k1z9 => exact rfl); k_whole))
  k_with "m pyIter ref" => (k_here; (with_reducible show wpAny _ _ (pyIter (Value.ref _)) (fun it s₂ => LoopAtT _ _ _ _ _ _ _ _ _ it s₂) _ _); refine Halt.out ?_)
  k_with "m subscriptTail Constant Name str int" => (k_here; (with_reducible show wpAny _ _ (subscriptTail _ _ (Value.str _ _) (Value.int _ _)) _ _ _); k_dflt (refine' kb_abc ?az9 ?bz9 ?xz9 ?_; (case az9 => omega); (case bz9 => omega); (case xz9 => decide +kernel); k_whole); intro y'9 t'9 hl'9; (try dsimp only))
  k_with "m call type:str" => (k_here; (with_reducible show wpAny _ _ (call (Value.type "str") [Value.int _ _]) _ _ _); k_dflt (refine' kb_stri ?az9 ?bz9 ?_; (case az9 => omega); (case bz9 => omega); k_whole); intro y'9 t'9 hl'9 ho'9; (try dsimp only))
  k_with "m binaryOp Add str str" => (k_here; (with_reducible show wpAny _ _ (binaryOp _ (Value.str _ _) (Value.str _ _)) _ _ _); k_dflt (refine' kb_addstr ?az9 ?bz9 ?cz9 ?dz9 ?_; (case az9 => first | omega | exact Nat.le_of_ble_eq_true rfl | decide +kernel); (case bz9 => first | omega | exact Nat.le_of_ble_eq_true rfl | decide +kernel); (case cz9 => first | with_reducible assumption | exact ofString_ok' _ | exact item_ok (by omega) (by omega)); (case dz9 => first | with_reducible assumption | exact ofString_ok' _); k_whole); intro y'9 t'9 tk'9 ok'9; (try dsimp only))
  trivial
theorem few_snoc {es : List Int} (h : ∀ e ∈ es, 1 ≤ e ∧ e ≤ 3) {a : Int} (h0 : 1 ≤ a) (h1 : a ≤ 3) : ∀ e ∈ es ++ [a], 1 ≤ e ∧ e ≤ 3 := fun e he => by
  rcases List.mem_append.mp he with he | he
  · exact h e he
  · rw [List.mem_singleton.mp he]; exact ⟨h0, h1⟩
theorem perm11 {α : Type} {l a b c d e f g h i j : α} : ∀ p ∈ l :: i :: j :: [a, b, c, d, e, f, g, h], p ∈ [l, a, b, c, d, e, f, g, i, h, j] := by
  intro p hp
  simp only [List.mem_cons, List.not_mem_nil, or_false] at hp ⊢
  rcases hp with h | h | h | h | h | h | h | h | h | h | h <;> simp [h]
theorem str_snoc {zs : List Value} (h : ∀ v ∈ zs, ∃ x t, v = .str x t ∧ PySem.PyData.strOk x = true) {x : Str} {t : Tok} (ho : PySem.PyData.strOk x = true) : ∀ v ∈ zs ++ [.str x t], ∃ x t, v = .str x t ∧ PySem.PyData.strOk x = true := fun v hv => by
  rcases List.mem_append.mp hv with hv | hv
  · exact h v hv
  · exact ⟨x, t, List.mem_singleton.mp hv, ho⟩
theorem apart_snoc {fx tl own nw : List (Addr × Obj)} (h : Apart fx tl) (h1 : ∀ q ∈ fx ++ tl ++ own, ∀ p ∈ nw, @Ne Nat q.1 p.1) : Apart fx (tl ++ nw) := ⟨fun q hq p hp => (List.mem_append.mp hp).elim (h.out q hq p) (h1 q (List.mem_append.mpr (.inl (List.mem_append.mpr (.inl hq)))) p)⟩
theorem sub9 {α : Type} {a b c d e f g h cc l0 l1 l2 l3 : α} {tl : List α} : ∀ p ∈ [a, b, c, d, e, f, g, h] ++ [cc], p ∈ l0 :: l1 :: l2 :: l3 :: cc :: a :: b :: c :: d :: e :: f :: g :: h :: tl := by
  intro p hp
  simp only [List.cons_append, List.nil_append, List.mem_cons, List.not_mem_nil, or_false] at hp ⊢
  rcases hp with h | h | h | h | h | h | h | h | h <;> simp [h]
theorem sub12 {α : Type} {a b c d e f g h x1 x2 y cc l0 l1 l3 : α} {tl : List α} : ∀ p ∈ (x1 :: x2 :: y :: a :: b :: c :: d :: e :: f :: g :: h :: tl) ++ [cc], p ∈ x1 :: x2 :: l0 :: l1 :: y :: l3 :: cc :: a :: b :: c :: d :: e :: f :: g :: h :: tl := by
  intro p hp
  simp only [List.cons_append, List.mem_append, List.mem_cons, List.not_mem_nil, or_false] at hp ⊢
  rcases hp with h | h | h | h | h | h | h | h | h | h | h | h | h <;> simp [h]
theorem off_snoc {tl nw : List (Addr × Obj)} {d : Addr} (h : ∀ p ∈ tl, p.1 ≠ d) (h1 : ∀ p ∈ nw, p.1 ≠ d) : ∀ p ∈ tl ++ nw, p.1 ≠ d := fun p hp => (List.mem_append.mp hp).elim (h p) (h1 p)
theorem range_size (n : Nat) : Builtin.Range.rangeSize 0 (n : Int) 1 = ((n : Nat) : Int) := by
  unfold Builtin.Range.rangeSize
  by_cases h : (0 : Int) < n
  · rw [if_pos (by decide), if_pos h]; omega
  · rw [if_pos (by decide), if_neg h]; omega
noncomputable def NmOk (k : Nat) : Option (List (Option (List Value))) → Prop
  | none => True
  | some ns => ns.length = k ∧ ns.all (·.isNone) = false ∧ ∀ l, some l ∈ ns → l.length ≤ 3 ∧ ∀ v ∈ l, ∃ x t, v = .str x t ∧ PySem.PyData.strOk x = true
/-- what _law_array gives -/
noncomputable def ArrOut (w : World) (At : Addr → Obj → Prop) (r : Value) (k : Nat) : Prop :=
  ∃ iv dl is ds nm es, ArrIs w At r iv dl is ds nm ∧ Hold (IntsAre ds es) ∧ Few es ∧ es.length = k ∧ prodFrom 1 es = (is.length : Int) ∧ (∃ ns, Hold (IntsAre is ns)) ∧ NmOk k nm
set_option maxHeartbeats 2000000 in
theorem array_con (w : World) (c : Addr) (k : Nat) (t : Tok) (h1 : 1 ≤ k) (h2 : k ≤ 3) : ConM w 24 209 [.ref c, .int (k : Int) t] c (fun r nx => ArrOut w (lAt nx) r k) := by
  refine ConM.ofC (binds := [(Str.ofString "cards", .ref c), (Str.ofString "wide", .int (k : Int) t)]) (by k_is) (by k_is) (fun s => BindsTo.of_eq rfl) rfl (by decide +kernel) rfl rfl rfl ?_
  intro loose mean mg mb dp un gd outer A₀ base H h₁ L' s cells Q cs n B F X N Y hlt hcs T hd' hu hs hret
  subst hs
  obtain ⟨o1, o2, hE, d1, d2⟩ := CellsAre.two Y
  subst hE; clear Y
  replace d1 : o1.data = .cell none := d1
  replace d2 : o2.data = .cell (some (.ref c)) := d2
  replace F : Fr H L' s.heap (fun y => if y = Str.ofString "wide" then some (.int (k : Int) t) else none) := F
  rw [show (fun y => if y = Str.ofString "wide" then some (Value.int (k : Int) t) else none) = fun y => List.lookup y [(Str.ofString "wide", .int (k : Int) t)] from funext fun y => lookup_if y _ _ []] at F
  simp only [List.cons_append, List.nil_append] at N
  k_steps
  (rename Fr _ _ _ _ => F1); (rename News _ _ _ _ => N1); (rename IsRange _ _ _ _ _ _ _ _ => rg)
  refine ⟨?_⟩
  refine LCg.CompSrc.range (n := k) rfl F1 N1 rg (small_of (by omega) (by omega)) (range_size k) (by rw [sizeLine_eq]; omega) ?_
  intro g'
  refine rest_ind k (fun i ys news => Hold (∃ cs n es, news = [(L' + 1 + 1, o1), (L' + 1, o2), (c, W.listOf (List.toArray cs) n)] ∧ Cards cs ∧ IntsAre ys es ∧ es.length = i ∧ ∀ e ∈ es, 1 ≤ e ∧ e ≤ 3)) ?_ ?_ k 0 [] _ (by omega)
    ⟨_, _, [], rfl, hcs, .nil, rfl, fun _ h => nomatch h⟩
  · rintro i ys news v I oI C oC D m₂ h tk E' hi ⟨cs, n, es, rfl, hcs, hes, hel, heb⟩ ⟨t', rfl⟩ hC hx F' N' o ne
    clear F1 N1 rg
    simp only [LCg.Off3, and_true] at o
    replace hes := Hold.mk hes
    k_steps
    exact ⟨_, _, _, rfl, by assumption, hes.out.append (.cons _ _ .nil), by simp [hel], few_snoc heb (by omega) (by omega)⟩
  · rintro ys news ⟨cs, n, es, rfl, hcs, hes, hel, heb⟩
    intro D h tk F' N' o1'
    clear F1 N1 rg
    simp only [LCg.Off1, and_true] at o1'
    have hf : Few es := ⟨by omega, heb⟩
    have hi1 := Hold.mk hes
    have hlen := hes.length
    clear hes
    k_steps
    (rename Fr _ _ _ _ => F1); (rename News _ _ _ _ => N1)
    simp only [lookup_if] at F1
    refine ⟨?_⟩
    refine kdl_iter (l := D) (vs := ys) (nn := ys.length) (fun i m nx => Hold (nx = [(D, LCg.lst ys), (L' + 1 + 1, o1), (L' + 1, o2), (c, W.listOf (List.toArray cs) n)] ∧ (∃ t, m (Str.ofString "total") = some (.int (prodFrom 1 (es.take i)) t)) ∧
        ∀ y, [Str.ofString "total", Str.ofString "span"].contains y = false → m y = List.lookup y [(Str.ofString "spans", Value.ref D), (Str.ofString "wide", .int (k : Int) t)]))
      rfl (.head _) F1 N1 ⟨rfl, ⟨_, rfl⟩, fun y hy => ?_⟩ ?_ ?_
    · have h1 : y ≠ Str.ofString "total" := by rintro rfl; exact absurd hy (by decide)
      rw [← lookup_if, if_neg h1]
    · rintro i v m₁ nx h tk own hv hoff hmem ⟨rfl, ⟨t1, ht1⟩, hm⟩ F' N'
      clear F1 N1
      obtain ⟨e, t', rfl, he⟩ := hi1.out.at i v hv
      have e1 := take_snoc he
      have hb := (hf.take i).prod
      have hbn := hf.2 e (List.mem_of_getElem? he)
      have hoff1 : ∀ p ∈ own, p.1 ≠ D := fun p hp => hoff p hp D (.head _)
      rw [frame_eq2 (st := [Str.ofString "span"]) ht1 hm] at F'
      simp only [List.cons_append, List.nil_append] at N'
      k_steps
      (rename Fr _ _ _ _ => F2); (rename News _ _ _ _ => N2)
      refine inv_same (nx := [_, _, _, _]) F2 N2 hoff ⟨.head _, rfl, ⟨_, by rw [e1, prodFrom_snoc]; rfl⟩, fun y hy => ?_⟩
      have h1 : y ≠ Str.ofString "total" := by rintro rfl; exact absurd hy (by decide)
      have h2 : y ≠ Str.ofString "span" := by rintro rfl; exact absurd hy (by decide)
      have h3 : [Str.ofString "span"].contains y = false := by simpa using h2
      simp only [if_neg h1, if_neg h2, h3, Bool.false_eq_true, if_false]
    · rintro m₁ nx h tk ⟨rfl, ⟨t1, ht1⟩, hm⟩ F' N'
      clear F1 N1
      rw [List.take_of_length_le (by omega)] at ht1
      have hb := hf.prod
      obtain ⟨tot, htot⟩ : ∃ tot : Nat, prodFrom 1 es = (tot : Int) := ⟨(prodFrom 1 es).toNat, by omega⟩
      rw [htot] at ht1 hb
      rw [frame_eq2 (st := [Str.ofString "span"]) ht1 hm] at F'
      k_steps
      (rename Fr _ _ _ _ => F1); (rename News _ _ _ _ => N1); (rename IsRange _ _ _ _ _ _ _ _ => rg)
      refine ⟨?_⟩
      refine LCg.CompSrc.range (n := tot) rfl F1 N1 rg (small_of (by omega) (by omega)) (range_size tot) (by rw [sizeLine_eq]; omega) ?_
      intro g'
      refine rest_ind tot (fun i zs news => Hold (news = [(D, LCg.lst ys), (L' + 1 + 1, o1), (L' + 1, o2), (c, W.listOf (List.toArray cs) n)] ∧ ∃ is, IntsAre zs is ∧ zs.length = i)) ?_ ?_ tot 0 [] _ (by omega)
        ⟨rfl, [], .nil, rfl⟩
      · rintro i zs news v I oI C oC E m₂ h tk E' hi ⟨rfl, is, his, hil⟩ ⟨t', rfl⟩ hC hx F' N' o ne
        clear F1 N1 rg
        simp only [LCg.Off3, and_true] at o
        replace his := Hold.mk his
        k_steps
        exact ⟨rfl, _, his.out.append (.cons _ _ .nil), by simp [hil]⟩
      · rintro zs news ⟨rfl, is, his, hil⟩
        intro D2 h tk F' N' o1'
        clear F1 N1 rg
        simp only [LCg.Off1, and_true] at o1'
        replace his := Hold.mk his
        k_steps
        (rename Fr _ _ _ _ => F1); (rename News _ _ _ _ => N1); (rename IsRange _ _ _ _ _ _ _ _ => rg); (rename Obj.IsDictOf _ _ (strPairs _) => hdict); (rename (_ == sysModules) = false => hsys)
        obtain ⟨lL, hlL, N1⟩ := news_head N1
        subst hlL
        try simp only [lookup_if] at F1
        refine ⟨?_⟩
        obtain ⟨m0, hm0, F1⟩ : ∃ m0, m0 = _ ∧ Fr H L' _ m0 := ⟨_, rfl, F1⟩
        obtain ⟨fx, hfx, N1⟩ : ∃ fx, fx = [_, _, _, _, _, _, (D, LCg.lst ys), (L' + 1, o2)] ∧ News H L' _ ((lL, W.listOf (List.toArray []) 0) :: (L' + 1 + 1, o1) :: (c, W.listOf (List.toArray cs) n) :: fx) := ⟨_, rfl, news_sub N1 perm11⟩
        have hx1 : ∀ p ∈ fx, p.1 ≠ lL := by rw [hfx]; first | k_all | fail
        have hx2 : ∀ p ∈ fx, p.1 ≠ L' + 1 + 1 := by rw [hfx]; first | k_all | fail
        have hx3 : ∀ p ∈ fx, p.1 ≠ c := by rw [hfx]; first | k_all | fail
        have hxD : (D, LCg.lst ys) ∈ fx := by rw [hfx]; first | k_mem | fail
        have hxC : (L' + 1, o2) ∈ fx := by rw [hfx]; first | k_mem | fail
        have hlL : L' + 1 + 1 ≠ lL := by first | k_ne | fail
        have hlc : c ≠ lL := by first | k_ne | fail
        have hac : c ≠ L' + 1 + 1 := by first | k_ne | fail
        refine loop_rangeT (n := k) (fun i m nx => Hold (∃ vs cc rs nms oa va cs n tl, nx = (lL, W.listOf (List.toArray vs) cc) :: (L' + 1 + 1, oa) :: (c, W.listOf (List.toArray cs) n) :: (fx ++ tl) ∧ vs.length = i ∧ oa.data = .cell va ∧ Cards cs ∧
            (∀ p ∈ tl, p.1 ≠ lL) ∧ (∀ p ∈ tl, p.1 ≠ L' + 1 + 1) ∧ (∀ p ∈ tl, p.1 ≠ c) ∧ Apart fx tl ∧ NmsAre w (lAt tl) vs rs nms ∧ (∀ l, some l ∈ nms → l.length ≤ 3 ∧ ∀ v ∈ l, ∃ x t, v = .str x t ∧ PySem.PyData.strOk x = true) ∧ ∀ y, [Str.ofString "filled"].contains y = false → m y = m0 y))
          rfl rg rfl (small_of (by omega) (by omega)) F1 N1 ⟨[], 0, [], [], o1, _, _, _, [], by rw [List.append_nil], rfl, d1, hcs, (fun _ h => nomatch h), (fun _ h => nomatch h), (fun _ h => nomatch h), ⟨fun _ _ _ h => nomatch h⟩, .nil, (fun _ h => nomatch h), fun _ _ => rfl⟩ ?_ ?_
        · rintro i tq m₂ nx s₁ own hi hoff ⟨vs, cc, rs, nms, oa, va, cs3, n3, tl, rfl, hvl, hoa, hcs3, ht1, ht2, ht3, htx, hnm, hst, hmm⟩ F' N'
          subst hm0
          have hw1 : ∀ p ∈ fx ++ tl ++ own, p.1 ≠ lL := fun p hp => (List.mem_append.mp hp).elim (fun hp => (List.mem_append.mp hp).elim (hx1 p) (ht1 p)) (fun q => hoff p q _ (.head _))
          have hw2 : ∀ p ∈ fx ++ tl ++ own, p.1 ≠ L' + 1 + 1 := fun p hp => (List.mem_append.mp hp).elim (fun hp => (List.mem_append.mp hp).elim (hx2 p) (ht2 p)) (fun q => hoff p q _ (.tail _ (.head _)))
          have hw3 : ∀ p ∈ fx ++ tl ++ own, p.1 ≠ c := fun p hp => (List.mem_append.mp hp).elim (fun hp => (List.mem_append.mp hp).elim (hx3 p) (ht3 p)) (fun q => hoff p q _ (.tail _ (.tail _ (.head _))))
          have hwD : (D, LCg.lst ys) ∈ fx ++ tl ++ own := List.mem_append.mpr (.inl (List.mem_append.mpr (.inl hxD)))
          have hwC : (L' + 1, o2) ∈ fx ++ tl ++ own := List.mem_append.mpr (.inl (List.mem_append.mpr (.inl hxC)))
          have hz3 : vs.length ≤ 4096 := by omega
          obtain ⟨e, he⟩ : ∃ e, es[i]? = some e := ⟨_, List.getElem?_eq_getElem (by omega)⟩
          obtain ⟨te, hte⟩ := hi1.out.get i e he
          have heb' := heb e (List.mem_of_getElem? he)
          have hte' : ys[((i : Nat) : Int).toNat]? = some (.int e te) := hte
          rw [frame_eq hmm] at F'
          simp only [List.cons_append] at N'
          clear F1 N1 rg hret hfx hdict hsys hx1 hx2 hx3 hxD hxC his hcs hel heb hb htot hil
          replace htx := Hold.mk htx
          (rename Apart _ _ => q9; clear q9); (rename Apart _ _ => q9; clear q9)
          k_steps
          · (rename Fr _ _ _ _ => F3); (rename News _ _ _ _ => N3); (rename IsRange _ _ _ _ _ _ _ _ => rg3)
            obtain ⟨en, hen⟩ : ∃ en : Nat, e = (en : Int) := ⟨e.toNat, by omega⟩
            subst hen
            refine ⟨?_⟩
            obtain ⟨nw0, hnw0, N3⟩ : ∃ nw0, nw0 = _ ∧ News H L' _ nw0 := ⟨_, rfl, N3⟩
            refine LCg.CompSrc.range (n := en) rfl F3 N3 rg3 (small_of (by omega) (by omega)) (range_size en) (by rw [sizeLine_eq]; omega) ?_
            intro g9
            refine rest_ind en (fun i zs news => Hold (news = nw0 ∧ (∀ v ∈ zs, ∃ x t, v = .str x t ∧ PySem.PyData.strOk x = true) ∧ zs.length = i)) ?_ ?_ en 0 [] _ (by omega)
              ⟨rfl, (fun _ h => nomatch h), rfl⟩
            · rintro i zs news v I oI C oC E m₂ h tk E' hi ⟨rfl, his, hil⟩ ⟨t', rfl⟩ hC hx F' N' o ne
              subst hnw0
              clear F3 N3 rg3
              have o0 := o
              simp only [LCg.Off3] at o
              k_steps
              exact LCg.CompEnd.intro F' N' _ (fun _ h => h) o0 trivial ⟨rfl, str_snoc his (by assumption), by simp [hil]⟩
            · rintro zs news ⟨rfl, his, hil⟩
              intro D3 h tk F' N' o3'
              subst hnw0
              clear F3 N3 rg3
              have o0 := off1_mem o3'
              clear o3'
              have o4 := o0 _ (.head _)
              have o5 := o0 _ (.tail _ (.head _))
              have o6 := o0 _ (.tail _ (.tail _ (.head _)))
              replace his := Hold.mk his
              k_steps
              (rename Fr _ _ _ _ => F3); (rename News _ _ _ _ => N3); (rename Apart _ _ => q3); (rename Cards _ => hc3); (rename _ = Data.cell (some (Value.int _ _)) => hd3)
              have hnw := nw_join q3 o0
              refine end_new (nw := [_, _, (D3, LCg.lst zs)]) F3 N3 hoff hnw (fun _ h => h) ⟨_, _, _, _, _, _, _, _, _, rfl, by simp [hvl], hd3, hc3, ?_, ?_, ?_, apart_snoc htx.out hnw, (hnm.mono fun _ _ h => List.mem_append.mpr (.inl h)).snoc (n := some zs) ⟨⟨_, _, rfl, List.mem_append.mpr (.inr (.tail _ (.tail _ (.head _))))⟩, _, ⟨_, _, _, _, _, _, _, rfl, List.mem_append.mpr (.inr (.head _)), List.mem_append.mpr (.inr (.tail _ (.head _)))⟩⟩, strs_snoc hst (fun l hl => by cases hl; exact ⟨by omega, his.out⟩), fun y hy => ?_⟩
              · exact off_snoc ht1 (List.forall_mem_cons.mpr ⟨Ne.symm (q3.out _ (.tail _ (.head _)) _ (.head _)), List.forall_mem_cons.mpr ⟨Ne.symm (q3.out _ (.tail _ (.head _)) _ (.tail _ (.head _))), List.forall_mem_cons.mpr ⟨Ne.symm o4, List.forall_mem_nil _⟩⟩⟩)
              · exact off_snoc ht2 (List.forall_mem_cons.mpr ⟨Ne.symm (q3.out _ (.tail _ (.tail _ (.head _))) _ (.head _)), List.forall_mem_cons.mpr ⟨Ne.symm (q3.out _ (.tail _ (.tail _ (.head _))) _ (.tail _ (.head _))), List.forall_mem_cons.mpr ⟨Ne.symm o5, List.forall_mem_nil _⟩⟩⟩)
              · exact off_snoc ht3 (List.forall_mem_cons.mpr ⟨Ne.symm (q3.out _ (.tail _ (.tail _ (.tail _ (.head _)))) _ (.head _)), List.forall_mem_cons.mpr ⟨Ne.symm (q3.out _ (.tail _ (.tail _ (.tail _ (.head _)))) _ (.tail _ (.head _))), List.forall_mem_cons.mpr ⟨Ne.symm o6, List.forall_mem_nil _⟩⟩⟩)
              · have h1 : y ≠ Str.ofString "filled" := by rintro rfl; exact absurd hy (by decide)
                simp only [if_neg h1, hy, Bool.false_eq_true, if_false]
          · (rename Fr _ _ _ _ => F3); (rename News _ _ _ _ => N3); (rename Apart _ _ => q3); (rename Cards _ => hc3); (rename _ = Data.cell (some (Value.int _ _)) => hd3)
            have hnw := fun q hq p hp => q3.out q (.tail _ (.tail _ (.tail _ hq))) p hp
            refine end_new (nw := [_, _]) F3 N3 hoff hnw (fun _ h => h) ⟨_, _, _, _, _, _, _, _, _, rfl, by simp [hvl], hd3, hc3, ?_, ?_, ?_, apart_snoc htx.out hnw, (hnm.mono fun _ _ h => List.mem_append.mpr (.inl h)).snoc (n := none) ⟨rfl, _, _, _, _, _, rfl, List.mem_append.mpr (.inr (.head _)), List.mem_append.mpr (.inr (.tail _ (.head _)))⟩, strs_snoc hst (fun l hl => nomatch hl), fun y hy => ?_⟩
            · exact off_snoc ht1 (fun p hp => Ne.symm (q3.out _ (.head _) p hp))
            · exact off_snoc ht2 (fun p hp => Ne.symm (q3.out _ (.tail _ (.head _)) p hp))
            · exact off_snoc ht3 (fun p hp => Ne.symm (q3.out _ (.tail _ (.tail _ (.head _))) p hp))
            · have h1 : y ≠ Str.ofString "filled" := by rintro rfl; exact absurd hy (by decide)
              simp only [if_neg h1, hy, Bool.false_eq_true, if_false]
        · rintro m₂ nx h tk ⟨vs, cc, rs, nms, oa, va, cs3, n3, tl, rfl, hvl, hoa, hcs3, ht1, ht2, ht3, htx, hnm, hst, hmm⟩ F' N'
          subst hm0
          have hw1 : ∀ p ∈ fx ++ tl, p.1 ≠ lL := fun p hp => (List.mem_append.mp hp).elim (hx1 p) (ht1 p)
          have hw2 : ∀ p ∈ fx ++ tl, p.1 ≠ L' + 1 + 1 := fun p hp => (List.mem_append.mp hp).elim (hx2 p) (ht2 p)
          have hw3 : ∀ p ∈ fx ++ tl, p.1 ≠ c := fun p hp => (List.mem_append.mp hp).elim (hx3 p) (ht3 p)
          rw [frame_eq hmm] at F'
          clear F1 N1 rg
          k_steps
          (rename Fr _ _ _ _ => F1); (rename News _ _ _ _ => N1)
          refine ⟨?_⟩
          obtain ⟨nw0, hnw0, N1⟩ : ∃ nw0, nw0 = _ ∧ News H L' _ nw0 := ⟨_, rfl, N1⟩
          refine LCt.CompSrcT.ledger rfl F1 N1 (by rw [hnw0]; exact .head _) (by rw [List.size_toArray, sizeLine_eq]; omega) ?_
          intro g'
          rw [List.size_toArray]
          refine restT_ind vs.length (fun i ys news => Hold (news = nw0 ∧ ((nms.take i).all (·.isNone) = true ↔ ys = []))) ?_ ?_ vs.length 0 [] _ (by omega) ⟨rfl, by simp⟩
          · rintro i zs news v I oI C oC E m₂ h tk E' hi ⟨rfl, hiff⟩ hP hC hx F' N' o ne
            have hv : vs[i]? = some v := by simpa using hP
            obtain ⟨r, n, hr, hn, hnmi⟩ := hnm.getv hv
            have e1 := take_snoc hn
            subst hnw0
            clear F1 N1
            have o0 := o
            simp only [LCg.Off3] at o
            cases n with
            | none =>
              obtain ⟨rfl, p, dp', a1, a2, a3, rfl, r1, r2⟩ := hnmi
              have r3 : (p, instObj 70 dp') ∈ fx ++ tl := List.mem_append.mpr (.inr r1)
              have r4 : (dp', nullD w a1 a2 a3) ∈ fx ++ tl := List.mem_append.mpr (.inr r2)
              k_steps
              exact LCg.CompEnd.intro F' N' _ (fun _ h => h) o0 (.inr ⟨_, .head _, rfl, _, rfl⟩) ⟨rfl, by rw [e1]; simpa using hiff⟩
            | some nn =>
              obtain ⟨⟨pl, pc, rfl, r5⟩, t0, p, dp', a1, a2, a3, a4, a5, rfl, r1, r2⟩ := hnmi
              have r3 : (p, instObj 99 dp') ∈ fx ++ tl := List.mem_append.mpr (.inr r1)
              have r4 : (dp', _) ∈ fx ++ tl := List.mem_append.mpr (.inr r2)
              k_steps
              exact LCg.CompEnd.intro F' N' _ (fun _ h => h) o0 (.inr ⟨_, .head _, rfl, _, rfl⟩) ⟨rfl, by rw [e1]; simp⟩
          · rintro qs news ⟨rfl, hiff⟩
            intro D3 h tk F' N' o3'
            subst hnw0
            have hfx0 := hfx
            subst hfx
            clear F1 N1
            rw [hvl, List.take_of_length_le (by rw [← hnm.len]; omega)] at hiff
            simp only [List.cons_append, List.nil_append] at N'
            simp only [LCg.Off1, List.cons_append, List.nil_append] at o3'
            have hnl : nms.length = k := by rw [← hnm.len, hvl]
            k_steps
            · (rename Fr _ _ _ _ => F3); (rename News _ _ _ _ => N3); (rename List.isEmpty qs = true => hq)
              refine hret _ [_, _, _, _, _, _, (D, LCg.lst ys), (L' + 1, o2)] _ _ _ cs3 n3 F3 (news_sub N3 sub9) hx3 hcs3 ?_
              exact ⟨.ref D2, .ref D, zs, ys, none, es, ⟨_, _, ⟨_, _, _, _, _, _, _, rfl, (.tail _ (.tail _ (.tail _ (.head _)))), (.tail _ (.tail _ (.tail _ (.tail _ (.head _)))))⟩, ⟨_, _, rfl, (.tail _ (.tail _ (.tail _ (.tail _ (.tail _ (.head _))))))⟩, _, _, ⟨_, _, _, _, _, _, _, rfl, (.head _), (.tail _ (.head _))⟩, ⟨_, _, rfl, (.tail _ (.tail _ (.tail _ (.tail _ (.tail _ (.tail _ (.head _)))))))⟩, ⟨_, _, rfl, (.tail _ (.tail _ (.head _))), hdict, hsys⟩⟩, hi1, hf, hel, by rw [htot, hil], ⟨is, his⟩, trivial⟩
            · (rename Fr _ _ _ _ => F3); (rename News _ _ _ _ => N3); (rename List.isEmpty qs = false => hq); (rename Apart _ _ => q3); (rename Obj.IsDictOf _ _ [_, _] => hdict2)
              have hqn : nms.all (·.isNone) = false := by
                cases hb9 : nms.all (·.isNone) with
                | false => rfl
                | true => rw [hiff.mp hb9] at hq; cases hq
              refine hret _ (_ :: _ :: (lL, W.listOf (List.toArray vs) cc) :: _ :: _ :: _ :: _ :: _ :: _ :: (D, LCg.lst ys) :: (L' + 1, o2) :: tl) _ _ _ cs3 n3 F3 (news_sub N3 sub12) ?_ hcs3 ?_
              · simp only [List.forall_mem_cons, List.not_mem_nil, false_implies, implies_true, and_true] at hx3 ⊢
                exact ⟨Ne.symm (q3.out _ (.tail _ (.tail _ (.tail _ (.tail _ (.head _))))) _ (.head _)), Ne.symm (q3.out _ (.tail _ (.tail _ (.tail _ (.tail _ (.head _))))) _ (.tail _ (.head _))), Ne.symm hlc, hx3.1, hx3.2.1, hx3.2.2.1, hx3.2.2.2.1, hx3.2.2.2.2.1, hx3.2.2.2.2.2.1, hx3.2.2.2.2.2.2.1, hx3.2.2.2.2.2.2.2, ht3⟩
              exact ⟨.ref D2, .ref D, zs, ys, some nms, es, ⟨_, _, ⟨_, _, _, _, _, _, _, rfl, (.tail _ (.tail _ (.tail _ (.tail _ (.tail _ (.tail _ (.head _))))))), (.tail _ (.tail _ (.tail _ (.tail _ (.tail _ (.tail _ (.tail _ (.head _))))))))⟩, ⟨_, _, rfl, (.tail _ (.tail _ (.tail _ (.tail _ (.tail _ (.tail _ (.tail _ (.tail _ (.head _)))))))))⟩, _, _, ⟨_, _, _, _, _, _, _, rfl, (.tail _ (.tail _ (.tail _ (.head _)))), (.tail _ (.tail _ (.tail _ (.tail _ (.head _)))))⟩, ⟨_, _, rfl, (.tail _ (.tail _ (.tail _ (.tail _ (.tail _ (.tail _ (.tail _ (.tail _ (.tail _ (.head _))))))))))⟩, _, _, .ref lL, vs, rs, ⟨_, _, rfl, (.tail _ (.tail _ (.tail _ (.tail _ (.tail _ (.head _)))))), hdict2, hsys⟩, ⟨_, _, _, _, _, _, _, rfl, (.head _), (.tail _ (.head _))⟩, ⟨_, _, rfl, (.tail _ (.tail _ (.head _)))⟩, hnm.mono fun _ _ h => .tail _ (.tail _ (.tail _ (.tail _ (.tail _ (.tail _ (.tail _ (.tail _ (.tail _ (.tail _ (.tail _ h))))))))))⟩, hi1, hf, hel, by rw [htot, hil], ⟨is, his⟩, hnl, hqn, hst⟩
end Mine
end
section
open PySem PySem.W PySem.Calls PySem.Spec PyProof.Rows
theorem Mine.dev18 : (PySem.Challenge.rw_pq1314_01.foot = 6) → Mine.hd.heap_39 = Mine.hd.heap_39 := by
  k_fill
  intro _; rfl
namespace Mine
theorem regB18_1 : True := by
  k_with_none
  k_with "m k_ne" => (refine neN ?_; (try dsimp only); first
    | with_reducible assumption
    | exact Ne.symm (by with_reducible assumption)
    | ((repeat (rename _ ∧ _ => q8z9; rcases q8z9 with ⟨_, _⟩)); first
      | with_reducible assumption
      | exact Ne.symm (by with_reducible assumption)
      | exact Nat.ne_of_gt (by with_reducible assumption)
      | exact Nat.ne_of_lt (by with_reducible assumption)))
  k_with "m k_all" => assumption
  k_with "m k_handed" => assumption
  k_with "m call ref" => (k_here; (with_reducible show wpAny _ _ (call (Value.ref 157) [_, _, _, _, _]) _ _ _); k_dflt (refine' newmat_con _ _ _ _ ?hivz9 _ _ _ _ _ ?hrz9 ?hcz9 ?hzdz9 ?hnsz9 _ _ _ _ _ _ _ _ _ _ _ _ _ _ _ _ _ _ _ _ _ _ ?Bz9 ?Fz9 ?Xz9 ?Nz9 ?Tz9 ?ckz9 ?hdz9 ?huz9 ?hpz9 ?_; (case Bz9 => k_asm); (case Fz9 => k_asm); (case Xz9 => k_asm); (case Nz9 => k_asm); (case Tz9 => k_asm); (case hpz9 => exact ⟨by is_list, RowsAre.mono (Fr.keep (by k_asm)) (by assumption)⟩); (case hivz9 => k_handed); (case hrz9 => k_handed); (case hcz9 => k_handed); (case hzdz9 => first | assumption | exact Nat.le_of_ble_eq_true rfl | omega); (case hnsz9 => assumption); (case ckz9 => first | rfl | assumption); (case hdz9 => omega); (case huz9 => omega); k_whole); intro r'9 nx'9 h'9 tk'9 F'9 N'9 ne'9 P'9; obtain ⟨av'9, dl'9, hv'9, ha'9⟩ := P'9; (have nr'9 := Apart.mk ne'9); (try simp only [List.cons_append, List.nil_append] at N'9); clear ne'9; (try k_sweep))
  k_with "m k_ne" => (refine neN ?_; (try dsimp only); first | with_reducible assumption | exact Ne.symm (by with_reducible assumption) | ((rename Apart _ _ => q9); first
  | (refine' apart_l q9 ?kaz9 ?kbz9; (case kaz9 => ((repeat (first | with_reducible exact List.mem_cons_self | with_reducible refine List.mem_cons_of_mem _ ?_)); done)); (case kbz9 => ((repeat (first | with_reducible exact List.mem_cons_self | with_reducible refine List.mem_cons_of_mem _ ?_)); done)))
  | (refine' apart_r q9 ?kaz9 ?kbz9; (case kaz9 => ((repeat (first | with_reducible exact List.mem_cons_self | with_reducible refine List.mem_cons_of_mem _ ?_)); done)); (case kbz9 => ((repeat (first | with_reducible exact List.mem_cons_self | with_reducible refine List.mem_cons_of_mem _ ?_)); done)))
  | (clear q9; k_ne)))
  k_with "m k_inst" => (refine' kb_inst ?Fz9 ?h1z9 ?h2z9; (case Fz9 => k_asm); (case h1z9 => assumption); (case h2z9 => assumption))
  k_with "m subscriptTail" => (k_here; (with_reducible show wpAny _ _ (subscriptTail _ _ (Value.ref _) (Value.str _ _)) _ _ _); k_dflt (refine' kb_item ?Fz9 ?oz9 ?dz9 ?lz9 ?_; (case Fz9 => k_asm); (case oz9 => assumption); (case dz9 => assumption); (case lz9 => first | assumption | rfl); k_whole))
  k_with "m compareOp In str ref" => (k_here; k_dflt (refine' kb_in ?Fz9 ?oz9 ?dz9 ?sz9 ?lz9 ?_; (case Fz9 => k_asm); (case oz9 => assumption); (case dz9 => assumption); (case sz9 => assumption); (case lz9 => first | assumption | rfl); k_whole))
  k_with "m compareOp NotIn str ref" => (k_here; k_dflt (refine' kb_notIn ?Fz9 ?oz9 ?dz9 ?sz9 ?lz9 ?_; (case Fz9 => k_asm); (case oz9 => assumption); (case dz9 => assumption); (case sz9 => assumption); (case lz9 => first | assumption | rfl); k_whole))
  k_with "m subscriptTail" => (k_here; (with_reducible show wpAny _ _ (subscriptTail _ _ (Value.ref _) (Value.int _ _)) _ _ _); k_dflt (refine' kb_lst ?lz9 ?az9 ?bz9 ?xz9 ?_; (case lz9 => is_list); (case xz9 => first | with_reducible assumption | assumption); (case az9 => omega); (case bz9 => omega); k_whole))
  k_with "m eval ListComp" => (k_here; first
  | (lct_look; k_dflt (refine LCt.ListComp_T (F₀ := by k_asm) (by with_unfolding_all rfl) (by decide) (by rfl) (by decide) (by rfl) ?_))
  | ((first | lcg_look | lcf_look); k_dflt (refine LCg.ListComp_U (F₀ := by k_asm) (by with_unfolding_all rfl) (by decide) (by rfl) (by decide) (by rfl) ?_)))
  k_with "m exec Assign cons ListComp" => (k_here; first
  | (lct_look; k_dflt (refine LCt.Assign_ListComp_T (F₀ := by k_asm) (by rfl) (by with_unfolding_all rfl) (by with_unfolding_all rfl) (by decide) (by rfl) (by decide) (by rfl) (by rfl) (by rfl) ?_))
  | ((first | lcg_look | lcf_look); k_dflt (refine LCg.Assign_ListComp_U (F₀ := by k_asm) (by rfl) (by with_unfolding_all rfl) (by with_unfolding_all rfl) (by decide) (by rfl) (by decide) (by rfl) (by rfl) (by rfl) ?_)))
  k_with "m call builtin:len" => (k_here; (with_reducible show wpAny _ _ (call (Value.builtin "len") [Value.ref _]) _ _ _); k_dflt (refine' kb_len ?lz9 ?zz9 ?_; (case lz9 => is_list); (case zz9 => first | assumption | omega); k_whole))
  k_with "m exec For Name Name cons nil" => (k_here; k_dflt (refine' For_invVF ?Fz9 ?k1z9 ?k2z9 ?_; (case Fz9 => k_asm); (case k1z9 => exact rfl); (case k2z9 => exact rfl); k_whole))
  k_with "m exec For Name Call cons nil" => (k_here; k_dflt (refine' For_invVF ?Fz9 ?k1z9 ?k2z9 ?_; (case Fz9 => k_asm); (case k1z9 => exact rfl); (case k2z9 => exact rfl); k_whole))
  k_with "m call builtin:list.append" => (k_here; (with_reducible show wpAny _ _ (call (Value.builtin _) [Value.ref _, _]) _ _ _); k_dflt (refine' kb_append ?k1z9 ?k2z9 ?k3z9 ?zz9 ?_; (case k1z9 => k_asm); (case k2z9 => k_asm); (case k3z9 => k_upd); (case zz9 => first | assumption | omega); k_whole); intro h'9 F'9 N'9; (try k_sweep))
  k_with "m k_all" => exact apart_all (by assumption) (by k_mem)
  k_with "m is_list" => first | with_reducible assumption | exact News.isList (by k_asm) (by k_mem) | exact Fr.lst (by assumption) (by assumption)
  k_with "m loadName" => (k_here; k_dflt (refine' kb_ldn ?Fz9 ?vz9 ?_ ?az9 ?bz9; (case Fz9 => k_asm); (case az9 => rfl); (case bz9 => rfl); (case vz9 => rfl); k_whole))
  k_with "m pyIter ref" => (k_here; (with_reducible show wpAny _ _ (pyIter (Value.ref _)) (fun it s₂ => LoopAtV _ _ _ _ _ _ _ _ _ it s₂) _ _); refine Halt.out ?_)
  k_with "m CompSrc" => (refine Halt.out ?_)
  k_with "m CompSrcT" => (refine Halt.out ?_)
  k_with "m call ref" => (k_here; (with_reducible show wpAny _ _ (call (Value.ref 124) [_]) _ _ _); k_dflt (refine' dims_none _ _ _ _ _ _ _ _ _ _ _ _ _ _ _ _ _ _ _ _ _ _ _ _ _ _ ?Bz9 ?Fz9 ?Xz9 ?Nz9 ?Tz9 ?ckz9 ?hdz9 ?huz9 ?hpz9 ?_; (case Bz9 => k_asm); (case Fz9 => k_asm); (case Xz9 => k_asm); (case Nz9 => k_asm); (case Tz9 => k_asm); (case hpz9 => exact VecIs.mono (Fr.keep (by k_asm)) (by assumption)); (case ckz9 => first | rfl | assumption); (case hdz9 => omega); (case huz9 => omega); k_whole); intro r'9 nx'9 h'9 tk'9 F'9 N'9 ne'9 P'9; obtain ⟨hr'9, hn'9⟩ := P'9; subst hr'9; subst hn'9; (have nr'9 := Apart.mk ne'9); (try simp only [List.cons_append, List.nil_append] at N'9); clear ne'9; (try k_sweep))
  k_with "m call ref" => (k_here; (with_reducible show wpAny _ _ (call (Value.ref 138) [_]) _ _ _); k_dflt (refine' plain_none _ _ _ _ _ _ _ _ _ _ _ _ _ _ _ _ _ _ _ _ _ _ _ _ _ _ ?Bz9 ?Fz9 ?Xz9 ?Nz9 ?Tz9 ?ckz9 ?hdz9 ?huz9 ?hpz9 ?_; (case Bz9 => k_asm); (case Fz9 => k_asm); (case Xz9 => k_asm); (case Nz9 => k_asm); (case Tz9 => k_asm); (case hpz9 => exact VecIs.mono (Fr.keep (by k_asm)) (by assumption)); (case ckz9 => first | rfl | assumption); (case hdz9 => omega); (case huz9 => omega); k_whole); intro r'9 nx'9 h'9 tk'9 F'9 N'9 ne'9 P'9; obtain ⟨hr'9, hn'9⟩ := P'9; subst hr'9; subst hn'9; (have nr'9 := Apart.mk ne'9); (try simp only [List.cons_append, List.nil_append] at N'9); clear ne'9; (try k_sweep))
  trivial
set_option maxHeartbeats 2000000 in
theorem trans_vec0 (w : World) (v : Value) (k : Str) (t : Tok) (is : List Value) (hz : is.length ≤ 8) :
    Con w 20 164 [v] (fun h => ∃ iv, VecIs w (hAt h) v (.str k t) iv .none ∧ LstIs (hAt h) iv is) (fun r nx => ∃ t1 t2, ArK w (lAt nx) r k t is [.int 1 t1, .int (is.length : Int) t2] (nmOf [none, none])) := by
  refine Con.ofP (binds := [(Str.ofString "v", v)]) (by k_is) (by k_is) (fun s => BindsTo.of_eq rfl) (locs rfl) rfl rfl rfl (by decide) ?_
  intro loose mean mg mb dp un gd outer A₀ base H h₁ L' s Q B F X N T hd' hu hp hs hret
  subst hs
  have z1 : is.toArray.size ≤ sizeLine := by rw [List.size_toArray, sizeLine_eq]; omega
  have z2 : is.length ≤ 4096 := by omega

  obtain ⟨iv, a1, a2⟩ := hp
  have b1 := a1
  obtain ⟨x, dx, u1, u2, u3, u4, u5, rfl, q1, q2⟩ := b1
  obtain ⟨li, m1, rfl, q3⟩ := a2
  dsimp only [hAt] at q1 q2 q3
  have l3 := lst_of q3
  have hrow : RowsAre (hAt H) [.none, .none] [none, none] := .cons rfl (.cons rfl .nil)
  have hns : ∀ l : List Value, some l ∈ [(none : Option (List Value)), none] → l.length ≤ 4096 := by intro l hl; simp at hl
  k_steps
  (rename Fr _ _ _ _ => F2); (rename News _ _ _ _ => N2); (rename VecIs _ (lAt _) _ _ _ _ => hv2); (rename AttIs _ _ _ _ _ _ => ha2)
  exact hret _ _ _ _ _ F2 N2 ⟨_, _, _, _, _, hv2.mono fun _ _ h => List.mem_append.mpr (.inl h), ⟨_, _, rfl, List.mem_append.mpr (.inr (.tail _ (.head _)))⟩, ha2.mono fun _ _ h => List.mem_append.mpr (.inl h)⟩
theorem regB18_2 : True := by
  k_with "m call ref" => (k_here; (with_reducible show wpAny _ _ (call (Value.ref 124) [_]) _ _ _); k_dflt (refine' dims_none' _ _ _ _ _ _ ?hlz9 _ _ _ _ _ _ _ _ _ _ _ _ _ _ _ _ _ _ _ _ _ _ ?Bz9 ?Fz9 ?Xz9 ?Nz9 ?Tz9 ?ckz9 ?hdz9 ?huz9 ?hpz9 ?_; (case Bz9 => k_asm); (case Fz9 => k_asm); (case Xz9 => k_asm); (case Nz9 => k_asm); (case Tz9 => k_asm); (case hpz9 => exact ⟨VecIs.mono (Fr.keep (by k_asm)) (by assumption), DicIs.mono (Fr.keep (by k_asm)) (by assumption)⟩); (case hlz9 => with_unfolding_all rfl); (case ckz9 => first | rfl | assumption); (case hdz9 => omega); (case huz9 => omega); k_whole); intro r'9 nx'9 h'9 tk'9 F'9 N'9 ne'9 P'9; obtain ⟨hr'9, hn'9⟩ := P'9; subst hr'9; subst hn'9; (have nr'9 := Apart.mk ne'9); (try simp only [List.cons_append, List.nil_append] at N'9); clear ne'9; (try k_sweep))
  k_with "m call ref" => (k_here; (with_reducible show wpAny _ _ (call (Value.ref 138) [_]) _ _ _); k_dflt (refine' plain_some _ _ _ _ _ _ _ _ _ _ ?hlz9 ?hdlz9 _ _ _ _ _ _ _ _ _ _ _ _ _ _ _ _ _ _ _ _ _ _ ?Bz9 ?Fz9 ?Xz9 ?Nz9 ?Tz9 ?ckz9 ?hdz9 ?huz9 ?hpz9 ?_; (case Bz9 => k_asm); (case Fz9 => k_asm); (case Xz9 => k_asm); (case Nz9 => k_asm); (case Tz9 => k_asm); (case hpz9 => exact ⟨VecIs.mono (Fr.keep (by k_asm)) (by assumption), DicIs.mono (Fr.keep (by k_asm)) (by assumption), VecIs.mono (Fr.keep (by k_asm)) (by assumption)⟩); (case hlz9 => with_unfolding_all rfl); (case hdlz9 => rfl); (case ckz9 => first | rfl | assumption); (case hdz9 => omega); (case huz9 => omega); k_whole); intro r'9 nx'9 h'9 tk'9 F'9 N'9 ne'9 P'9; obtain ⟨hr'9, hn'9⟩ := P'9; subst hr'9; subst hn'9; (have nr'9 := Apart.mk ne'9); (try simp only [List.cons_append, List.nil_append] at N'9); clear ne'9; (try k_sweep))
  trivial
set_option maxHeartbeats 2000000 in
theorem trans_vec1 (w : World) (v : Value) (k : Str) (t : Tok) (is : List Value) (hz : is.length ≤ 8) (ns : List Value) (hzn : ns.length ≤ 8) :
    Con w 20 164 [v] (fun h => ∃ iv av nv k2 nl, VecIs w (hAt h) v (.str k t) iv av ∧ LstIs (hAt h) iv is ∧ DicIs w (hAt h) av [(Str.ofString "names", nv)] ∧ VecIs w (hAt h) nv k2 nl .none ∧ LstIs (hAt h) nl ns) (fun r nx => ∃ t1 t2, ArK w (lAt nx) r k t is [.int 1 t1, .int (is.length : Int) t2] (nmOf [none, some ns])) := by
  refine Con.ofP (binds := [(Str.ofString "v", v)]) (by k_is) (by k_is) (fun s => BindsTo.of_eq rfl) (locs rfl) rfl rfl rfl (by decide) ?_
  intro loose mean mg mb dp un gd outer A₀ base H h₁ L' s Q B F X N T hd' hu hp hs hret
  subst hs
  have z1 : is.toArray.size ≤ sizeLine := by rw [List.size_toArray, sizeLine_eq]; omega
  have z2 : is.length ≤ 4096 := by omega

  obtain ⟨iv, av, nv, k2, nl, a1, a2, a3, a4, a5⟩ := hp
  have b1 := a1; have b5 := a5
  obtain ⟨x, dx, u1, u2, u3, u4, u5, rfl, q1, q2⟩ := b1
  obtain ⟨li, m1, rfl, q3⟩ := a2
  obtain ⟨ln, m2, rfl, q4⟩ := b5
  dsimp only [hAt] at q1 q2 q3 q4
  have l3 := lst_of q3
  have hrow : RowsAre (hAt H) [.none, .ref ln] [none, some ns] := .cons rfl (.cons a5 .nil)
  have hns : ∀ l : List Value, some l ∈ [(none : Option (List Value)), some ns] → l.length ≤ 4096 := by intro l hl; simp at hl; subst hl; omega
  k_steps
  (rename Fr _ _ _ _ => F2); (rename News _ _ _ _ => N2); (rename VecIs _ (lAt _) _ _ _ _ => hv2); (rename AttIs _ _ _ _ _ _ => ha2)
  exact hret _ _ _ _ _ F2 N2 ⟨_, _, _, _, _, hv2.mono fun _ _ h => List.mem_append.mpr (.inl h), ⟨_, _, rfl, List.mem_append.mpr (.inr (.tail _ (.head _)))⟩, ha2.mono fun _ _ h => List.mem_append.mpr (.inl h)⟩
end Mine
end
section
namespace Mine
open PySem PySem.W PySem.Calls PySem.Spec PyProof.Rows
/-- the source of place i, as a number -/
noncomputable def sN (es ps : List Int) (i : Nat) : Nat := (srcOf (pick es 0 ps) (pick (stepsOf 1 es) 0 ps) i 0).toNat
noncomputable def allEs : Nat → List (List Int)
  | 0 => [[]]
  | n + 1 => (allEs n).flatMap fun r => [1 :: r, 2 :: r, 3 :: r]
noncomputable def perms : Nat → List (List Int)
  | 0 => [[]]
  | 1 => [[0]]
  | 2 => [[0, 1], [1, 0]]
  | _ => [[0, 1, 2], [0, 2, 1], [1, 0, 2], [1, 2, 0], [2, 0, 1], [2, 1, 0]]
noncomputable def chkB (es p : List Int) : Bool := prodFrom 1 (pick es 0 p) == prodFrom 1 es && (List.range (prodFrom 1 es).toNat).all fun i => decide (0 ≤ srcOf (pick es 0 p) (pick (stepsOf 1 es) 0 p) i 0) && decide (srcOf (pick es 0 p) (pick (stepsOf 1 es) 0 p) i 0 < prodFrom 1 es)
noncomputable def chkC (es p q : List Int) : Bool := (List.range (prodFrom 1 es).toNat).all fun i => sN es p (sN (pick es 0 p) q i) == sN es (pick p 0 q) i
noncomputable def chkI (es : List Int) : Bool := (List.range (prodFrom 1 es).toNat).all fun i => sN es (rangeL es.length) i == i
noncomputable def invOf (n : Nat) (p : List Int) : List Int := (rangeL n).map fun k => ((p.findIdx (· == k) : Nat) : Int)
theorem chkB1 : (allEs 1).all (fun es => (perms 1).all fun p => chkB es p) = true := by decide +kernel
theorem chkB2 : (allEs 2).all (fun es => (perms 2).all fun p => chkB es p) = true := by decide +kernel
theorem chkB3 : (allEs 3).all (fun es => (perms 3).all fun p => chkB es p) = true := by decide +kernel
theorem chkI1 : (allEs 1).all chkI = true := by decide +kernel
theorem chkI2 : (allEs 2).all chkI = true := by decide +kernel
theorem chkI3 : (allEs 3).all chkI = true := by decide +kernel
theorem chkC1 : (allEs 1).all (fun es => (perms 1).all fun p => (perms 1).all fun q => chkC es p q) = true := by decide +kernel
theorem chkC2 : (allEs 2).all (fun es => (perms 2).all fun p => (perms 2).all fun q => chkC es p q) = true := by decide +kernel
/-- three extents, in numbers alone -/
noncomputable def fN (x y z a b c i : Nat) : Nat := i % x * a + i / x % y * b + i / x / y % z * c
noncomputable def gN : Nat → Nat → Nat → Nat → Nat
  | 0, x, _, _ => x
  | 1, _, y, _ => y
  | _, _, _, z => z
noncomputable def tN (x y z a b c i : Nat) : Nat := fN (gN a x y z) (gN b x y z) (gN c x y z) (gN a 1 x (x * y)) (gN b 1 x (x * y)) (gN c 1 x (x * y)) i
theorem srcOf3 (x y z a b c i : Nat) : srcOf [(x : Int), y, z] [(a : Int), b, c] i 0 = (fN x y z a b c i : Nat) := by
  show 0 + Int.fmod i x * a + Int.fmod (Int.fdiv i x) y * b + Int.fmod (Int.fdiv (Int.fdiv i x) y) z * c = _
  rw [← Int.ofNat_fdiv, ← Int.ofNat_fdiv, ← Int.ofNat_fmod, ← Int.ofNat_fmod, ← Int.ofNat_fmod, Int.zero_add]
  rfl
theorem pick3 (x y z : Nat) {k : Nat} (h : k ≤ 2) : List.getD [(x : Int), y, z] ((k : Int)).toNat 0 = (gN k x y z : Nat) := by
  match k, h with
  | 0, _ => rfl
  | 1, _ => rfl
  | 2, _ => rfl
theorem picks3 (x y z : Nat) {a b c : Nat} (ha : a ≤ 2) (hb : b ≤ 2) (hc : c ≤ 2) : pick [(x : Int), y, z] 0 [(a : Int), b, c] = [((gN a x y z : Nat) : Int), (gN b x y z : Nat), (gN c x y z : Nat)] := by
  simp only [pick, List.map_cons, List.map_nil]
  rw [pick3 x y z ha, pick3 x y z hb, pick3 x y z hc]
theorem sN3 (x y z : Nat) {a b c : Nat} (ha : a ≤ 2) (hb : b ≤ 2) (hc : c ≤ 2) (i : Nat) : sN [(x : Int), y, z] [(a : Int), b, c] i = tN x y z a b c i := by
  have e : stepsOf 1 [(x : Int), y, z] = [((1 : Nat) : Int), x, (x * y : Nat)] := by simp [stepsOf]
  unfold sN
  rw [e, picks3 x y z ha hb hc, picks3 1 x _ ha hb hc, srcOf3]
  rfl
theorem gN_pos {x y z : Nat} (hx : 0 < x) (hy : 0 < y) (hz : 0 < z) : ∀ k, 0 < gN k x y z
  | 0 => hx
  | 1 => hy
  | _ + 2 => hz
theorem gN_le {x y z : Nat} (hx : x ≤ 2) (hy : y ≤ 2) (hz : z ≤ 2) : ∀ k, gN k x y z ≤ 2
  | 0 => hx
  | 1 => hy
  | _ + 2 => hz
/-- the digits of a place, taken out again -/
theorem fN_put {x y z a b c : Nat} (A B C : Nat) (ha : a < x) (hb : b < y) (hc : c < z) : fN x y z A B C (a + b * x + c * (x * y)) = a * A + b * B + c * C := by
  have e1 : a + b * x + c * (x * y) = a + x * (b + y * c) := by
    rw [Nat.mul_add, Nat.mul_comm b x, Nat.mul_comm c, Nat.mul_assoc x y c, Nat.add_assoc]
  have e2 : (a + x * (b + y * c)) / x = b + y * c := by
    rw [Nat.add_mul_div_left _ _ (Nat.lt_of_le_of_lt (Nat.zero_le _) ha), Nat.div_eq_of_lt ha, Nat.zero_add]
  have e3 : (b + y * c) / y = c := by
    rw [Nat.add_mul_div_left _ _ (Nat.lt_of_le_of_lt (Nat.zero_le _) hb), Nat.div_eq_of_lt hb, Nat.zero_add]
  unfold fN
  rw [e1, e2, e3, Nat.add_mul_mod_self_left, Nat.add_mul_mod_self_left, Nat.mod_eq_of_lt ha, Nat.mod_eq_of_lt hb, Nat.mod_eq_of_lt hc]
noncomputable def permsN : List (Nat × Nat × Nat) := [(0, 1, 2), (0, 2, 1), (1, 0, 2), (1, 2, 0), (2, 0, 1), (2, 1, 0)]
theorem s021 (a b c : Nat) : a + b + c = a + c + b := Nat.add_right_comm a b c
theorem s102 (a b c : Nat) : a + b + c = b + a + c := congrArg (· + c) (Nat.add_comm a b)
theorem s120 (a b c : Nat) : a + b + c = b + c + a := (s102 a b c).trans (s021 b a c)
theorem s201 (a b c : Nat) : a + b + c = c + a + b := (s021 a b c).trans (s102 a c b)
theorem s210 (a b c : Nat) : a + b + c = c + b + a := (s102 a b c).trans (s201 b a c)
theorem perm_ind {P : Nat → Nat → Nat → Prop} (h1 : P 0 1 2) (h2 : P 0 2 1) (h3 : P 1 0 2) (h4 : P 1 2 0) (h5 : P 2 0 1) (h6 : P 2 1 0) {u v w : Nat} (h : (u, v, w) ∈ permsN) : P u v w :=
  have k : ∀ t ∈ permsN, P t.1 t.2.1 t.2.2 := List.forall_mem_cons.mpr ⟨h1, List.forall_mem_cons.mpr ⟨h2, List.forall_mem_cons.mpr ⟨h3, List.forall_mem_cons.mpr ⟨h4, List.forall_mem_cons.mpr ⟨h5, List.forall_mem_cons.mpr ⟨h6, List.forall_mem_nil _⟩⟩⟩⟩⟩⟩
  k _ h
theorem fN_fN {x y z A B C i : Nat} (hx : 0 < x) (hy : 0 < y) (hz : 0 < z) {u v w : Nat} (h : (u, v, w) ∈ permsN) :
    fN x y z A B C (tN x y z u v w i) = fN (gN u x y z) (gN v x y z) (gN w x y z) (gN u A B C) (gN v A B C) (gN w A B C) i := by
  have hm := fun (r k : Nat) (h : 0 < k) => Nat.mod_lt r h
  refine perm_ind (P := fun u v w => fN x y z A B C (tN x y z u v w i) = fN (gN u x y z) (gN v x y z) (gN w x y z) (gN u A B C) (gN v A B C) (gN w A B C) i) ?_ ?_ ?_ ?_ ?_ ?_ h
  · have e := fN_put A B C (hm i x hx) (hm (i / x) y hy) (hm (i / x / y) z hz)
    refine Eq.trans (congrArg (fN x y z A B C) (?_ : i % x * 1 + i / x % y * x + i / x / y % z * (x * y) = _)) (e.trans ?_)
    · rw [Nat.mul_one]
    · rfl
  · have e := fN_put A B C (hm i x hx) (hm (i / x / z) y hy) (hm (i / x) z hz)
    refine Eq.trans (congrArg (fN x y z A B C) (?_ : i % x * 1 + i / x % z * (x * y) + i / x / z % y * x = _)) (e.trans ?_)
    · rw [Nat.mul_one]; exact (s021 _ _ _).symm
    · exact s021 _ _ _
  · have e := fN_put A B C (hm (i / y) x hx) (hm i y hy) (hm (i / y / x) z hz)
    refine Eq.trans (congrArg (fN x y z A B C) (?_ : i % y * x + i / y % x * 1 + i / y / x % z * (x * y) = _)) (e.trans ?_)
    · rw [Nat.mul_one]; exact (s102 _ _ _).symm
    · exact s102 _ _ _
  · have e := fN_put A B C (hm (i / y / z) x hx) (hm i y hy) (hm (i / y) z hz)
    refine Eq.trans (congrArg (fN x y z A B C) (?_ : i % y * x + i / y % z * (x * y) + i / y / z % x * 1 = _)) (e.trans ?_)
    · rw [Nat.mul_one]; exact (s120 _ _ _).symm
    · exact s120 _ _ _
  · have e := fN_put A B C (hm (i / z) x hx) (hm (i / z / x) y hy) (hm i z hz)
    refine Eq.trans (congrArg (fN x y z A B C) (?_ : i % z * (x * y) + i / z % x * 1 + i / z / x % y * x = _)) (e.trans ?_)
    · rw [Nat.mul_one]; exact (s201 _ _ _).symm
    · exact s201 _ _ _
  · have e := fN_put A B C (hm (i / z / y) x hx) (hm (i / z) y hy) (hm i z hz)
    refine Eq.trans (congrArg (fN x y z A B C) (?_ : i % z * (x * y) + i / z % y * x + i / z / y % x * 1 = _)) (e.trans ?_)
    · rw [Nat.mul_one]; exact (s210 _ _ _).symm
    · exact s210 _ _ _
theorem perms3 {p : List Int} (h : p ∈ perms 3) : ∃ a b c : Nat, p = [(a : Int), b, c] ∧ (a, b, c) ∈ permsN := by
  have e : perms 3 = permsN.map fun t => [(t.1 : Int), t.2.1, t.2.2] := rfl
  rw [e] at h
  obtain ⟨t, m, e⟩ := List.mem_map.mp h
  exact ⟨t.1, t.2.1, t.2.2, e.symm, m⟩
theorem permsN_le : ∀ t ∈ permsN, t.1 ≤ 2 ∧ t.2.1 ≤ 2 ∧ t.2.2 ≤ 2 := by decide
theorem chkC3 {x y z : Nat} (hx : 0 < x) (hy : 0 < y) (hz : 0 < z) {p q : List Int} (hp : p ∈ perms 3) (hq : q ∈ perms 3) : chkC [(x : Int), y, z] p q = true := by
  obtain ⟨a, b, c, rfl, h1⟩ := perms3 hp
  obtain ⟨u, v, w, rfl, h2⟩ := perms3 hq
  obtain ⟨ha, hb, hc⟩ := permsN_le _ h1
  obtain ⟨hu, hv, hw⟩ := permsN_le _ h2
  refine List.all_eq_true.mpr fun i _ => beq_iff_eq.mpr ?_
  rw [picks3 x y z ha hb hc, picks3 a b c hu hv hw, sN3 _ _ _ hu hv hw, sN3 _ _ _ ha hb hc, sN3 _ _ _ (gN_le ha hb hc u) (gN_le ha hb hc v) (gN_le ha hb hc w)]
  refine (fN_fN (gN_pos hx hy hz a) (gN_pos hx hy hz b) (gN_pos hx hy hz c) h2).trans ?_
  exact perm_ind (P := fun u v w => fN (gN u (gN a x y z) (gN b x y z) (gN c x y z)) (gN v (gN a x y z) (gN b x y z) (gN c x y z)) (gN w (gN a x y z) (gN b x y z) (gN c x y z)) (gN u (gN a 1 x (x * y)) (gN b 1 x (x * y)) (gN c 1 x (x * y))) (gN v (gN a 1 x (x * y)) (gN b 1 x (x * y)) (gN c 1 x (x * y))) (gN w (gN a 1 x (x * y)) (gN b 1 x (x * y)) (gN c 1 x (x * y))) i = tN x y z (gN u a b c) (gN v a b c) (gN w a b c) i) rfl rfl rfl rfl rfl rfl h2
end Mine
end
section
namespace Mine
open PySem PySem.W PySem.Calls PySem.Spec PyProof.Rows
theorem allEs_mem : ∀ (es : List Int), (∀ e ∈ es, 1 ≤ e ∧ e ≤ 3) → es ∈ allEs es.length
  | [], _ => .head _
  | e :: r, h => by
    have he := h e (.head _)
    have ih := allEs_mem r fun x hx => h x (.tail _ hx)
    refine List.mem_flatMap.mpr ⟨r, ih, ?_⟩
    have : e = 1 ∨ e = 2 ∨ e = 3 := by omega
    rcases this with rfl | rfl | rfl <;> simp
theorem rangeL_mem {n : Nat} {k : Int} : k ∈ rangeL n ↔ 0 ≤ k ∧ k < (n : Int) := by
  simp only [rangeL, List.mem_map, List.mem_range]
  constructor
  · rintro ⟨a, h, rfl⟩; omega
  · rintro ⟨h0, h1⟩; exact ⟨k.toNat, by omega, by omega⟩
theorem rangeL_len (n : Nat) : (rangeL n).length = n := by simp [rangeL]
theorem rangeL_nodup (n : Nat) : (rangeL n).Nodup := by
  unfold rangeL
  rw [List.nodup_iff_pairwise_ne, List.pairwise_map]
  exact (List.nodup_range (n := n)).imp fun h e => h (by omega)
theorem three {a : Int} (h : 0 ≤ a ∧ a < ((3 : Nat) : Int)) : a = 0 ∨ a = 1 ∨ a = 2 := by omega
theorem perms_mem {n : Nat} {p : List Int} (h : p.Perm (rangeL n)) (hn : n ≤ 3) : p ∈ perms n := by
  have hl := h.length_eq
  rw [rangeL_len] at hl
  have hm : ∀ k ∈ p, 0 ≤ k ∧ k < (n : Int) := fun k hk => rangeL_mem.mp (h.mem_iff.mp hk)
  have hd : p.Nodup := h.nodup_iff.mpr (rangeL_nodup n)
  match n, p, hl, hn with
  | 0, [], _, _ => exact .head _
  | 1, [a], _, _ =>
    have ha := hm a (.head _)
    obtain rfl : a = 0 := by omega
    exact .head _
  | 2, [a, b], _, _ =>
    have ha := hm a (.head _)
    have hb := hm b (.tail _ (.head _))
    have hab : a ≠ b := by simp at hd; exact hd
    have : (a = 0 ∧ b = 1) ∨ (a = 1 ∧ b = 0) := by omega
    rcases this with ⟨rfl, rfl⟩ | ⟨rfl, rfl⟩ <;> simp [perms]
  | 3, [a, b, c], _, _ =>
    have ha := hm a (.head _)
    have hb := hm b (.tail _ (.head _))
    have hc := hm c (.tail _ (.tail _ (.head _)))
    simp at hd
    rcases three ha with rfl | rfl | rfl <;> rcases three hb with rfl | rfl | rfl <;> rcases three hc with rfl | rfl | rfl <;>
      first | exact absurd rfl hd.1.1 | exact absurd rfl hd.1.2 | exact absurd rfl hd.2 | decide | simp [perms]

theorem three_of {es : List Int} (h : es.length = 3) : ∃ x y z : Int, es = [x, y, z] :=
  match es, h with
  | [x, y, z], _ => ⟨x, y, z, rfl⟩
section
variable {es p q : List Int} (hf : Few es)
include hf
theorem Few.one {n : Nat} (hl : es.length = n) : es ∈ allEs n := hl ▸ allEs_mem es hf.2
theorem chkB_all (hp : p.Perm (rangeL es.length)) (h0 : 1 ≤ es.length) : chkB es p = true := by
  have h3 := hf.1
  have hm := perms_mem hp h3
  have hc : es.length = 1 ∨ es.length = 2 ∨ es.length = 3 := by omega
  rcases hc with h | h | h <;> rw [h] at hm
  · exact List.all_eq_true.mp (List.all_eq_true.mp chkB1 es (hf.one h)) p hm
  · exact List.all_eq_true.mp (List.all_eq_true.mp chkB2 es (hf.one h)) p hm
  · exact List.all_eq_true.mp (List.all_eq_true.mp chkB3 es (hf.one h)) p hm
theorem chkI_all (h0 : 1 ≤ es.length) : chkI es = true := by
  have h3 := hf.1
  have hc : es.length = 1 ∨ es.length = 2 ∨ es.length = 3 := by omega
  rcases hc with h | h | h
  · exact List.all_eq_true.mp chkI1 es (hf.one h)
  · exact List.all_eq_true.mp chkI2 es (hf.one h)
  · exact List.all_eq_true.mp chkI3 es (hf.one h)
theorem chkC_all (hp : p.Perm (rangeL es.length)) (hq : q.Perm (rangeL es.length)) (h0 : 1 ≤ es.length) : chkC es p q = true := by
  have h3 := hf.1
  have hm := perms_mem hp h3
  have hm' := perms_mem hq h3
  have hc : es.length = 1 ∨ es.length = 2 ∨ es.length = 3 := by omega
  rcases hc with h | h | h <;> rw [h] at hm hm'
  · exact List.all_eq_true.mp (List.all_eq_true.mp (List.all_eq_true.mp chkC1 es (hf.one h)) p hm) q hm'
  · exact List.all_eq_true.mp (List.all_eq_true.mp (List.all_eq_true.mp chkC2 es (hf.one h)) p hm) q hm'
  · obtain ⟨x, y, z, rfl⟩ := three_of h
    have hx := hf.2 x (.head _)
    have hy := hf.2 y (.tail _ (.head _))
    have hz := hf.2 z (.tail _ (.tail _ (.head _)))
    obtain ⟨x, rfl⟩ := Int.eq_ofNat_of_zero_le (show 0 ≤ x by omega)
    obtain ⟨y, rfl⟩ := Int.eq_ofNat_of_zero_le (show 0 ≤ y by omega)
    obtain ⟨z, rfl⟩ := Int.eq_ofNat_of_zero_le (show 0 ≤ z by omega)
    exact chkC3 (by omega) (by omega) (by omega) hm hm'
end

/-- a turned array's items -/
noncomputable def apI (es p : List Int) (is : List Value) : List Value := (List.range is.length).map fun i : Nat => is.getD (srcOf (pick es 0 p) (pick (stepsOf 1 es) 0 p) i 0).toNat .none
theorem apI_len (es p : List Int) (is : List Value) : (apI es p is).length = is.length := by simp [apI]
theorem apI_getD {es p : List Int} {is : List Value} {i : Nat} (h : i < is.length) : (apI es p is).getD i .none = is.getD (sN es p i) .none := by
  simp [apI, sN, h]

section
variable {es p q : List Int} {is : List Value}
theorem src_bound (hf : Few es) (h0 : 1 ≤ es.length) (hp : p.Perm (rangeL es.length)) {i : Nat} (hi : (i : Int) < prodFrom 1 es) :
    0 ≤ srcOf (pick es 0 p) (pick (stepsOf 1 es) 0 p) i 0 ∧ srcOf (pick es 0 p) (pick (stepsOf 1 es) 0 p) i 0 < prodFrom 1 es := by
  have h := chkB_all hf hp h0
  simp only [chkB, Bool.and_eq_true, List.all_eq_true, List.mem_range, decide_eq_true_eq] at h
  exact h.2 i (by omega)
theorem prod_pick (hf : Few es) (h0 : 1 ≤ es.length) (hp : p.Perm (rangeL es.length)) : prodFrom 1 (pick es 0 p) = prodFrom 1 es := by
  have h := chkB_all hf hp h0
  simp only [chkB, Bool.and_eq_true, beq_iff_eq] at h
  exact h.1
theorem few_pick (hf : Few es) (hp : p.Perm (rangeL es.length)) : Few (pick es 0 p) := by
  refine ⟨?_, fun e he => ?_⟩
  · rw [pick_len, hp.length_eq, rangeL_len]; exact hf.1
  · obtain ⟨k, hk, rfl⟩ := List.mem_map.mp he
    have hb := rangeL_mem.mp (hp.mem_iff.mp hk)
    exact hf.2 _ (getD_mem (by omega))
theorem pick_pick {α : Type} (l : List α) (d : α) (p q : List Int) (hq : ∀ k ∈ q, 0 ≤ k ∧ k < (p.length : Int)) : pick (pick l d p) d q = pick l d (pick p 0 q) := by
  unfold pick
  rw [List.map_map]
  refine List.map_congr_left fun k hk => ?_
  have hb := hq k hk
  have h1 : k.toNat < p.length := by omega
  simp [h1]
theorem pick_id {α : Type} (l : List α) (d : α) : pick l d (rangeL l.length) = l := by
  unfold pick rangeL
  rw [List.map_map]
  apply List.ext_getElem
  · simp
  · intro i h1 h2
    simp [h2]
theorem perm_pick (hp : p.Perm (rangeL n)) (hq : q.Perm (rangeL n)) : (pick p 0 q).Perm (rangeL n) := by
  have e : pick p 0 (rangeL n) = p := by
    have := pick_id p 0
    rwa [hp.length_eq, rangeL_len] at this
  have : (pick p 0 q).Perm (pick p 0 (rangeL n)) := hq.map _
  rw [e] at this
  exact this.trans hp
theorem perm_in (hq : q.Perm (rangeL n)) (hl : m = n) : ∀ k ∈ q, 0 ≤ k ∧ k < (m : Int) := fun k hk => by rw [hl]; exact rangeL_mem.mp (hq.mem_iff.mp hk)
/-- one turn after another is the turn by the joined order -/
theorem apI_comp (hf : Few es) (h0 : 1 ≤ es.length) (hp : p.Perm (rangeL es.length)) (hq : q.Perm (rangeL es.length)) (hl : prodFrom 1 es = (is.length : Int)) : apI (pick es 0 p) q (apI es p is) = apI es (pick p 0 q) is := by
  have h := chkC_all hf hp hq h0
  simp only [chkC, List.all_eq_true, List.mem_range, beq_iff_eq] at h
  have hl2 : (pick es 0 p).length = es.length := by rw [pick_len, hp.length_eq, rangeL_len]
  have hq' : q.Perm (rangeL (pick es 0 p).length) := by rw [hl2]; exact hq
  show (List.range (apI es p is).length).map _ = (List.range is.length).map _
  rw [apI_len]
  refine List.map_congr_left fun i hi => ?_
  have hi' := List.mem_range.mp hi
  have hb := src_bound (few_pick hf hp) (by rw [hl2]; exact h0) hq' (i := i) (by rw [prod_pick hf h0 hp, hl]; omega)
  rw [prod_pick hf h0 hp, hl] at hb
  have h1 : sN (pick es 0 p) q i < is.length := by unfold sN; omega
  have h2 := h i (by rw [hl]; omega)
  show (apI es p is).getD (sN (pick es 0 p) q i) .none = is.getD (sN es (pick p 0 q) i) .none
  rw [apI_getD h1, h2]
theorem apI_id (hf : Few es) (h0 : 1 ≤ es.length) (hl : prodFrom 1 es = (is.length : Int)) : apI es (rangeL es.length) is = is := by
  have h := chkI_all hf h0
  simp only [chkI, List.all_eq_true, List.mem_range, beq_iff_eq] at h
  apply List.ext_getElem
  · exact apI_len _ _ _
  · intro i h1 h2
    have h3 := h i (by rw [hl]; omega)
    have e : (apI es (rangeL es.length) is)[i] = is.getD (sN es (rangeL es.length) i) .none := by simp [apI, sN]
    rw [e, h3]
    simp [h2]
end
/-- the names, turned -/
noncomputable def apN (p : List Int) : Option (List (Option (List Value))) → Option (List (Option (List Value)))
  | none => none
  | some ns => some (pick ns none p)
theorem pick_none (n : Nat) (p : List Int) : pick (List.replicate n (none : Option (List Value))) none p = List.replicate p.length none := by
  unfold pick
  rw [List.eq_replicate_iff]
  refine ⟨by simp, fun b hb => ?_⟩
  obtain ⟨k, _, rfl⟩ := List.mem_map.mp hb
  rw [List.getD_eq_getElem?_getD, List.getElem?_replicate]
  split <;> rfl
theorem nmOf_pick {n : Nat} {nm : Option (List (Option (List Value)))} {p : List Int} (h : NmOk n nm) (hp : p.Perm (rangeL n)) : nmOf (pick (nsOf n nm) none p) = apN p nm := by
  cases nm with
  | none =>
    show nmOf (pick (List.replicate n none) none p) = none
    rw [pick_none]
    unfold nmOf
    rw [if_pos]
    rw [List.all_eq_true]
    intro x hx
    rw [(List.mem_replicate.mp hx).2]; rfl
  | some ns =>
    obtain ⟨hl, hn, _⟩ := h
    show nmOf (pick ns none p) = some (pick ns none p)
    unfold nmOf
    rw [if_neg]
    intro hall
    have : ns.all (·.isNone) = true := by
      rw [List.all_eq_true] at hall ⊢
      intro x hx
      have e := pick_id ns none
      rw [hl] at e
      have hm : x ∈ pick ns none (rangeL n) := by rw [e]; exact hx
      exact hall x ((hp.map _).mem_iff.mpr hm)
    rw [this] at hn; cases hn
theorem NmOk.pick {n : Nat} {nm : Option (List (Option (List Value)))} {p : List Int} (h : NmOk n nm) (hp : p.Perm (rangeL n)) : NmOk n (apN p nm) := by
  cases nm with
  | none => trivial
  | some ns =>
    obtain ⟨hl, hn, hs⟩ := h
    have e := pick_id ns none
    rw [hl] at e
    have hperm : (Mine.pick ns none p).Perm ns := by
      have := hp.map (fun k : Int => ns.getD k.toNat none)
      exact this.trans (by rw [show (rangeL n).map (fun k : Int => ns.getD k.toNat none) = ns from e])
    refine ⟨by rw [hperm.length_eq]; exact hl, ?_, fun l hl => hs l (hperm.mem_iff.mp hl)⟩
    cases hb : (Mine.pick ns none p).all (·.isNone) with
    | false => rfl
    | true =>
      have : ns.all (·.isNone) = true := by
        rw [List.all_eq_true] at hb ⊢
        exact fun x hx => hb x (hperm.mem_iff.mpr hx)
      rw [this] at hn; cases hn
theorem apN_comp {nm : Option (List (Option (List Value)))} {p q : List Int} (hq : ∀ k ∈ q, 0 ≤ k ∧ k < (p.length : Int)) : apN q (apN p nm) = apN (pick p 0 q) nm := by
  cases nm with
  | none => rfl
  | some ns => exact congrArg some (pick_pick ns none p q hq)
theorem apN_id {n : Nat} {nm : Option (List (Option (List Value)))} (h : NmOk n nm) : apN (rangeL n) nm = nm := by
  cases nm with
  | none => rfl
  | some ns => exact congrArg some (by have e := pick_id ns none; rwa [h.1] at e)
end Mine
end
section
namespace Mine
open PySem PySem.W PySem.Calls PySem.Spec PyProof.Rows

/-- an array, its lists' places untold -/
noncomputable def AR (w : World) (At : Addr → Obj → Prop) (v : Value) (is ds : List Value) (nm : Option (List (Option (List Value)))) : Prop := ∃ iv dl, ArrIs w At v iv dl is ds nm
theorem AR.mono {w : World} {At At' : Addr → Obj → Prop} (hs : ∀ a o, At a o → At' a o) {v : Value} {is ds : List Value} {nm : Option (List (Option (List Value)))} : AR w At v is ds nm → AR w At' v is ds nm := fun ⟨iv, dl, h⟩ => ⟨iv, dl, h.mono hs⟩
/-- what is known of an array's items, extents, names -/
structure PF (is ds : List Value) (nm : Option (List (Option (List Value)))) (es : List Int) : Prop where
  hd : Hold (IntsAre ds es)
  hf : Few es
  h0 : 1 ≤ es.length
  hl : prodFrom 1 es = (is.length : Int)
  hi : ∃ ns, Hold (IntsAre is ns)
  hn : NmOk es.length nm
theorem ints_all : ∀ (l : List Value), (∀ v ∈ l, ∃ n t, v = .int n t) → ∃ ns, IntsAre l ns
  | [], _ => ⟨[], .nil⟩
  | v :: r, h => by
    obtain ⟨n, t, rfl⟩ := h v (.head _)
    obtain ⟨ns, hns⟩ := ints_all r fun x hx => h x (.tail _ hx)
    exact ⟨n :: ns, .cons n t hns⟩
section
variable {is ds : List Value} {nm : Option (List (Option (List Value)))} {es p q : List Int}
theorem PF.turn (h : PF is ds nm es) (hp : p.Perm (rangeL es.length)) : PF (apI es p is) (pick ds .none p) (apN p nm) (pick es 0 p) where
  hd := ⟨ints_pick h.hd.out (perm_in hp rfl)⟩
  hf := few_pick h.hf hp
  h0 := by rw [pick_len, hp.length_eq, rangeL_len]; exact h.h0
  hl := by rw [prod_pick h.hf h.h0 hp, apI_len]; exact h.hl
  hi := by
    obtain ⟨ns, hns⟩ := h.hi
    refine (ints_all _ fun v hv => ?_).imp fun _ h => ⟨h⟩
    obtain ⟨i, hi, rfl⟩ := List.mem_map.mp hv
    have hb := src_bound h.hf h.h0 hp (i := i) (by rw [h.hl]; have := List.mem_range.mp hi; omega)
    rw [h.hl] at hb
    have hm : is.getD (srcOf (pick es 0 p) (pick (stepsOf 1 es) 0 p) i 0).toNat .none ∈ is := getD_mem (by omega)
    obtain ⟨n, t, e⟩ := hns.out.all _ hm
    exact ⟨n, t, e⟩
  hn := by rw [pick_len, hp.length_eq, rangeL_len]; exact h.hn.pick hp
theorem PF.len (h : PF is ds nm es) : is.length ≤ 27 := by have := h.hf.prod; have := h.hl; omega
theorem PF.dlen (h : PF is ds nm es) : ds.length = es.length := h.hd.out.length
theorem PF.nsl (h : PF is ds nm es) : (nsOf es.length nm).length = es.length := by
  cases nm with
  | none => simp [nsOf]
  | some ns => exact h.hn.1
theorem PF.nsz (h : PF is ds nm es) : ∀ l, some l ∈ nsOf es.length nm → l.length ≤ 4096 := by
  intro l hl
  cases nm with
  | none => have := (List.mem_replicate.mp hl).2; cases this
  | some ns => have := (h.hn.2.2 l hl).1; omega
theorem allIn_perm {n : Nat} (hp : p.Perm (rangeL n)) : AllIn p := ⟨fun k h0 h1 => hp.mem_iff.mpr (rangeL_mem.mpr ⟨h0, by rw [hp.length_eq, rangeL_len] at h1; exact h1⟩)⟩
theorem PF.src (h : PF is ds nm es) (hp : p.Perm (rangeL es.length)) : ∀ i : Nat, i < is.length → 0 ≤ srcOf (pick es 0 p) (pick (stepsOf 1 es) 0 p) i 0 ∧ srcOf (pick es 0 p) (pick (stepsOf 1 es) 0 p) i 0 < (is.length : Int) := fun i hi => by
  have := src_bound h.hf h.h0 hp (i := i) (by rw [h.hl]; omega)
  rwa [h.hl] at this
end
theorem aperm_law (w : World) (v : Value) (lp : Addr) (is ds ps : List Value) (es p : List Int) (nm : Option (List (Option (List Value)))) (h : PF is ds nm es) (hp0 : Hold (IntsAre ps p)) (hp : p.Perm (rangeL es.length)) :
    Con w 20 183 [v, .ref lp] (fun h => AR w (hAt h) v is ds nm ∧ h.IsList lp ps.toArray) (fun r nx => AR w (lAt nx) r (apI es p is) (pick ds .none p) (apN p nm)) := by
  intro loose mean mg mb dp un gd cn cs a ccd cl outer A₀ base h₀ L m news s Q E B F X N T hck hd hu hpre hret
  obtain ⟨⟨iv, dl, hA⟩, hl⟩ := hpre
  refine aperm_con w v iv dl lp is ds ps es p nm h.hd h.hf hp0 (allIn_perm hp) (by rw [hp.length_eq, rangeL_len]) (perm_in hp rfl) h.len (h.src hp) h.nsl h.nsz loose mean mg mb dp un gd cn cs a ccd cl outer A₀ base h₀ L m news s Q E B F X N T hck hd hu ⟨hA, hl⟩ fun r nx h' tk' a b c d => hret r nx h' tk' a b c ?_
  obtain ⟨iv', dl', h'⟩ := d
  rw [nmOf_pick h.hn hp] at h'
  exact ⟨iv', dl', h'⟩
noncomputable def revL (n : Nat) : List Int := (rangeL n).reverse
theorem revL_perm (n : Nat) : (revL n).Perm (rangeL n) := List.reverse_perm _
theorem revL_eq {n : Nat} (h : n ≤ 3) : revL n = rangeInts ((n : Int) - 1) (-1) n := by
  have : n = 0 ∨ n = 1 ∨ n = 2 ∨ n = 3 := by omega
  rcases this with rfl | rfl | rfl | rfl <;> rfl
theorem aperm_lawN (w : World) (v : Value) (is ds : List Value) (es : List Int) (nm : Option (List (Option (List Value)))) (h : PF is ds nm es) :
    Con w 20 183 [v, .none] (fun h => AR w (hAt h) v is ds nm) (fun r nx => AR w (lAt nx) r (apI es (revL es.length) is) (pick ds .none (revL es.length)) (apN (revL es.length) nm)) := by
  intro loose mean mg mb dp un gd cn cs a ccd cl outer A₀ base h₀ L m news s Q E B F X N T hck hd hu hpre hret
  have hp := revL_perm es.length
  obtain ⟨iv, dl, hA⟩ := hpre
  refine aperm_none w v iv dl is ds es (revL es.length) nm h.hd h.hf (revL_eq h.hf.1) (allIn_perm hp) (by rw [hp.length_eq, rangeL_len]) (perm_in hp rfl) h.len (h.src hp) h.nsl h.nsz loose mean mg mb dp un gd cn cs a ccd cl outer A₀ base h₀ L m news s Q E B F X N T hck hd hu hA fun r nx h' tk' a b c d => hret r nx h' tk' a b c ?_
  obtain ⟨iv', dl', h'⟩ := d
  rw [nmOf_pick h.hn hp] at h'
  exact ⟨iv', dl', h'⟩
theorem seen_law (w : World) (v : Value) (is ds : List Value) (es : List Int) (nm : Option (List (Option (List Value)))) (h : PF is ds nm es) :
    Con w 4 214 [v] (fun h => AR w (hAt h) v is ds nm) (fun r nx => ∃ t, SeenIs (lAt nx) r (Str.ofString "integer") t is ds nm) := by
  intro loose mean mg mb dp un gd cn cs a ccd cl outer A₀ base h₀ L m news s Q E B F X N T hck hd hu hpre hret
  obtain ⟨iv, dl, t, av, h1, h2, h3⟩ := hpre
  have hnl : (nsOf 0 nm).length ≤ 8 := by
    cases nm with
    | none => exact Nat.zero_le _
    | some ns => have := h.hn.1; have := h.hf.1; show ns.length ≤ 8; omega
  have hnz : ∀ l, some l ∈ nsOf 0 nm → l.length ≤ 4096 := by
    cases nm with
    | none => intro l hl; exact nomatch hl
    | some ns => intro l hl; have := (h.hn.2.2 l hl).1; omega
  have hz := h.len
  have hz2 := h.dlen
  have hz3 := h.hf.1
  exact seen_con w v (Str.ofString "integer") t is ds nm (by omega) (by omega) hnl hnz loose mean mg mb dp un gd cn cs a ccd cl outer A₀ base h₀ L m news s Q E B F X N T hck hd hu ⟨iv, av, dl, h1, h2, h3⟩ fun r nx h' tk' a b c d => hret r nx h' tk' a b c ⟨t, d⟩

noncomputable def trIdx (r c : Nat) : List Nat := (List.range r).flatMap fun p => (List.range c).map fun q => q * r + p
theorem trItems_idx (is : List Value) (r c : Nat) : trItems is r c r = (trIdx r c).map fun j => is.getD j .none := by
  unfold trItems trIdx
  rw [List.map_flatMap]
  congr 1
  funext p
  simp [trRow]
noncomputable def chkT (r c : Nat) : Bool := trIdx r c == (List.range (r * c)).map (sN [(r : Int), (c : Int)] [1, 0])
theorem chkT_all : ([1, 2, 3].all fun r => [1, 2, 3].all fun c => chkT r c) = true := by decide +kernel
theorem tr_apI {is : List Value} {r c : Nat} (hr : 1 ≤ r ∧ r ≤ 3) (hc : 1 ≤ c ∧ c ≤ 3) (hl : is.length = r * c) : trItems is r c r = apI [(r : Int), (c : Int)] [1, 0] is := by
  have h1 : r ∈ [1, 2, 3] := by simp; omega
  have h2 : c ∈ [1, 2, 3] := by simp; omega
  have h := List.all_eq_true.mp (List.all_eq_true.mp chkT_all r h1) c h2
  unfold chkT at h
  rw [trItems_idx, eq_of_beq h, List.map_map]
  unfold apI
  rw [hl]
  rfl
theorem trans_law (w : World) (v : Value) (is ds : List Value) (es : List Int) (nm : Option (List (Option (List Value)))) (h : PF is ds nm es) (h2 : es.length = 2) :
    Con w 20 164 [v] (fun h => AR w (hAt h) v is ds nm) (fun r nx => AR w (lAt nx) r (apI es [1, 0] is) (pick ds .none [1, 0]) (apN [1, 0] nm)) := by
  intro loose mean mg mb dp un gd cn cs a ccd cl outer A₀ base h₀ L m news s Q E B F X N T hck hd hu hpre hret
  obtain ⟨iv, dl, hA⟩ := hpre
  have hdd := h.hd.out
  have hnsl := h.nsl
  have hnsz := h.nsz
  have hperm : ([1, 0] : List Int).Perm (rangeL es.length) := by rw [h2]; exact List.Perm.swap 0 1 []
  have hnp := nmOf_pick h.hn hperm
  match es, h2, h with
  | [e0, e1], _, h =>
    have hf0 := h.hf.2 e0 (.head _)
    have hf1 := h.hf.2 e1 (.tail _ (.head _))
    have hl := h.hl
    obtain ⟨r, rfl⟩ : ∃ r : Nat, e0 = (r : Int) := ⟨e0.toNat, by omega⟩
    obtain ⟨c, rfl⟩ : ∃ c : Nat, e1 = (c : Int) := ⟨e1.toNat, by omega⟩
    have hll : is.length = r * c := by
      have e : prodFrom 1 [(r : Int), (c : Int)] = ((r * c : Nat) : Int) := by simp [prodFrom]
      rw [e] at hl; exact_mod_cast hl.symm
    cases hdd with
    | cons _ t0 hdd =>
    cases hdd with
    | cons _ t1 hdd =>
    cases hdd
    obtain ⟨n0, n1, hnn⟩ : ∃ n0 n1, nsOf 2 nm = [n0, n1] := by
      have : (nsOf 2 nm).length = 2 := hnsl
      match nsOf 2 nm, this with
      | [a, b], _ => exact ⟨a, b, rfl⟩
    have hix : ∀ p q : Nat, p < r → q < c → q * r + p < is.length := by
      intro p q hp hq
      rw [hll]
      have h1 : q * r ≤ (c - 1) * r := Nat.mul_le_mul_right r (by omega)
      have h3 : (c - 1) * r + r = c * r := by rw [← Nat.succ_mul]; congr 1; omega
      have h4 : c * r = r * c := Nat.mul_comm c r
      omega
    refine trans_con w v iv dl is r c t0 t1 nm (by omega) (by omega) h.len hix n0 n1 hnn ?_ loose mean mg mb dp un gd cn cs a ccd cl outer A₀ base h₀ L m news s Q E B F X N T hck hd hu hA fun r' nx h' tk' a b c' d => hret r' nx h' tk' a b c' ?_
    · intro l hl
      have : some l ∈ nsOf 2 nm := by rw [hnn]; simp at hl ⊢; exact hl.symm
      exact hnsz l this
    · obtain ⟨iv', dl', h'⟩ := d
      rw [tr_apI (by omega) (by omega) hll] at h'
      have e : nmOf [n1, n0] = apN [1, 0] nm := by
        rw [← hnp]
        show nmOf [n1, n0] = nmOf (pick (nsOf 2 nm) none [1, 0])
        rw [hnn]; rfl
      rw [e] at h'
      exact ⟨iv', dl', h'⟩
end Mine
end
section
namespace Mine
open PySem PySem.W PySem.Calls PySem.Spec PyProof.Rows
noncomputable def vd : Value → PyData
  | .int n _ => .int n
  | .str x _ => .str x
  | _ => .none
noncomputable def PV (v : Value) : Prop := (∃ n t, v = .int n t) ∨ ∃ x t, v = .str x t ∧ PySem.PyData.strOk x = true
theorem PV.reads {h : Heap} {v : Value} (p : PV v) : Reads h v (vd v) [] := by
  rcases p with ⟨n, t, rfl⟩ | ⟨x, t, rfl, _⟩
  · exact .int n t
  · exact .str x t
theorem reads_all {h : Heap} : ∀ {l : List Value}, (∀ v ∈ l, PV v) → ReadsAll h l (l.map vd) []
  | [], _ => .nil
  | v :: r, p => .cons (as := []) (bs := []) (p v (.head _)).reads (reads_all fun x hx => p x (.tail _ hx))
theorem lay_all : ∀ {l : List Value}, (∀ v ∈ l, PV v) → PyData.canLayAll0 (l.map vd) = true
  | [], _ => rfl
  | v :: r, p => by
    have ih := lay_all fun x hx => p x (.tail _ hx)
    show (PyData.canLay0 (vd v) && PyData.canLayAll0 (r.map vd)) = true
    rw [ih, Bool.and_true]
    rcases p v (.head _) with ⟨n, t, rfl⟩ | ⟨x, t, rfl, ho⟩
    · rfl
    · exact ho
theorem depth_all : ∀ {l : List Value}, (∀ v ∈ l, PV v) → PyData.depthAll (l.map vd) = 0
  | [], _ => rfl
  | v :: r, p => by
    have ih := depth_all fun x hx => p x (.tail _ hx)
    show max (PyData.depth (vd v)) (PyData.depthAll (r.map vd)) = 0
    rw [ih]
    rcases p v (.head _) with ⟨n, t, rfl⟩ | ⟨x, t, rfl, _⟩ <;> rfl
theorem LstIs.reads {h : Heap} {v : Value} {vs : List Value} (x : LstIs (hAt h) v vs) (p : ∀ v ∈ vs, PV v) : ∃ as, Reads h v (.list (vs.map vd)) as := by
  obtain ⟨l, n, rfl, e⟩ := x
  exact ⟨_, reads_list_at e rfl rfl (reads_all p)⟩
noncomputable def rowD : Option (List Value) → PyData
  | none => .none
  | some l => .list (l.map vd)
noncomputable def nmD : Option (List (Option (List Value))) → PyData
  | none => .none
  | some ns => .list (ns.map rowD)
noncomputable def seenD (k : Str) (is ds : List Value) (nm : Option (List (Option (List Value)))) : PyData := .tuple [.str k, .list (is.map vd), .list (ds.map vd), nmD nm]
noncomputable def PVN (ns : List (Option (List Value))) : Prop := ∀ l, some l ∈ ns → ∀ v ∈ l, PV v
theorem RowsAre.reads {h : Heap} {rs : List Value} {ns : List (Option (List Value))} (x : RowsAre (hAt h) rs ns) : PVN ns → ∃ as, ReadsAll h rs (ns.map rowD) as := by
  induction x with
  | nil => exact fun _ => ⟨_, .nil⟩
  | @cons r rs n ns a _ ih =>
    intro p
    obtain ⟨as, ha⟩ := ih fun l hl => p l (.tail _ hl)
    cases n with
    | none => obtain rfl : r = .none := a; exact ⟨_, .cons .none ha⟩
    | some l =>
      obtain ⟨bs, hb⟩ := LstIs.reads a (p l (.head _))
      exact ⟨_, .cons hb ha⟩
theorem rows_lay : ∀ {ns : List (Option (List Value))}, PVN ns → PyData.canLayAll0 (ns.map rowD) = true
  | [], _ => rfl
  | n :: r, p => by
    have ih := rows_lay (ns := r) fun l hl => p l (.tail _ hl)
    show (PyData.canLay0 (rowD n) && PyData.canLayAll0 (r.map rowD)) = true
    rw [ih, Bool.and_true]
    cases n with
    | none => rfl
    | some l => exact lay_all (p l (.head _))
theorem rows_depth : ∀ {ns : List (Option (List Value))}, PVN ns → PyData.depthAll (ns.map rowD) ≤ 1
  | [], _ => Nat.zero_le _
  | n :: r, p => by
    have ih := rows_depth (ns := r) fun l hl => p l (.tail _ hl)
    show max (PyData.depth (rowD n)) (PyData.depthAll (r.map rowD)) ≤ 1
    have h1 : PyData.depth (rowD n) ≤ 1 := by
      cases n with
      | none => exact Nat.zero_le _
      | some l => show PyData.depthAll (l.map vd) + 1 ≤ 1; rw [depth_all (p l (.head _))]; exact Nat.le_refl _
    omega
structure PVs (k : Str) (is ds : List Value) (nm : Option (List (Option (List Value)))) : Prop where
  k : PySem.PyData.strOk k = true
  i : ∀ v ∈ is, PV v
  d : ∀ v ∈ ds, PV v
  n : PVN (nsOf 0 nm)
section
variable {k : Str} {is ds : List Value} {nm : Option (List (Option (List Value)))} (P : PVs k is ds nm)
include P
theorem seenD_lay : PyData.canLay0 (seenD k is ds nm) = true := by
  show (PyData.canLay0 (.str k) && (PyData.canLay0 (.list (is.map vd)) && (PyData.canLay0 (.list (ds.map vd)) && (PyData.canLay0 (nmD nm) && true)))) = true
  have h1 : PyData.canLay0 (.str k) = true := P.k
  have h2 : PyData.canLay0 (.list (is.map vd)) = true := lay_all P.i
  have h3 : PyData.canLay0 (.list (ds.map vd)) = true := lay_all P.d
  have h4 : PyData.canLay0 (nmD nm) = true := by
    cases nm with
    | none => rfl
    | some ns => exact rows_lay P.n
  rw [h1, h2, h3, h4]; rfl
theorem seenD_shaped : PySem.SeqAt.shaped (seenD k is ds nm) = true := by
  unfold PySem.SeqAt.shaped
  rw [seenD_lay P, Bool.true_and, decide_eq_true_eq]
  show max 0 (max (PyData.depthAll (is.map vd) + 1) (max (PyData.depthAll (ds.map vd) + 1) (max (PyData.depth (nmD nm)) 0))) + 1 ≤ 64
  rw [depth_all P.i, depth_all P.d]
  have h4 : PyData.depth (nmD nm) ≤ 2 := by
    cases nm with
    | none => exact Nat.zero_le _
    | some ns => show PyData.depthAll (ns.map rowD) + 1 ≤ 2; have := rows_depth P.n; exact Nat.succ_le_succ this
  omega
theorem SeenIs.reads {h : Heap} {r : Value} {t : Tok} (x : SeenIs (hAt h) r k t is ds nm) : ∃ as, Reads h r (seenD k is ds nm) as := by
  obtain ⟨a, l1, n1, l2, n2, nv, rfl, e, e1, e2, e3⟩ := x
  obtain ⟨b1, r1⟩ := LstIs.reads (v := .ref l1) ⟨l1, n1, rfl, e1⟩ P.i
  obtain ⟨b2, r2⟩ := LstIs.reads (v := .ref l2) ⟨l2, n2, rfl, e2⟩ P.d
  have r3 : ∃ as, Reads h nv (nmD nm) as := by
    cases nm with
    | none => obtain rfl : nv = .none := e3; exact ⟨_, .none⟩
    | some ns =>
      obtain ⟨rows, ⟨l, n, rfl, f⟩, g⟩ := e3
      obtain ⟨as, ha⟩ := g.reads P.n
      exact ⟨_, reads_list_at f rfl rfl ha⟩
  obtain ⟨b3, r3⟩ := r3
  exact ⟨_, reads_tuple_at e rfl rfl (.cons (.str k t) (.cons r1 (.cons r2 (.cons r3 .nil))))⟩
end
theorem PF.pvs {is ds : List Value} {nm : Option (List (Option (List Value)))} {es : List Int} (h : PF is ds nm es) : PVs (Str.ofString "integer") is ds nm where
  k := by decide +kernel
  i := fun v hv => by obtain ⟨ns, hns⟩ := h.hi; exact .inl (hns.out.all v hv)
  d := fun v hv => .inl (h.hd.out.all v hv)
  n := by
    intro l hl v hv
    cases nm with
    | none => exact nomatch hl
    | some ns => exact .inr ((h.hn.2.2 l hl).2 v hv)
section
variable {prog : Program} {w : World} {A : Around} {E : Value → Shared → Prop} {s : Shared} {a b : Value} {k : Str} {t t' : Tok} {is ds is' ds' : List Value} {nm nm' : Option (List (Option (List Value)))} {Q : Value → Shared → Prop}
theorem seen_ne (P : PVs k is ds nm) (hA : SeenIs (hAt s.heap) a k t is ds nm) (hB : SeenIs (hAt s.heap) b k t' is' ds' nm') (e : is' = is ∧ ds' = ds ∧ nm' = nm) (hu : A.units + 64 < cLine) (h : Q (.bool false) s) : wpAny (model prog w) A (compareOp .NotEq a b) Q E s := by
  obtain ⟨rfl, rfl, rfl⟩ := e
  obtain ⟨as, ra⟩ := SeenIs.reads P hA
  obtain ⟨bs, rb⟩ := SeenIs.reads P hB
  refine ne_dataH ra rb (seenD_shaped P) (seenD_shaped P) hu ?_
  rw [PySem.SeqAt.eqv_refl _ (seenD_lay P)]; exact h
theorem seen_eq (P : PVs k is ds nm) (hA : SeenIs (hAt s.heap) a k t is ds nm) (hB : SeenIs (hAt s.heap) b k t' is' ds' nm') (e : is' = is ∧ ds' = ds ∧ nm' = nm) (hu : A.units + 64 < cLine) (h : Q (.bool true) s) : wpAny (model prog w) A (compareOp .Eq a b) Q E s := by
  obtain ⟨rfl, rfl, rfl⟩ := e
  obtain ⟨as, ra⟩ := SeenIs.reads P hA
  obtain ⟨bs, rb⟩ := SeenIs.reads P hB
  refine eq_dataH ra rb (seenD_shaped P) (seenD_shaped P) hu ?_
  rw [PySem.SeqAt.eqv_refl _ (seenD_lay P)]; exact h
end
end Mine
end
section
namespace Mine
open PySem PySem.W PySem.Calls PySem.Spec PyProof.Rows
theorem SeenNm.mono {At At' : Addr → Obj → Prop} (hs : ∀ a o, At a o → At' a o) {nv : Value} : ∀ {nm : Option (List (Option (List Value)))}, SeenNm At nv nm → SeenNm At' nv nm
  | none => id
  | some _ => fun ⟨rows, a, b⟩ => ⟨rows, a.mono hs, b.mono hs⟩
theorem SeenIs.mono {At At' : Addr → Obj → Prop} (hs : ∀ a o, At a o → At' a o) {r : Value} {k : Str} {t : Tok} {is ds : List Value} {nm : Option (List (Option (List Value)))} : SeenIs At r k t is ds nm → SeenIs At' r k t is ds nm :=
  fun ⟨x, l1, n1, l2, n2, nv, e, a, b, c, d⟩ => ⟨x, l1, n1, l2, n2, nv, e, hs _ _ a, hs _ _ b, hs _ _ c, d.mono hs⟩
theorem order_sz {vs : List Value} {fs : List Int} {n : Nat} (h : Hold (IntsAre vs fs)) (hp : fs.Perm (rangeL n)) (hn : n ≤ 3) : vs.toArray.size ≤ sizeLine ∧ vs.length ≤ 4096 := by
  have h1 := h.out.length
  have h2 := hp.length_eq
  rw [rangeL_len] at h2
  rw [List.size_toArray, sizeLine_eq]
  omega
section
variable {prog : Program} {w : World} {A : Around} {E : Value → Shared → Prop} {s : Shared} {h₀ : Heap} {L : Addr} {news : List (Addr × Obj)}
theorem kb_itemN {d : Addr} {o : Obj} {kvs : List (Str × Value)} {k : Str} {t : Tok} {v : Value} {value slice : PySem.Expr} {Q : Value → Shared → Prop} (N : News h₀ L s.heap news) (hm : (d, o) ∈ news) (hd : o.IsDictOf (PySem.strKind prog w) kvs) (hl : valueAt kvs k = some v) (h : Q v { s with toks := s.toks + 1 })
    (hs : subscripted slice false (.ref d) (.str k t) = operate [.ref d, .str k t] (getItem (.ref d) (.str k t)) := by with_unfolding_all rfl) :
    wpAny (model prog w) A (subscriptTail value slice (.ref d) (.str k t)) Q E s :=
  have hD : s.heap.DictOf (PySem.strKind prog w) d kvs := Heap.dictOf_iff.mpr ⟨o, N.get hm, hd⟩
  tail_any hD.typeIs slot_dict_getitem.lookup (wpAny_getItem_of (strKind_is _ _ _ _) hD.mapOf hl h) hs
theorem lst_reads {h : Heap} {a : Addr} {vs : List Value} (x : h.IsList a vs.toArray) (P : ∀ v ∈ vs, PV v) : ∃ as, Reads h (.ref a) (.list (vs.map vd)) as := by
  obtain ⟨o, e1, e2, n, e3⟩ := x
  exact ⟨_, reads_list_at e1 e2 e3 (by simpa using reads_all P)⟩
theorem lst_lay {vs : List Value} (P : ∀ v ∈ vs, PV v) : PyData.canLay0 (.list (vs.map vd)) = true := lay_all P
theorem lst_shaped {vs : List Value} (P : ∀ v ∈ vs, PV v) : PySem.SeqAt.shaped (.list (vs.map vd)) = true := by
  unfold PySem.SeqAt.shaped
  rw [lst_lay P, Bool.true_and, decide_eq_true_eq]
  show PyData.depthAll (vs.map vd) + 1 ≤ 64
  rw [depth_all P]; decide
theorem lst_ne {a b : Addr} {vs : List Value} {Q : Value → Shared → Prop} (ha : s.heap.IsList a vs.toArray) (hb : s.heap.IsList b vs.toArray) (P : Hold (∀ v ∈ vs, PV v)) (hu : A.units + 64 < cLine) (h : Q (.bool false) s) : wpAny (model prog w) A (compareOp .NotEq (.ref a) (.ref b)) Q E s := by
  obtain ⟨as, ra⟩ := lst_reads ha P.out
  obtain ⟨bs, rb⟩ := lst_reads hb P.out
  refine ne_dataH ra rb (lst_shaped P.out) (lst_shaped P.out) hu ?_
  rw [PySem.SeqAt.eqv_refl _ (lst_lay P.out)]; exact h
theorem rows_ne {a b : Addr} {rs rs' : List Value} {ns : List (Option (List Value))} {Q : Value → Shared → Prop} (ha : s.heap.IsList a rs.toArray) (hb : s.heap.IsList b rs'.toArray) (x : RowsAre (hAt s.heap) rs ns) (y : RowsAre (hAt s.heap) rs' ns) (P : PVN ns) (hu : A.units + 64 < cLine) (h : Q (.bool false) s) : wpAny (model prog w) A (compareOp .NotEq (.ref a) (.ref b)) Q E s := by
  obtain ⟨o, e1, e2, n, e3⟩ := ha
  obtain ⟨o', f1, f2, n', f3⟩ := hb
  obtain ⟨as, ra⟩ := x.reads P
  obtain ⟨bs, rb⟩ := y.reads P
  have hsh : PySem.SeqAt.shaped (.list (ns.map rowD)) = true := by
    unfold PySem.SeqAt.shaped
    rw [show PyData.canLay0 (.list (ns.map rowD)) = true from rows_lay P, Bool.true_and, decide_eq_true_eq]
    show PyData.depthAll (ns.map rowD) + 1 ≤ 64
    have := rows_depth P; omega
  refine ne_dataH (reads_list_at e1 e2 e3 (by simpa using ra)) (reads_list_at f1 f2 f3 (by simpa using rb)) hsh hsh hu ?_
  rw [PySem.SeqAt.eqv_refl _ (show PyData.canLay0 (.list (ns.map rowD)) = true from rows_lay P)]; exact h
end
theorem pv_ints {vs : List Value} {ns : List Int} (h : IntsAre vs ns) : Hold (∀ v ∈ vs, PV v) := ⟨fun v hv => .inl (h.all v hv)⟩
theorem sub_w3 {α : Type} {d a b c : α} {K nx : List α} : ∀ p ∈ a :: b :: c :: K, p ∈ d :: a :: b :: c :: (K ++ nx) := by
  intro p hp
  simp only [List.mem_cons, List.mem_append] at hp ⊢
  rcases hp with h | h | h | h <;> simp [h]
noncomputable def invL (n : Nat) (p : List Int) : List Int := (rangeL n).map fun k => ((p.idxOf k : Nat) : Int)
noncomputable def chkV (n : Nat) (p : List Int) : Bool := (perms n).contains (invL n p) && pick p 0 (invL n p) == rangeL n && PyData.layable0 (.list (p.map .int))
theorem chkV0 : (perms 0).all (chkV 0) = true := by decide +kernel
theorem chkV1 : (perms 1).all (chkV 1) = true := by decide +kernel
theorem chkV2 : (perms 2).all (chkV 2) = true := by decide +kernel
theorem chkV3 : (perms 3).all (chkV 3) = true := by decide +kernel
theorem perms_perm {n : Nat} (hn : n ≤ 3) : ∀ p ∈ perms n, p.Perm (rangeL n) := by
  have : n = 0 ∨ n = 1 ∨ n = 2 ∨ n = 3 := by omega
  rcases this with rfl | rfl | rfl | rfl <;> decide +kernel
theorem chkV_all {n : Nat} {p : List Int} (hp : p.Perm (rangeL n)) (hn : n ≤ 3) : (invL n p).Perm (rangeL n) ∧ pick p 0 (invL n p) = rangeL n ∧ PyData.layable0 (.list (p.map .int)) = true := by
  have hm := perms_mem hp hn
  have h : chkV n p = true := by
    have : n = 0 ∨ n = 1 ∨ n = 2 ∨ n = 3 := by omega
    rcases this with rfl | rfl | rfl | rfl
    · exact List.all_eq_true.mp chkV0 p hm
    · exact List.all_eq_true.mp chkV1 p hm
    · exact List.all_eq_true.mp chkV2 p hm
    · exact List.all_eq_true.mp chkV3 p hm
  simp only [chkV, Bool.and_eq_true, beq_iff_eq, List.contains_iff_mem] at h
  exact ⟨perms_perm hn _ h.1.1, h.1.2, h.2⟩
theorem rangeL_succ (n : Nat) : rangeL (n + 1) = rangeL n ++ [(n : Int)] := by simp [rangeL, List.range_succ]
theorem invL_snoc {i : Nat} {p : List Int} : (rangeL (i + 1)).map (fun k => ((p.idxOf k : Nat) : Int)) = (rangeL i).map (fun k => ((p.idxOf k : Nat) : Int)) ++ [((p.idxOf (0 + (i : Int)) : Nat) : Int)] := by
  rw [rangeL_succ, List.map_append, Int.zero_add]; rfl
theorem rev_rev {n : Nat} (h : n ≤ 3) : pick (revL n) 0 (revL n) = rangeL n := by
  have : n = 0 ∨ n = 1 ∨ n = 2 ∨ n = 3 := by omega
  rcases this with rfl | rfl | rfl | rfl <;> decide
theorem rangeKs_L (n : Nat) : rangeKs 0 ((n : Int) - 0).toNat = rangeL n := by simp [rangeKs, rangeL]
theorem array_con2 (w : World) (c : Addr) (t : Tok) : ConM w 24 209 [.ref c, .int 2 t] c (fun r nx => ArrOut w (lAt nx) r 2) := array_con w c 2 t (by decide) (by decide)
theorem ints10 {t u : Tok} : Hold (IntsAre [Value.int 1 t, Value.int 0 u] [1, 0]) := ⟨.cons _ _ (.cons _ _ .nil)⟩
theorem mem_K {α : Type} {p : α} {K : List α} (h : p ∈ K) : p ∈ K ++ ([] : List α) := by simpa using h
theorem seen_ne' {prog : Program} {w : World} {A : Around} {E : Value → Shared → Prop} {s : Shared} {a b : Value} {k : Str} {t t' : Tok} {is ds is' ds' : List Value} {nm nm' : Option (List (Option (List Value)))} {Q : Value → Shared → Prop} (P : PVs k is ds nm) (hA : SeenIs (hAt s.heap) a k t is ds nm) (P' : PVs k is' ds' nm') (hB : SeenIs (hAt s.heap) b k t' is' ds' nm') (e : seenD k is' ds' nm' = seenD k is ds nm) (hu : A.units + 64 < cLine) (h : Q (.bool false) s) : wpAny (model prog w) A (compareOp .NotEq a b) Q E s := by
  obtain ⟨as, ra⟩ := SeenIs.reads P hA
  obtain ⟨bs, rb⟩ := SeenIs.reads P' hB
  rw [e] at rb
  refine ne_dataH ra rb (seenD_shaped P) (seenD_shaped P) hu ?_
  rw [PySem.SeqAt.eqv_refl _ (seenD_lay P)]; exact h
theorem perm10 : ([1, 0] : List Int).Perm (rangeL 2) := List.Perm.swap 0 1 []
theorem pick1010 : pick ([1, 0] : List Int) 0 [1, 0] = rangeL 2 := by decide
theorem ArK.mono {w : World} {At At' : Addr → Obj → Prop} (hs : ∀ a o, At a o → At' a o) {v : Value} {k : Str} {t : Tok} {is ds : List Value} {nm : Option (List (Option (List Value)))} : ArK w At v k t is ds nm → ArK w At' v k t is ds nm :=
  fun ⟨iv, av, dl, a, b, c⟩ => ⟨iv, av, dl, a.mono hs, b.mono hs, c.mono hs⟩
theorem pvs_row {zs : List Value} {k : Str} {i : Int} {a b : Tok} {j : Int} (hk : PySem.PyData.strOk k = true) (hz : Hold (∀ v ∈ zs, ∃ x t, v = .str x t ∧ PySem.PyData.strOk x = true)) {nm : Option (List (Option (List Value)))} (hn : PVN (nsOf 0 nm)) : PVs k zs [.int i a, .int j b] nm where
  k := hk
  i := fun v hv => .inr (hz.out v hv)
  d := by
    intro v hv
    rcases List.mem_cons.mp hv with rfl | hv
    · exact .inl ⟨_, _, rfl⟩
    · rw [List.mem_singleton.mp hv]; exact .inl ⟨_, _, rfl⟩
  n := hn
theorem sub_w9 {α : Type} {a b c d e f g h i j k : α} {K : List α} : ∀ p ∈ a :: b :: c :: d :: e :: f :: g :: h :: j :: K, p ∈ a :: b :: c :: f :: g :: h :: i :: j :: k :: (K ++ ([] : List α) ++ [d, e]) := by
  intro p hp
  simp only [List.mem_cons, List.mem_append, List.not_mem_nil, or_false, false_or] at hp ⊢
  rcases hp with h | h | h | h | h | h | h | h | h | h <;> simp [h]
theorem sub_w8 {α : Type} {x d e a b c : α} {K : List α} : ∀ p ∈ x :: d :: e :: a :: b :: c :: K, p ∈ e :: a :: b :: c :: (K ++ ([] : List α) ++ [x, d]) := by
  intro p hp
  simp only [List.mem_cons, List.mem_append, List.not_mem_nil, or_false] at hp ⊢
  rcases hp with h | h | h | h | h | h | h <;> simp [h]
theorem off_app {K nx : List (Addr × Obj)} {d : Addr} (h : ∀ p ∈ K, p.1 ≠ d) (h1 : ∀ p ∈ nx, p.1 ≠ d) : ∀ p ∈ K ++ nx, p.1 ≠ d := fun p hp => (List.mem_append.mp hp).elim (h p) (h1 p)
end Mine
end
section
open PySem PySem.W PySem.Calls PySem.Spec PyProof.Rows
theorem Mine.devW10b : (PySem.Challenge.rw_pq1314_01.foot = 6) → Mine.hd.heap_39 = Mine.hd.heap_39 := by
  k_fill
  intro _; rfl
namespace Mine
theorem regW10b_1 : True := by
  k_with_none
  k_with "m k_ne" => (refine neN ?_; (try dsimp only); first
    | with_reducible assumption
    | exact Ne.symm (by with_reducible assumption)
    | ((repeat (rename _ ∧ _ => q8z9; rcases q8z9 with ⟨_, _⟩)); first
      | with_reducible assumption
      | exact Ne.symm (by with_reducible assumption)
      | exact Nat.ne_of_gt (by with_reducible assumption)
      | exact Nat.ne_of_lt (by with_reducible assumption)))
  k_with "m k_all" => assumption
  k_with "m k_handed" => assumption
  k_with "m k_ne" => (refine neN ?_; (try dsimp only); first | with_reducible assumption | exact Ne.symm (by with_reducible assumption) | ((rename Apart _ _ => q9); first
  | (refine' apart_l q9 ?kaz9 ?kbz9; (case kaz9 => ((repeat (first | with_reducible exact List.mem_cons_self | with_reducible refine List.mem_cons_of_mem _ ?_)); done)); (case kbz9 => ((repeat (first | with_reducible exact List.mem_cons_self | with_reducible refine List.mem_cons_of_mem _ ?_)); done)))
  | (refine' apart_r q9 ?kaz9 ?kbz9; (case kaz9 => ((repeat (first | with_reducible exact List.mem_cons_self | with_reducible refine List.mem_cons_of_mem _ ?_)); done)); (case kbz9 => ((repeat (first | with_reducible exact List.mem_cons_self | with_reducible refine List.mem_cons_of_mem _ ?_)); done)))
  | (clear q9; k_ne)))
  k_with "m k_inst" => (refine' kb_inst ?Fz9 ?h1z9 ?h2z9; (case Fz9 => k_asm); (case h1z9 => assumption); (case h2z9 => assumption))
  k_with "m subscriptTail" => (k_here; (with_reducible show wpAny _ _ (subscriptTail _ _ (Value.ref _) (Value.str _ _)) _ _ _); k_dflt (refine' kb_item ?Fz9 ?oz9 ?dz9 ?lz9 ?_; (case Fz9 => k_asm); (case oz9 => assumption); (case dz9 => assumption); (case lz9 => first | assumption | rfl); k_whole))
  k_with "m compareOp In str ref" => (k_here; k_dflt (refine' kb_in ?Fz9 ?oz9 ?dz9 ?sz9 ?lz9 ?_; (case Fz9 => k_asm); (case oz9 => assumption); (case dz9 => assumption); (case sz9 => assumption); (case lz9 => first | assumption | rfl); k_whole))
  k_with "m compareOp NotIn str ref" => (k_here; k_dflt (refine' kb_notIn ?Fz9 ?oz9 ?dz9 ?sz9 ?lz9 ?_; (case Fz9 => k_asm); (case oz9 => assumption); (case dz9 => assumption); (case sz9 => assumption); (case lz9 => first | assumption | rfl); k_whole))
  k_with "m subscriptTail" => (k_here; (with_reducible show wpAny _ _ (subscriptTail _ _ (Value.ref _) (Value.int _ _)) _ _ _); k_dflt (refine' kb_lst ?lz9 ?az9 ?bz9 ?xz9 ?_; (case lz9 => is_list); (case xz9 => first | with_reducible assumption | assumption); (case az9 => omega); (case bz9 => omega); k_whole))
  k_with "m call builtin:len" => (k_here; (with_reducible show wpAny _ _ (call (Value.builtin "len") [Value.ref _]) _ _ _); k_dflt (refine' kb_len ?lz9 ?zz9 ?_; (case lz9 => is_list); (case zz9 => first | assumption | omega); k_whole))
  k_with "m k_all" => exact apart_all (by assumption) (by k_mem)
  k_with "m mul_fits" => first | exact PySem.IntMulOk.of_right (PySem.intBits_le_64 (by omega) (by omega)) | exact PySem.IntMulOk.of_left (PySem.intBits_le_64 (by omega) (by omega))
  k_with "m call type:range" => (k_here; (with_reducible show wpAny _ _ (call (Value.type _) [Value.int _ _]) _ _ _); k_dflt (refine' range1_rows ?Fz9 ?Nz9 ?_; (case Fz9 => k_asm); (case Nz9 => k_asm)); intro h'9 tk'9 t1'9 t2'9 t3'9 rg'9 F'9 N'9 rk'9; clear rk'9; (try k_sweep))
  k_with "m compareOp NotIn int ref" => (k_here; k_dflt (refine' ints_in ?lz9 ?iz9 ?mz9 ?_; (case lz9 => is_list); (case iz9 => exact Hold.out (by assumption)); (case mz9 => exact AllIn.out (by assumption) _ (by omega) (by omega)); k_whole))
  k_with "m is_list" => first | with_reducible assumption | exact News.isList (by k_asm) (by k_mem) | exact Fr.lst (by assumption) (by assumption)
  k_with "m loadName" => (k_here; k_dflt (refine' kb_ldn ?Fz9 ?vz9 ?_ ?az9 ?bz9; (case Fz9 => k_asm); (case az9 => rfl); (case bz9 => rfl); (case vz9 => rfl); k_whole))
  k_with "m pyIter ref" => (k_here; (with_reducible show wpAny _ _ (pyIter (Value.ref _)) (fun it s₂ => LoopAtV _ _ _ _ _ _ _ _ _ it s₂) _ _); refine Halt.out ?_)
  k_with "m CompSrc" => (refine Halt.out ?_)
  k_with "m CompSrcT" => (refine Halt.out ?_)
  k_with "m binaryOp Mod int int" => (k_here; refine mod_int' (by omega) ?_)
  k_with "m binaryOp FloorDiv int int" => (k_here; refine floordiv_int (by omega) ?_ (Or.inl (PyProof.noPylong_small (by omega))))
  k_with "m k_upd" => first | (refine' Spl.head ?az9; (case az9 => k_all)) | (refine' Spl.tail ?az9 ?bz9; (case az9 => k_ne); (case bz9 => k_upd))
  k_with "m subscriptTail Name Name ref int" => (k_here; (with_reducible show wpAny _ _ (subscriptTail _ _ (Value.ref _) (Value.int _ _)) _ _ _); k_dflt (refine' kb_lst ?lz9 ?az9 ?bz9 ?xz9 ?_; (case lz9 => is_list); (case xz9 => first | with_reducible assumption | assumption); (case az9 => omega); (case bz9 => omega); k_whole))
  k_with "m subscriptTail Name Subscript ref int" => (k_here; (with_reducible show wpAny _ _ (subscriptTail _ _ (Value.ref _) (Value.int _ _)) _ _ _); k_dflt (refine' kb_lst ?lz9 ?az9 ?bz9 ?xz9 ?_; (case lz9 => is_list); (case xz9 => first | with_reducible assumption | assumption); (case az9 => omega); (case bz9 => omega); k_whole))
  k_with "m subscriptTail Attribute Name Name ref int" => (k_here; (with_reducible show wpAny _ _ (subscriptTail _ _ (Value.ref _) (Value.int _ _)) _ _ _); k_dflt (refine' kb_lst ?lz9 ?az9 ?bz9 ?xz9 ?_; (case lz9 => is_list); (case xz9 => first | with_reducible assumption | assumption); (case az9 => omega); (case bz9 => omega); k_whole))
  k_with "m subscriptTail Name Constant ref int" => (k_here; (with_reducible show wpAny _ _ (subscriptTail _ _ (Value.ref _) (Value.int _ _)) _ _ _); k_dflt (refine' kb_lst ?lz9 ?az9 ?bz9 ?xz9 ?_; (case lz9 => is_list); (case xz9 => first | with_reducible assumption | assumption); (case az9 => omega); (case bz9 => omega); k_whole))
  k_with "m subscriptTail Attribute Name BinOp ref int" => (k_here; (with_reducible show wpAny _ _ (subscriptTail _ _ (Value.ref _) (Value.int _ _)) _ _ _); k_dflt (refine' kb_lst ?lz9 ?az9 ?bz9 ?xz9 ?_; (case lz9 => is_list); (case xz9 => first | with_reducible assumption | assumption); (case az9 => omega); (case bz9 => omega); k_whole))
  k_with "m subscriptTail Attribute Subscript Name ref int" => (k_here; (with_reducible show wpAny _ _ (subscriptTail _ _ (Value.ref _) (Value.int _ _)) _ _ _); k_dflt (refine' kb_lst ?lz9 ?az9 ?bz9 ?xz9 ?_; (case lz9 => is_list); (case xz9 => first | with_reducible assumption | assumption); (case az9 => omega); (case bz9 => omega); k_whole))
  k_with "m eval ListComp" => (k_here; first
  | (lct_look; k_dflt (refine LCt.ListComp_T (F₀ := by k_asm) (by with_unfolding_all rfl) (by decide) (by rfl) (by decide) (by rfl) ?_))
  | ((first | lcg_look | lcf_look); k_dflt (refine LCg.ListComp_U (F₀ := by k_asm) (by with_unfolding_all rfl) (by decide) (by rfl) (by decide) (by rfl) ?_)))
  k_with "m exec Assign cons ListComp" => (k_here; first
  | (lct_look; k_dflt (refine LCt.Assign_ListComp_T (F₀ := by k_asm) (by rfl) (by with_unfolding_all rfl) (by with_unfolding_all rfl) (by decide) (by rfl) (by decide) (by rfl) (by rfl) (by rfl) ?_))
  | ((first | lcg_look | lcf_look); k_dflt (refine LCg.Assign_ListComp_U (F₀ := by k_asm) (by rfl) (by with_unfolding_all rfl) (by with_unfolding_all rfl) (by decide) (by rfl) (by decide) (by rfl) (by rfl) (by rfl) ?_)))
  k_with "m call ref" => (k_here; (with_reducible show wpAny _ _ (call (Value.ref 197) [_, _]) _ _ _); k_dflt (refine' ConM.use (card_con _ _ _ _ ?h1z9 ?h2z9) _ _ _ _ _ _ _ _ _ _ _ _ _ _ _ _ _ _ _ _ _ _ _ _ ?Bz9 ?Fz9 ?Xz9 ?Nz9 ?Uz9 ?Cz9 ?Tz9 ?ckz9 ?hdz9 ?huz9 ?_; (case Bz9 => k_asm); (case Fz9 => k_asm); (case Xz9 => k_asm); (case Nz9 => k_asm); (case Uz9 => k_upd); (case Cz9 => assumption); (case Tz9 => k_asm); (case h1z9 => omega); (case h2z9 => omega); (case ckz9 => first | rfl | assumption); (case hdz9 => omega); (case huz9 => omega); k_whole); intro r'9 nx'9 h'9 tk'9 cs'9 n'9 F'9 N'9 C'9 ne'9 P'9; obtain ⟨hn'9, j'9, u'9, hr'9, hj1'9, hj2'9⟩ := P'9; subst hr'9; subst hn'9; (have nr'9 := Apart.mk ne'9); (replace N'9 := news_swap N'9); (try simp only [List.cons_append, List.nil_append] at N'9); clear ne'9; (try k_sweep))
  k_with "m call ref" => (k_here; (with_reducible show wpAny _ _ (call (Value.ref 190) [_]) _ _ _); k_dflt (refine' cards_con _ _ _ _ ?hiz9 ?hzz9 _ _ _ _ _ _ _ _ _ _ _ _ _ _ _ _ _ _ _ _ _ _ ?Bz9 ?Fz9 ?Xz9 ?Nz9 ?Tz9 ?ckz9 ?hdz9 ?huz9 ?hpz9 ?_; (case Bz9 => k_asm); (case Fz9 => k_asm); (case Xz9 => k_asm); (case Nz9 => k_asm); (case Tz9 => k_asm); (case hpz9 => is_list); (case hiz9 => assumption); (case hzz9 => assumption); (case ckz9 => first | rfl | assumption); (case hdz9 => omega); (case huz9 => omega); k_whole); intro r'9 nx'9 h'9 tk'9 F'9 N'9 ne'9 P'9; obtain ⟨lc'9, cs'9, n'9, hr'9, hn'9, C'9⟩ := P'9; subst hr'9; subst hn'9; (have nr'9 := Apart.mk ne'9); (replace N'9 := news_swap N'9); (try simp only [List.cons_append, List.nil_append] at N'9); clear ne'9; (try k_sweep))
  k_with "m call ref" => (k_here; (with_reducible show wpAny _ _ (call (Value.ref 209) [_, _]) _ _ _); k_dflt (refine' ConM.use (array_con _ _ _ _ ?h1z9 ?h2z9) _ _ _ _ _ _ _ _ _ _ _ _ _ _ _ _ _ _ _ _ _ _ _ _ ?Bz9 ?Fz9 ?Xz9 ?Nz9 ?Uz9 ?Cz9 ?Tz9 ?ckz9 ?hdz9 ?huz9 ?_; (case Bz9 => k_asm); (case Fz9 => k_asm); (case Xz9 => k_asm); (case Nz9 => k_asm); (case Uz9 => k_upd); (case Cz9 => assumption); (case Tz9 => k_asm); (case h1z9 => omega); (case h2z9 => omega); (case ckz9 => first | rfl | assumption); (case hdz9 => omega); (case huz9 => omega); k_whole); intro r'9 nx'9 h'9 tk'9 cs'9 n'9 F'9 N'9 C'9 ne'9 P'9; skip; (have nr'9 := Apart.mk ne'9); (replace N'9 := news_swap N'9); (try simp only [List.cons_append, List.nil_append] at N'9); clear ne'9; (try k_sweep))
  k_with "m call ref" => (k_here; (with_reducible show wpAny _ _ (call (Value.ref 204) [_, _]) _ _ _); k_dflt (refine' ConM.use (order_con _ _ _ _ ?h1z9 ?h2z9) _ _ _ _ _ _ _ _ _ _ _ _ _ _ _ _ _ _ _ _ _ _ _ _ ?Bz9 ?Fz9 ?Xz9 ?Nz9 ?Uz9 ?Cz9 ?Tz9 ?ckz9 ?hdz9 ?huz9 ?_; (case Bz9 => k_asm); (case Fz9 => k_asm); (case Xz9 => k_asm); (case Nz9 => k_asm); (case Uz9 => k_upd); (case Cz9 => assumption); (case Tz9 => k_asm); (case h1z9 => omega); (case h2z9 => omega); (case ckz9 => first | rfl | assumption); (case hdz9 => omega); (case huz9 => omega); k_whole); intro r'9 nx'9 h'9 tk'9 cs'9 n'9 F'9 N'9 C'9 ne'9 P'9; obtain ⟨l'9, nn'9, vs'9, fs'9, hr'9, hn'9, hi'9, hp'9⟩ := P'9; subst hr'9; subst hn'9; (have nr'9 := Apart.mk ne'9); (replace N'9 := news_swap N'9); (try simp only [List.cons_append, List.nil_append] at N'9); clear ne'9; (try k_sweep))
  k_with "m call ref" => (k_here; (with_reducible show wpAny _ _ (call (Value.ref 214) [_]) _ _ _); k_dflt (refine' seen_law _ _ _ _ _ _ ?pfz9 _ _ _ _ _ _ _ _ _ _ _ _ _ _ _ _ _ _ _ _ _ _ ?Bz9 ?Fz9 ?Xz9 ?Nz9 ?Tz9 ?ckz9 ?hdz9 ?huz9 ?hpz9 ?_; (case Bz9 => k_asm); (case Fz9 => k_asm); (case Xz9 => k_asm); (case Nz9 => k_asm); (case Tz9 => k_asm); (case hpz9 => (refine' AR.mono ?hsz9 ?xxz9; (case xxz9 => assumption); (case hsz9 => exact (fun a9 o9 h9 => News.get (by k_asm) (by simp only [List.mem_cons, List.mem_append, h9, true_or, or_true]))))); (case pfz9 => assumption); (case ckz9 => first | rfl | assumption); (case hdz9 => omega); (case huz9 => omega); k_whole); intro r'9 nx'9 h'9 tk'9 F'9 N'9 ne'9 P'9; obtain ⟨t'9, hS'9⟩ := P'9; (have hS0'9 := hS'9); obtain ⟨x'9, l1'9, n1'9, l2'9, n2'9, nv'9, hr'9, hm1'9, hm2'9, hm3'9, hm4'9⟩ := hS0'9; subst hr'9; (have nr'9 := Apart.mk ne'9); (replace N'9 := news_swap N'9); (try simp only [List.cons_append, List.nil_append] at N'9); clear ne'9; (try k_sweep))
  k_with "m call ref" => (k_here; (with_reducible show wpAny _ _ (call (Value.ref 183) [_, _]) _ _ _); k_dflt (refine' aperm_law _ _ _ _ _ _ _ _ _ ?pfz9 ?hp0z9 ?hp1z9 _ _ _ _ _ _ _ _ _ _ _ _ _ _ _ _ _ _ _ _ _ _ ?Bz9 ?Fz9 ?Xz9 ?Nz9 ?Tz9 ?ckz9 ?hdz9 ?huz9 ?hpz9 ?_; (case Bz9 => k_asm); (case Fz9 => k_asm); (case Xz9 => k_asm); (case Nz9 => k_asm); (case Tz9 => k_asm); (case hpz9 => refine' ⟨AR.mono ?hsz9 ?xxz9, ?llz9⟩; (case llz9 => is_list); (case xxz9 => assumption); (case hsz9 => exact (fun a9 o9 h9 => News.get (by k_asm) (by simp only [List.mem_cons, List.mem_append, h9, true_or, or_true])))); (case pfz9 => assumption); (case hp0z9 => first | assumption | exact ints10); (case hp1z9 => assumption); (case ckz9 => first | rfl | assumption); (case hdz9 => omega); (case huz9 => omega); k_whole); intro r'9 nx'9 h'9 tk'9 F'9 N'9 ne'9 P'9; skip; (have nr'9 := Apart.mk ne'9); (replace N'9 := news_swap N'9); (try simp only [List.cons_append, List.nil_append] at N'9); clear ne'9; (try k_sweep))
  k_with "m call ref" => (k_here; (with_reducible show wpAny _ _ (call (Value.ref 183) [_, _]) _ _ _); k_dflt (refine' aperm_lawN _ _ _ _ _ _ ?pfz9 _ _ _ _ _ _ _ _ _ _ _ _ _ _ _ _ _ _ _ _ _ _ ?Bz9 ?Fz9 ?Xz9 ?Nz9 ?Tz9 ?ckz9 ?hdz9 ?huz9 ?hpz9 ?_; (case Bz9 => k_asm); (case Fz9 => k_asm); (case Xz9 => k_asm); (case Nz9 => k_asm); (case Tz9 => k_asm); (case hpz9 => (refine' AR.mono ?hsz9 ?xxz9; (case xxz9 => assumption); (case hsz9 => exact (fun a9 o9 h9 => News.get (by k_asm) (by simp only [List.mem_cons, List.mem_append, h9, true_or, or_true]))))); (case pfz9 => assumption); (case ckz9 => first | rfl | assumption); (case hdz9 => omega); (case huz9 => omega); k_whole); intro r'9 nx'9 h'9 tk'9 F'9 N'9 ne'9 P'9; skip; (have nr'9 := Apart.mk ne'9); (replace N'9 := news_swap N'9); (try simp only [List.cons_append, List.nil_append] at N'9); clear ne'9; (try k_sweep))
  k_with "m call ref" => (k_here; (with_reducible show wpAny _ _ (call (Value.ref 164) [_]) _ _ _); k_dflt (refine' trans_law _ _ _ _ _ _ ?pfz9 ?h2z9 _ _ _ _ _ _ _ _ _ _ _ _ _ _ _ _ _ _ _ _ _ _ ?Bz9 ?Fz9 ?Xz9 ?Nz9 ?Tz9 ?ckz9 ?hdz9 ?huz9 ?hpz9 ?_; (case Bz9 => k_asm); (case Fz9 => k_asm); (case Xz9 => k_asm); (case Nz9 => k_asm); (case Tz9 => k_asm); (case hpz9 => (refine' AR.mono ?hsz9 ?xxz9; (case xxz9 => assumption); (case hsz9 => exact (fun a9 o9 h9 => News.get (by k_asm) (by simp only [List.mem_cons, List.mem_append, h9, true_or, or_true]))))); (case pfz9 => assumption); (case h2z9 => first | assumption | rfl); (case ckz9 => first | rfl | assumption); (case hdz9 => omega); (case huz9 => omega); k_whole); intro r'9 nx'9 h'9 tk'9 F'9 N'9 ne'9 P'9; skip; (have nr'9 := Apart.mk ne'9); (replace N'9 := news_swap N'9); (try simp only [List.cons_append, List.nil_append] at N'9); clear ne'9; (try k_sweep))
  k_with "m subscriptTail" => (k_here; (with_reducible show wpAny _ _ (subscriptTail _ _ (Value.ref _) (Value.str _ _)) _ _ _); k_dflt (refine' kb_itemN ?Nz9 ?mz9 ?dz9 ?lz9 ?_; (case Nz9 => k_asm); (case mz9 => k_mem); (case dz9 => assumption); (case lz9 => first | assumption | rfl); k_whole))
  k_with "m compareOp NotEq ref ref" => (k_here; (with_reducible show wpAny _ _ (compareOp CmpOp.NotEq (Value.ref _) (Value.ref _)) _ _ _); k_dflt (refine' lst_ne ?hAz9 ?hBz9 ?Pz9 ?uz9 ?_; (case hAz9 => is_list); (case hBz9 => is_list); (case Pz9 => assumption); (case uz9 => ke_room); k_whole))
  k_with "m compareOp NotEq ref ref" => (k_here; (with_reducible show wpAny _ _ (compareOp CmpOp.NotEq (Value.ref _) (Value.ref _)) _ _ _); k_dflt (refine' seen_ne ?Pz9 ?hAz9 ?hBz9 ?ez9 ?uz9 ?_; (case hAz9 => (refine' SeenIs.mono ?hsz9 ?xxz9; (case xxz9 => assumption); (case hsz9 => exact (fun a9 o9 h9 => News.get (by k_asm) (by simp only [List.mem_cons, List.mem_append, h9, true_or, or_true]))))); (case hBz9 => (refine' SeenIs.mono ?hsz9 ?xxz9; (case xxz9 => assumption); (case hsz9 => exact (fun a9 o9 h9 => News.get (by k_asm) (by simp only [List.mem_cons, List.mem_append, h9, true_or, or_true]))))); (case Pz9 => assumption); (case ez9 => first | assumption | exact ⟨rfl, rfl, rfl⟩); (case uz9 => ke_room); k_whole))
  k_with "m compareOp Eq ref ref" => (k_here; (with_reducible show wpAny _ _ (compareOp CmpOp.Eq (Value.ref _) (Value.ref _)) _ _ _); k_dflt (refine' seen_eq ?Pz9 ?hAz9 ?hBz9 ?ez9 ?uz9 ?_; (case hAz9 => (refine' SeenIs.mono ?hsz9 ?xxz9; (case xxz9 => assumption); (case hsz9 => exact (fun a9 o9 h9 => News.get (by k_asm) (by simp only [List.mem_cons, List.mem_append, h9, true_or, or_true]))))); (case hBz9 => (refine' SeenIs.mono ?hsz9 ?xxz9; (case xxz9 => assumption); (case hsz9 => exact (fun a9 o9 h9 => News.get (by k_asm) (by simp only [List.mem_cons, List.mem_append, h9, true_or, or_true]))))); (case Pz9 => assumption); (case ez9 => first | assumption | exact ⟨rfl, rfl, rfl⟩); (case uz9 => ke_room); k_whole))
  k_with "m k_all" => first | assumption | exact apart_all (by assumption) (by k_mem) | exact off_app (by k_all) (by k_all)
  k_with "m k_mem" => first | with_reducible assumption | with_reducible exact List.mem_cons_self | (with_reducible refine List.mem_cons_of_mem _ ?_; k_mem) | (with_reducible refine List.mem_append_left _ ?_; k_mem) | (with_reducible refine List.mem_append_right _ ?_; k_mem)
  k_with "m execs cons" => (k_here; with_reducible refine Halt.out ?_)
  k_with "m call ref" => (k_here; (with_reducible show wpAny _ _ (call (Value.ref 99) [_, _]) _ _ _); k_dflt (refine' vec_con _ _ _ ?hkz9 ?hiz9 _ _ _ _ _ _ _ _ _ _ _ _ _ _ _ _ _ _ _ _ _ _ ?Bz9 ?Fz9 ?Xz9 ?Nz9 ?Tz9 ?ckz9 ?hdz9 ?huz9 ?hpz9 ?_; (case Bz9 => k_asm); (case Fz9 => k_asm); (case Xz9 => k_asm); (case Nz9 => k_asm); (case Tz9 => k_asm); (case hpz9 => exact True.intro); (case hkz9 => k_handed); (case hiz9 => k_handed); (case ckz9 => first | rfl | assumption); (case hdz9 => omega); (case huz9 => omega); k_whole); intro r'9 nx'9 h'9 tk'9 F'9 N'9 ne'9 P'9; obtain ⟨x'9, d'9, t1'9, t2'9, t3'9, t4'9, t5'9, hr'9, hx'9, hn'9⟩ := P'9; subst hr'9; subst hn'9; replace hx'9 := neN hx'9; (have nr'9 := Apart.mk ne'9); (replace N'9 := news_swap N'9); (try simp only [List.cons_append, List.nil_append] at N'9); clear ne'9; (try k_sweep))
  k_with "m subscriptTail Constant Name str int" => (k_here; (with_reducible show wpAny _ _ (subscriptTail _ _ (Value.str _ _) (Value.int _ _)) _ _ _); k_dflt (refine' kb_abc ?az9 ?bz9 ?xz9 ?_; (case az9 => omega); (case bz9 => omega); (case xz9 => decide +kernel); k_whole); intro y'9 t'9 hl'9; (try dsimp only))
  k_with "m call type:str" => (k_here; (with_reducible show wpAny _ _ (call (Value.type "str") [Value.int _ _]) _ _ _); k_dflt (refine' kb_stri ?az9 ?bz9 ?_; (case az9 => omega); (case bz9 => omega); k_whole); intro y'9 t'9 hl'9 ho'9; (try dsimp only))
  k_with "m binaryOp Add str str" => (k_here; (with_reducible show wpAny _ _ (binaryOp _ (Value.str _ _) (Value.str _ _)) _ _ _); k_dflt (refine' kb_addstr ?az9 ?bz9 ?cz9 ?dz9 ?_; (case az9 => first | omega | exact Nat.le_of_ble_eq_true rfl | decide +kernel); (case bz9 => first | omega | exact Nat.le_of_ble_eq_true rfl | decide +kernel); (case cz9 => first | with_reducible assumption | exact ofString_ok' _ | exact item_ok (by omega) (by omega)); (case dz9 => first | with_reducible assumption | exact ofString_ok' _); k_whole); intro y'9 t'9 tk'9 ok'9; (try dsimp only))
  k_with "m eval Name" => (k_here; (with_reducible show wpAny _ _ (eval (Expr.Name _ _) (envX _ _ _ _ _ _)) _ _ _); k_dflt (refine' nameX_C ?Nz9 ?cz9 ?mz9 ?dz9 ?_ ?az9 ?bz9; (case az9 => rfl); (case bz9 => rfl); (case Nz9 => k_asm); (case cz9 => rfl); (case mz9 => k_mem); (case dz9 => k_asm); k_whole))
  k_with "m call ref" => (k_here; (with_reducible show wpAny _ _ (call (Value.ref 214) [_]) _ _ _); k_dflt (refine' seen_con _ _ _ _ _ _ _ ?hzz9 ?hzdz9 ?hnmz9 ?hnsz9 _ _ _ _ _ _ _ _ _ _ _ _ _ _ _ _ _ _ _ _ _ _ ?Bz9 ?Fz9 ?Xz9 ?Nz9 ?Tz9 ?ckz9 ?hdz9 ?huz9 ?hpz9 ?_; (case Bz9 => k_asm); (case Fz9 => k_asm); (case Xz9 => k_asm); (case Nz9 => k_asm); (case Tz9 => k_asm); (case hpz9 => refine' ArK.mono ?hsz9 ?xxz9; (case xxz9 => assumption); (case hsz9 => exact (fun a9 o9 h9 => News.get (by k_asm) (by simp only [List.mem_cons, List.mem_append, h9, true_or, or_true])))); (case hzz9 => first | assumption | omega); (case hzdz9 => first | assumption | exact Nat.le_of_ble_eq_true rfl); (case hnmz9 => first | assumption | exact Nat.le_of_ble_eq_true rfl); (case hnsz9 => assumption); (case ckz9 => first | rfl | assumption); (case hdz9 => omega); (case huz9 => omega); k_whole); intro r'9 nx'9 h'9 tk'9 F'9 N'9 ne'9 P'9; (have hS'9 := P'9); (have hS0'9 := P'9); obtain ⟨x'9, l1'9, n1'9, l2'9, n2'9, nv'9, hr'9, hm1'9, hm2'9, hm3'9, hm4'9⟩ := hS0'9; subst hr'9; (have nr'9 := Apart.mk ne'9); (replace N'9 := news_swap N'9); (try simp only [List.cons_append, List.nil_append] at N'9); clear ne'9; (try k_sweep))
  k_with "m call ref" => (k_here; (with_reducible show wpAny _ _ (call (Value.ref 164) [_]) _ _ _); k_dflt (refine' trans_vec1 _ _ _ _ _ ?hzz9 _ ?hznz9 _ _ _ _ _ _ _ _ _ _ _ _ _ _ _ _ _ _ _ _ _ _ ?Bz9 ?Fz9 ?Xz9 ?Nz9 ?Tz9 ?ckz9 ?hdz9 ?huz9 ?hpz9 ?_; (case Bz9 => k_asm); (case Fz9 => k_asm); (case Xz9 => k_asm); (case Nz9 => k_asm); (case Tz9 => k_asm); (case hpz9 => exact ⟨_, _, _, _, _, ⟨_, _, _, _, _, _, _, rfl, News.get (by k_asm) (by k_mem), News.get (by k_asm) (by k_mem)⟩, ⟨_, _, rfl, News.get (by k_asm) (by k_mem)⟩, ⟨_, _, rfl, News.get (by k_asm) (by k_mem), by assumption, by assumption⟩, ⟨_, _, _, _, _, _, _, rfl, News.get (by k_asm) (by k_mem), News.get (by k_asm) (by k_mem)⟩, ⟨_, _, rfl, News.get (by k_asm) (by k_mem)⟩⟩); (case hzz9 => omega); (case hznz9 => omega); (case ckz9 => first | rfl | assumption); (case hdz9 => omega); (case huz9 => omega); k_whole); intro r'9 nx'9 h'9 tk'9 F'9 N'9 ne'9 P'9; obtain ⟨ta'9, tb'9, hAK'9⟩ := P'9; (have nr'9 := Apart.mk ne'9); (replace N'9 := news_swap N'9); (try simp only [List.cons_append, List.nil_append] at N'9); clear ne'9; (try k_sweep))
  k_with "m compareOp NotEq ref ref" => (k_here; (with_reducible show wpAny _ _ (compareOp CmpOp.NotEq (Value.ref _) (Value.ref _)) _ _ _); refine Halt.out ?_)
  trivial
set_option maxHeartbeats 4000000 in
theorem law_w10b {w : World} {name qual : Str} {params : Arguments} {body : List Stmt} {scope : Scope} {dV kV doc pm cdv ct oc : Value} {an od : Option Addr} {osl : Array (Option Value)}
    (ho : (hd.heap_39 w.params).lookup 219 = some ⟨oc, od, .func (fnOf name qual params body scope dV kV doc pm an cdv ct), osl⟩)
    (loose : List Str) (mean : ExcName → Option Value) (mg mb : Str → Option Value) (dp un : Nat) (gd : Option (List Code)) (outer : List Env) (A₀ : Around) (base H : Heap) (L' fa : Addr) (cdv' : Value) (s : Shared) (oH : Obj) (c lg hx l xr dr D Dh Lc dd xn dn : Addr) (od : Obj) (zs hs : List Value) (z nL : Nat) (K : List (Addr × Obj)) (v spun rv mv : Value) (is ds : List Value) (nm : Option (List (Option (List Value)))) (es : List Int) (th tw tz tkr u1 u2 u3 u4 u5 tn y1 y2 y3 y4 y5 : Nat) (Q : Flow → Shared → Prop)
    (B : Below A₀ base outer H) (X : (hd.heap_39 w.params).In H) (T : Top hd.view_39 loose mean mg mb H) (hd' : dp + 40 < recursionLimit) (hu : un + 400 < cLine) (F : Fr H L' s.heap (fun y => List.lookup y [(Str.ofString "heads", .ref Dh), (Str.ofString "heads", .none), (Str.ofString "row", .ref xr), (Str.ofString "size_of", .int (z : Int) tz), (Str.ofString "m", mv), (Str.ofString "reverse_one", rv), (Str.ofString "spun", spun), (Str.ofString "second", .ref lg), (Str.ofString "v", v), (Str.ofString "wide", .int (es.length : Int) tw), (Str.ofString "cards", .ref c), (Str.ofString "script", .ref l)]))
    (N : News H L' s.heap ((Lc, W.listOf hs.toArray nL) :: (dd, od) :: (Dh, LCg.lst hs) :: (xn, instObj 99 dn) :: (dn, vecD w y1 y2 y3 y4 y5 (.str (Str.ofString "character") tn) (.ref Lc) .none) :: (xr, instObj 99 dr) :: (dr, vecD w u1 u2 u3 u4 u5 (.str (Str.ofString "character") tkr) (.ref D) (.ref dd)) :: (D, LCg.lst zs) :: (L' + 1, oH) :: K)) (dH : oH.data = .cell (some (.ref hx)))
    (hPv : PF is ds nm es) (hAv : AR w (lAt K) v is ds nm) (hheld : SeenIs (lAt K) (.ref hx) (Str.ofString "integer") th is ds nm)
    (hdict : Obj.IsDictOf (SDk w) od [(Str.ofString "names", .ref xn)]) (hsys : (dd == sysModules) = false) (hz : z < 4) (hzl : zs.length = z) (hhl : hs.length = z) (hzs : Hold (∀ v ∈ zs, ∃ x t, v = .str x t ∧ PySem.PyData.strOk x = true)) (hhs : Hold (∀ v ∈ hs, ∃ x t, v = .str x t ∧ PySem.PyData.strOk x = true))
    (hret : ∀ h' tk' m', Fr H L' h' m' → Q (.ret (.bool true)) { s with heap := h', toks := tk' }) :
    wpAny (model PySem.Challenge.rw_pq1314_01.row.prog w) (ktrTop dp un gd qual scope L' fa cdv' (cellsFrom (L' + 1) scope.names []) outer) (execs (body.drop 19) (envX qual scope L' fa cdv' (cellsFrom (L' + 1) scope.names []))) Q (fun _ _ => False) s := by

  have ho0 := ho
  cases ho
  have hVv := hPv.pvs
  subst hzl
  have hns0 : ∀ l : List Value, some l ∈ nsOf 0 (nmOf [(none : Option (List Value)), some hs]) → l.length ≤ 4096 := by
    intro l hl
    rcases List.mem_cons.mp hl with h | h
    · cases h
    · have := List.mem_singleton.mp h; cases this; omega
  have hpn : PVN (nsOf 0 (nmOf [(none : Option (List Value)), some hs])) := by
    intro l hl v hv
    rcases List.mem_cons.mp hl with h | h
    · cases h
    · have := List.mem_singleton.mp h; cases this; exact .inr (hhs.out v hv)
  refine wpAny_execs_cons ?_
  k_steps
  (rename Fr _ _ _ _ => F2); (rename News _ _ _ _ => N2)
  refine ⟨?_⟩
  refine wpAny_execs_cons ?_
  k_steps
  (rename Fr _ _ _ _ => F2); (rename News _ _ _ _ => N2); (rename SeenIs _ _ _ _ _ _ _ => hS)
  refine ⟨?_⟩
  refine seen_ne' (k := Str.ofString "character") (is' := zs) (ds' := [.int 1 _, .int (zs.length : Int) _]) (nm' := nmOf [none, some hs]) (pvs_row (by decide +kernel) hzs hpn) (hS.mono ?hs) (pvs_row (by decide +kernel) hzs hpn) ⟨_, _, _, _, _, _, rfl, N2.get (.head _), N2.get (.tail _ (.tail _ (.tail _ (.tail _ (.tail _ (.tail _ (.tail _ (.tail _ (.tail _ (.tail _ (.head _))))))))))), N2.get (.tail _ (.tail _ (.head _))), (show SeenNm _ _ (some [none, some hs]) from ⟨[.none, .ref Dh], ⟨_, _, rfl, N2.get (.tail _ (.head _))⟩, .cons rfl (.cons ⟨_, _, rfl, N2.get (.tail _ (.tail _ (.tail _ (.tail _ (.tail _ (.head _))))))⟩ .nil)⟩)⟩ rfl (show un + 64 < cLine by omega) ?_
  case hs => exact fun a9 o9 h9 => News.get N2 (by simp only [List.mem_cons, List.mem_append, h9, true_or, or_true])
  k_steps
  refine ⟨?_⟩
  refine wpAny_execs_cons ?_
  k_steps
  (rename Fr _ _ _ _ => F2)
  exact hret _ _ _ F2
end Mine
end
section
open PySem PySem.W PySem.Calls PySem.Spec PyProof.Rows
theorem Mine.devW10a : (PySem.Challenge.rw_pq1314_01.foot = 6) → Mine.hd.heap_39 = Mine.hd.heap_39 := by
  k_fill
  intro _; rfl
namespace Mine
theorem regW10a_1 : True := by
  k_with_none
  k_with "m k_ne" => (refine neN ?_; (try dsimp only); first
    | with_reducible assumption
    | exact Ne.symm (by with_reducible assumption)
    | ((repeat (rename _ ∧ _ => q8z9; rcases q8z9 with ⟨_, _⟩)); first
      | with_reducible assumption
      | exact Ne.symm (by with_reducible assumption)
      | exact Nat.ne_of_gt (by with_reducible assumption)
      | exact Nat.ne_of_lt (by with_reducible assumption)))
  k_with "m k_all" => assumption
  k_with "m k_handed" => assumption
  k_with "m k_ne" => (refine neN ?_; (try dsimp only); first | with_reducible assumption | exact Ne.symm (by with_reducible assumption) | ((rename Apart _ _ => q9); first
  | (refine' apart_l q9 ?kaz9 ?kbz9; (case kaz9 => ((repeat (first | with_reducible exact List.mem_cons_self | with_reducible refine List.mem_cons_of_mem _ ?_)); done)); (case kbz9 => ((repeat (first | with_reducible exact List.mem_cons_self | with_reducible refine List.mem_cons_of_mem _ ?_)); done)))
  | (refine' apart_r q9 ?kaz9 ?kbz9; (case kaz9 => ((repeat (first | with_reducible exact List.mem_cons_self | with_reducible refine List.mem_cons_of_mem _ ?_)); done)); (case kbz9 => ((repeat (first | with_reducible exact List.mem_cons_self | with_reducible refine List.mem_cons_of_mem _ ?_)); done)))
  | (clear q9; k_ne)))
  k_with "m k_inst" => (refine' kb_inst ?Fz9 ?h1z9 ?h2z9; (case Fz9 => k_asm); (case h1z9 => assumption); (case h2z9 => assumption))
  k_with "m subscriptTail" => (k_here; (with_reducible show wpAny _ _ (subscriptTail _ _ (Value.ref _) (Value.str _ _)) _ _ _); k_dflt (refine' kb_item ?Fz9 ?oz9 ?dz9 ?lz9 ?_; (case Fz9 => k_asm); (case oz9 => assumption); (case dz9 => assumption); (case lz9 => first | assumption | rfl); k_whole))
  k_with "m compareOp In str ref" => (k_here; k_dflt (refine' kb_in ?Fz9 ?oz9 ?dz9 ?sz9 ?lz9 ?_; (case Fz9 => k_asm); (case oz9 => assumption); (case dz9 => assumption); (case sz9 => assumption); (case lz9 => first | assumption | rfl); k_whole))
  k_with "m compareOp NotIn str ref" => (k_here; k_dflt (refine' kb_notIn ?Fz9 ?oz9 ?dz9 ?sz9 ?lz9 ?_; (case Fz9 => k_asm); (case oz9 => assumption); (case dz9 => assumption); (case sz9 => assumption); (case lz9 => first | assumption | rfl); k_whole))
  k_with "m subscriptTail" => (k_here; (with_reducible show wpAny _ _ (subscriptTail _ _ (Value.ref _) (Value.int _ _)) _ _ _); k_dflt (refine' kb_lst ?lz9 ?az9 ?bz9 ?xz9 ?_; (case lz9 => is_list); (case xz9 => first | with_reducible assumption | assumption); (case az9 => omega); (case bz9 => omega); k_whole))
  k_with "m call builtin:len" => (k_here; (with_reducible show wpAny _ _ (call (Value.builtin "len") [Value.ref _]) _ _ _); k_dflt (refine' kb_len ?lz9 ?zz9 ?_; (case lz9 => is_list); (case zz9 => first | assumption | omega); k_whole))
  k_with "m k_all" => exact apart_all (by assumption) (by k_mem)
  k_with "m mul_fits" => first | exact PySem.IntMulOk.of_right (PySem.intBits_le_64 (by omega) (by omega)) | exact PySem.IntMulOk.of_left (PySem.intBits_le_64 (by omega) (by omega))
  k_with "m call type:range" => (k_here; (with_reducible show wpAny _ _ (call (Value.type _) [Value.int _ _]) _ _ _); k_dflt (refine' range1_rows ?Fz9 ?Nz9 ?_; (case Fz9 => k_asm); (case Nz9 => k_asm)); intro h'9 tk'9 t1'9 t2'9 t3'9 rg'9 F'9 N'9 rk'9; clear rk'9; (try k_sweep))
  k_with "m compareOp NotIn int ref" => (k_here; k_dflt (refine' ints_in ?lz9 ?iz9 ?mz9 ?_; (case lz9 => is_list); (case iz9 => exact Hold.out (by assumption)); (case mz9 => exact AllIn.out (by assumption) _ (by omega) (by omega)); k_whole))
  k_with "m is_list" => first | with_reducible assumption | exact News.isList (by k_asm) (by k_mem) | exact Fr.lst (by assumption) (by assumption)
  k_with "m loadName" => (k_here; k_dflt (refine' kb_ldn ?Fz9 ?vz9 ?_ ?az9 ?bz9; (case Fz9 => k_asm); (case az9 => rfl); (case bz9 => rfl); (case vz9 => rfl); k_whole))
  k_with "m pyIter ref" => (k_here; (with_reducible show wpAny _ _ (pyIter (Value.ref _)) (fun it s₂ => LoopAtV _ _ _ _ _ _ _ _ _ it s₂) _ _); refine Halt.out ?_)
  k_with "m CompSrc" => (refine Halt.out ?_)
  k_with "m CompSrcT" => (refine Halt.out ?_)
  k_with "m binaryOp Mod int int" => (k_here; refine mod_int' (by omega) ?_)
  k_with "m binaryOp FloorDiv int int" => (k_here; refine floordiv_int (by omega) ?_ (Or.inl (PyProof.noPylong_small (by omega))))
  k_with "m k_upd" => first | (refine' Spl.head ?az9; (case az9 => k_all)) | (refine' Spl.tail ?az9 ?bz9; (case az9 => k_ne); (case bz9 => k_upd))
  k_with "m subscriptTail Name Name ref int" => (k_here; (with_reducible show wpAny _ _ (subscriptTail _ _ (Value.ref _) (Value.int _ _)) _ _ _); k_dflt (refine' kb_lst ?lz9 ?az9 ?bz9 ?xz9 ?_; (case lz9 => is_list); (case xz9 => first | with_reducible assumption | assumption); (case az9 => omega); (case bz9 => omega); k_whole))
  k_with "m subscriptTail Name Subscript ref int" => (k_here; (with_reducible show wpAny _ _ (subscriptTail _ _ (Value.ref _) (Value.int _ _)) _ _ _); k_dflt (refine' kb_lst ?lz9 ?az9 ?bz9 ?xz9 ?_; (case lz9 => is_list); (case xz9 => first | with_reducible assumption | assumption); (case az9 => omega); (case bz9 => omega); k_whole))
  k_with "m subscriptTail Attribute Name Name ref int" => (k_here; (with_reducible show wpAny _ _ (subscriptTail _ _ (Value.ref _) (Value.int _ _)) _ _ _); k_dflt (refine' kb_lst ?lz9 ?az9 ?bz9 ?xz9 ?_; (case lz9 => is_list); (case xz9 => first | with_reducible assumption | assumption); (case az9 => omega); (case bz9 => omega); k_whole))
  k_with "m subscriptTail Name Constant ref int" => (k_here; (with_reducible show wpAny _ _ (subscriptTail _ _ (Value.ref _) (Value.int _ _)) _ _ _); k_dflt (refine' kb_lst ?lz9 ?az9 ?bz9 ?xz9 ?_; (case lz9 => is_list); (case xz9 => first | with_reducible assumption | assumption); (case az9 => omega); (case bz9 => omega); k_whole))
  k_with "m subscriptTail Attribute Name BinOp ref int" => (k_here; (with_reducible show wpAny _ _ (subscriptTail _ _ (Value.ref _) (Value.int _ _)) _ _ _); k_dflt (refine' kb_lst ?lz9 ?az9 ?bz9 ?xz9 ?_; (case lz9 => is_list); (case xz9 => first | with_reducible assumption | assumption); (case az9 => omega); (case bz9 => omega); k_whole))
  k_with "m subscriptTail Attribute Subscript Name ref int" => (k_here; (with_reducible show wpAny _ _ (subscriptTail _ _ (Value.ref _) (Value.int _ _)) _ _ _); k_dflt (refine' kb_lst ?lz9 ?az9 ?bz9 ?xz9 ?_; (case lz9 => is_list); (case xz9 => first | with_reducible assumption | assumption); (case az9 => omega); (case bz9 => omega); k_whole))
  k_with "m eval ListComp" => (k_here; first
  | (lct_look; k_dflt (refine LCt.ListComp_T (F₀ := by k_asm) (by with_unfolding_all rfl) (by decide) (by rfl) (by decide) (by rfl) ?_))
  | ((first | lcg_look | lcf_look); k_dflt (refine LCg.ListComp_U (F₀ := by k_asm) (by with_unfolding_all rfl) (by decide) (by rfl) (by decide) (by rfl) ?_)))
  k_with "m exec Assign cons ListComp" => (k_here; first
  | (lct_look; k_dflt (refine LCt.Assign_ListComp_T (F₀ := by k_asm) (by rfl) (by with_unfolding_all rfl) (by with_unfolding_all rfl) (by decide) (by rfl) (by decide) (by rfl) (by rfl) (by rfl) ?_))
  | ((first | lcg_look | lcf_look); k_dflt (refine LCg.Assign_ListComp_U (F₀ := by k_asm) (by rfl) (by with_unfolding_all rfl) (by with_unfolding_all rfl) (by decide) (by rfl) (by decide) (by rfl) (by rfl) (by rfl) ?_)))
  k_with "m call ref" => (k_here; (with_reducible show wpAny _ _ (call (Value.ref 197) [_, _]) _ _ _); k_dflt (refine' ConM.use (card_con _ _ _ _ ?h1z9 ?h2z9) _ _ _ _ _ _ _ _ _ _ _ _ _ _ _ _ _ _ _ _ _ _ _ _ ?Bz9 ?Fz9 ?Xz9 ?Nz9 ?Uz9 ?Cz9 ?Tz9 ?ckz9 ?hdz9 ?huz9 ?_; (case Bz9 => k_asm); (case Fz9 => k_asm); (case Xz9 => k_asm); (case Nz9 => k_asm); (case Uz9 => k_upd); (case Cz9 => assumption); (case Tz9 => k_asm); (case h1z9 => omega); (case h2z9 => omega); (case ckz9 => first | rfl | assumption); (case hdz9 => omega); (case huz9 => omega); k_whole); intro r'9 nx'9 h'9 tk'9 cs'9 n'9 F'9 N'9 C'9 ne'9 P'9; obtain ⟨hn'9, j'9, u'9, hr'9, hj1'9, hj2'9⟩ := P'9; subst hr'9; subst hn'9; (have nr'9 := Apart.mk ne'9); (replace N'9 := news_swap N'9); (try simp only [List.cons_append, List.nil_append] at N'9); clear ne'9; (try k_sweep))
  k_with "m call ref" => (k_here; (with_reducible show wpAny _ _ (call (Value.ref 190) [_]) _ _ _); k_dflt (refine' cards_con _ _ _ _ ?hiz9 ?hzz9 _ _ _ _ _ _ _ _ _ _ _ _ _ _ _ _ _ _ _ _ _ _ ?Bz9 ?Fz9 ?Xz9 ?Nz9 ?Tz9 ?ckz9 ?hdz9 ?huz9 ?hpz9 ?_; (case Bz9 => k_asm); (case Fz9 => k_asm); (case Xz9 => k_asm); (case Nz9 => k_asm); (case Tz9 => k_asm); (case hpz9 => is_list); (case hiz9 => assumption); (case hzz9 => assumption); (case ckz9 => first | rfl | assumption); (case hdz9 => omega); (case huz9 => omega); k_whole); intro r'9 nx'9 h'9 tk'9 F'9 N'9 ne'9 P'9; obtain ⟨lc'9, cs'9, n'9, hr'9, hn'9, C'9⟩ := P'9; subst hr'9; subst hn'9; (have nr'9 := Apart.mk ne'9); (replace N'9 := news_swap N'9); (try simp only [List.cons_append, List.nil_append] at N'9); clear ne'9; (try k_sweep))
  k_with "m call ref" => (k_here; (with_reducible show wpAny _ _ (call (Value.ref 209) [_, _]) _ _ _); k_dflt (refine' ConM.use (array_con _ _ _ _ ?h1z9 ?h2z9) _ _ _ _ _ _ _ _ _ _ _ _ _ _ _ _ _ _ _ _ _ _ _ _ ?Bz9 ?Fz9 ?Xz9 ?Nz9 ?Uz9 ?Cz9 ?Tz9 ?ckz9 ?hdz9 ?huz9 ?_; (case Bz9 => k_asm); (case Fz9 => k_asm); (case Xz9 => k_asm); (case Nz9 => k_asm); (case Uz9 => k_upd); (case Cz9 => assumption); (case Tz9 => k_asm); (case h1z9 => omega); (case h2z9 => omega); (case ckz9 => first | rfl | assumption); (case hdz9 => omega); (case huz9 => omega); k_whole); intro r'9 nx'9 h'9 tk'9 cs'9 n'9 F'9 N'9 C'9 ne'9 P'9; skip; (have nr'9 := Apart.mk ne'9); (replace N'9 := news_swap N'9); (try simp only [List.cons_append, List.nil_append] at N'9); clear ne'9; (try k_sweep))
  k_with "m call ref" => (k_here; (with_reducible show wpAny _ _ (call (Value.ref 204) [_, _]) _ _ _); k_dflt (refine' ConM.use (order_con _ _ _ _ ?h1z9 ?h2z9) _ _ _ _ _ _ _ _ _ _ _ _ _ _ _ _ _ _ _ _ _ _ _ _ ?Bz9 ?Fz9 ?Xz9 ?Nz9 ?Uz9 ?Cz9 ?Tz9 ?ckz9 ?hdz9 ?huz9 ?_; (case Bz9 => k_asm); (case Fz9 => k_asm); (case Xz9 => k_asm); (case Nz9 => k_asm); (case Uz9 => k_upd); (case Cz9 => assumption); (case Tz9 => k_asm); (case h1z9 => omega); (case h2z9 => omega); (case ckz9 => first | rfl | assumption); (case hdz9 => omega); (case huz9 => omega); k_whole); intro r'9 nx'9 h'9 tk'9 cs'9 n'9 F'9 N'9 C'9 ne'9 P'9; obtain ⟨l'9, nn'9, vs'9, fs'9, hr'9, hn'9, hi'9, hp'9⟩ := P'9; subst hr'9; subst hn'9; (have nr'9 := Apart.mk ne'9); (replace N'9 := news_swap N'9); (try simp only [List.cons_append, List.nil_append] at N'9); clear ne'9; (try k_sweep))
  k_with "m call ref" => (k_here; (with_reducible show wpAny _ _ (call (Value.ref 214) [_]) _ _ _); k_dflt (refine' seen_law _ _ _ _ _ _ ?pfz9 _ _ _ _ _ _ _ _ _ _ _ _ _ _ _ _ _ _ _ _ _ _ ?Bz9 ?Fz9 ?Xz9 ?Nz9 ?Tz9 ?ckz9 ?hdz9 ?huz9 ?hpz9 ?_; (case Bz9 => k_asm); (case Fz9 => k_asm); (case Xz9 => k_asm); (case Nz9 => k_asm); (case Tz9 => k_asm); (case hpz9 => (refine' AR.mono ?hsz9 ?xxz9; (case xxz9 => assumption); (case hsz9 => exact (fun a9 o9 h9 => News.get (by k_asm) (by simp only [List.mem_cons, List.mem_append, h9, true_or, or_true]))))); (case pfz9 => assumption); (case ckz9 => first | rfl | assumption); (case hdz9 => omega); (case huz9 => omega); k_whole); intro r'9 nx'9 h'9 tk'9 F'9 N'9 ne'9 P'9; obtain ⟨t'9, hS'9⟩ := P'9; (have hS0'9 := hS'9); obtain ⟨x'9, l1'9, n1'9, l2'9, n2'9, nv'9, hr'9, hm1'9, hm2'9, hm3'9, hm4'9⟩ := hS0'9; subst hr'9; (have nr'9 := Apart.mk ne'9); (replace N'9 := news_swap N'9); (try simp only [List.cons_append, List.nil_append] at N'9); clear ne'9; (try k_sweep))
  k_with "m call ref" => (k_here; (with_reducible show wpAny _ _ (call (Value.ref 183) [_, _]) _ _ _); k_dflt (refine' aperm_law _ _ _ _ _ _ _ _ _ ?pfz9 ?hp0z9 ?hp1z9 _ _ _ _ _ _ _ _ _ _ _ _ _ _ _ _ _ _ _ _ _ _ ?Bz9 ?Fz9 ?Xz9 ?Nz9 ?Tz9 ?ckz9 ?hdz9 ?huz9 ?hpz9 ?_; (case Bz9 => k_asm); (case Fz9 => k_asm); (case Xz9 => k_asm); (case Nz9 => k_asm); (case Tz9 => k_asm); (case hpz9 => refine' ⟨AR.mono ?hsz9 ?xxz9, ?llz9⟩; (case llz9 => is_list); (case xxz9 => assumption); (case hsz9 => exact (fun a9 o9 h9 => News.get (by k_asm) (by simp only [List.mem_cons, List.mem_append, h9, true_or, or_true])))); (case pfz9 => assumption); (case hp0z9 => first | assumption | exact ints10); (case hp1z9 => assumption); (case ckz9 => first | rfl | assumption); (case hdz9 => omega); (case huz9 => omega); k_whole); intro r'9 nx'9 h'9 tk'9 F'9 N'9 ne'9 P'9; skip; (have nr'9 := Apart.mk ne'9); (replace N'9 := news_swap N'9); (try simp only [List.cons_append, List.nil_append] at N'9); clear ne'9; (try k_sweep))
  k_with "m call ref" => (k_here; (with_reducible show wpAny _ _ (call (Value.ref 183) [_, _]) _ _ _); k_dflt (refine' aperm_lawN _ _ _ _ _ _ ?pfz9 _ _ _ _ _ _ _ _ _ _ _ _ _ _ _ _ _ _ _ _ _ _ ?Bz9 ?Fz9 ?Xz9 ?Nz9 ?Tz9 ?ckz9 ?hdz9 ?huz9 ?hpz9 ?_; (case Bz9 => k_asm); (case Fz9 => k_asm); (case Xz9 => k_asm); (case Nz9 => k_asm); (case Tz9 => k_asm); (case hpz9 => (refine' AR.mono ?hsz9 ?xxz9; (case xxz9 => assumption); (case hsz9 => exact (fun a9 o9 h9 => News.get (by k_asm) (by simp only [List.mem_cons, List.mem_append, h9, true_or, or_true]))))); (case pfz9 => assumption); (case ckz9 => first | rfl | assumption); (case hdz9 => omega); (case huz9 => omega); k_whole); intro r'9 nx'9 h'9 tk'9 F'9 N'9 ne'9 P'9; skip; (have nr'9 := Apart.mk ne'9); (replace N'9 := news_swap N'9); (try simp only [List.cons_append, List.nil_append] at N'9); clear ne'9; (try k_sweep))
  k_with "m call ref" => (k_here; (with_reducible show wpAny _ _ (call (Value.ref 164) [_]) _ _ _); k_dflt (refine' trans_law _ _ _ _ _ _ ?pfz9 ?h2z9 _ _ _ _ _ _ _ _ _ _ _ _ _ _ _ _ _ _ _ _ _ _ ?Bz9 ?Fz9 ?Xz9 ?Nz9 ?Tz9 ?ckz9 ?hdz9 ?huz9 ?hpz9 ?_; (case Bz9 => k_asm); (case Fz9 => k_asm); (case Xz9 => k_asm); (case Nz9 => k_asm); (case Tz9 => k_asm); (case hpz9 => (refine' AR.mono ?hsz9 ?xxz9; (case xxz9 => assumption); (case hsz9 => exact (fun a9 o9 h9 => News.get (by k_asm) (by simp only [List.mem_cons, List.mem_append, h9, true_or, or_true]))))); (case pfz9 => assumption); (case h2z9 => first | assumption | rfl); (case ckz9 => first | rfl | assumption); (case hdz9 => omega); (case huz9 => omega); k_whole); intro r'9 nx'9 h'9 tk'9 F'9 N'9 ne'9 P'9; skip; (have nr'9 := Apart.mk ne'9); (replace N'9 := news_swap N'9); (try simp only [List.cons_append, List.nil_append] at N'9); clear ne'9; (try k_sweep))
  k_with "m subscriptTail" => (k_here; (with_reducible show wpAny _ _ (subscriptTail _ _ (Value.ref _) (Value.str _ _)) _ _ _); k_dflt (refine' kb_itemN ?Nz9 ?mz9 ?dz9 ?lz9 ?_; (case Nz9 => k_asm); (case mz9 => k_mem); (case dz9 => assumption); (case lz9 => first | assumption | rfl); k_whole))
  k_with "m compareOp NotEq ref ref" => (k_here; (with_reducible show wpAny _ _ (compareOp CmpOp.NotEq (Value.ref _) (Value.ref _)) _ _ _); k_dflt (refine' lst_ne ?hAz9 ?hBz9 ?Pz9 ?uz9 ?_; (case hAz9 => is_list); (case hBz9 => is_list); (case Pz9 => assumption); (case uz9 => ke_room); k_whole))
  k_with "m compareOp NotEq ref ref" => (k_here; (with_reducible show wpAny _ _ (compareOp CmpOp.NotEq (Value.ref _) (Value.ref _)) _ _ _); k_dflt (refine' seen_ne ?Pz9 ?hAz9 ?hBz9 ?ez9 ?uz9 ?_; (case hAz9 => (refine' SeenIs.mono ?hsz9 ?xxz9; (case xxz9 => assumption); (case hsz9 => exact (fun a9 o9 h9 => News.get (by k_asm) (by simp only [List.mem_cons, List.mem_append, h9, true_or, or_true]))))); (case hBz9 => (refine' SeenIs.mono ?hsz9 ?xxz9; (case xxz9 => assumption); (case hsz9 => exact (fun a9 o9 h9 => News.get (by k_asm) (by simp only [List.mem_cons, List.mem_append, h9, true_or, or_true]))))); (case Pz9 => assumption); (case ez9 => first | assumption | exact ⟨rfl, rfl, rfl⟩); (case uz9 => ke_room); k_whole))
  k_with "m compareOp Eq ref ref" => (k_here; (with_reducible show wpAny _ _ (compareOp CmpOp.Eq (Value.ref _) (Value.ref _)) _ _ _); k_dflt (refine' seen_eq ?Pz9 ?hAz9 ?hBz9 ?ez9 ?uz9 ?_; (case hAz9 => (refine' SeenIs.mono ?hsz9 ?xxz9; (case xxz9 => assumption); (case hsz9 => exact (fun a9 o9 h9 => News.get (by k_asm) (by simp only [List.mem_cons, List.mem_append, h9, true_or, or_true]))))); (case hBz9 => (refine' SeenIs.mono ?hsz9 ?xxz9; (case xxz9 => assumption); (case hsz9 => exact (fun a9 o9 h9 => News.get (by k_asm) (by simp only [List.mem_cons, List.mem_append, h9, true_or, or_true]))))); (case Pz9 => assumption); (case ez9 => first | assumption | exact ⟨rfl, rfl, rfl⟩); (case uz9 => ke_room); k_whole))
  k_with "m k_all" => first | assumption | exact apart_all (by assumption) (by k_mem) | exact off_app (by k_all) (by k_all)
  k_with "m k_mem" => first | with_reducible assumption | with_reducible exact List.mem_cons_self | (with_reducible refine List.mem_cons_of_mem _ ?_; k_mem) | (with_reducible refine List.mem_append_left _ ?_; k_mem) | (with_reducible refine List.mem_append_right _ ?_; k_mem)
  k_with "m execs cons" => (k_here; with_reducible refine Halt.out ?_)
  k_with "m call ref" => (k_here; (with_reducible show wpAny _ _ (call (Value.ref 99) [_, _]) _ _ _); k_dflt (refine' vec_con _ _ _ ?hkz9 ?hiz9 _ _ _ _ _ _ _ _ _ _ _ _ _ _ _ _ _ _ _ _ _ _ ?Bz9 ?Fz9 ?Xz9 ?Nz9 ?Tz9 ?ckz9 ?hdz9 ?huz9 ?hpz9 ?_; (case Bz9 => k_asm); (case Fz9 => k_asm); (case Xz9 => k_asm); (case Nz9 => k_asm); (case Tz9 => k_asm); (case hpz9 => exact True.intro); (case hkz9 => k_handed); (case hiz9 => k_handed); (case ckz9 => first | rfl | assumption); (case hdz9 => omega); (case huz9 => omega); k_whole); intro r'9 nx'9 h'9 tk'9 F'9 N'9 ne'9 P'9; obtain ⟨x'9, d'9, t1'9, t2'9, t3'9, t4'9, t5'9, hr'9, hx'9, hn'9⟩ := P'9; subst hr'9; subst hn'9; replace hx'9 := neN hx'9; (have nr'9 := Apart.mk ne'9); (replace N'9 := news_swap N'9); (try simp only [List.cons_append, List.nil_append] at N'9); clear ne'9; (try k_sweep))
  k_with "m subscriptTail Constant Name str int" => (k_here; (with_reducible show wpAny _ _ (subscriptTail _ _ (Value.str _ _) (Value.int _ _)) _ _ _); k_dflt (refine' kb_abc ?az9 ?bz9 ?xz9 ?_; (case az9 => omega); (case bz9 => omega); (case xz9 => decide +kernel); k_whole); intro y'9 t'9 hl'9; (try dsimp only))
  k_with "m call type:str" => (k_here; (with_reducible show wpAny _ _ (call (Value.type "str") [Value.int _ _]) _ _ _); k_dflt (refine' kb_stri ?az9 ?bz9 ?_; (case az9 => omega); (case bz9 => omega); k_whole); intro y'9 t'9 hl'9 ho'9; (try dsimp only))
  k_with "m binaryOp Add str str" => (k_here; (with_reducible show wpAny _ _ (binaryOp _ (Value.str _ _) (Value.str _ _)) _ _ _); k_dflt (refine' kb_addstr ?az9 ?bz9 ?cz9 ?dz9 ?_; (case az9 => first | omega | exact Nat.le_of_ble_eq_true rfl | decide +kernel); (case bz9 => first | omega | exact Nat.le_of_ble_eq_true rfl | decide +kernel); (case cz9 => first | with_reducible assumption | exact ofString_ok' _ | exact item_ok (by omega) (by omega)); (case dz9 => first | with_reducible assumption | exact ofString_ok' _); k_whole); intro y'9 t'9 tk'9 ok'9; (try dsimp only))
  k_with "m eval Name" => (k_here; (with_reducible show wpAny _ _ (eval (Expr.Name _ _) (envX _ _ _ _ _ _)) _ _ _); k_dflt (refine' nameX_C ?Nz9 ?cz9 ?mz9 ?dz9 ?_ ?az9 ?bz9; (case az9 => rfl); (case bz9 => rfl); (case Nz9 => k_asm); (case cz9 => rfl); (case mz9 => k_mem); (case dz9 => k_asm); k_whole))
  k_with "m call ref" => (k_here; (with_reducible show wpAny _ _ (call (Value.ref 214) [_]) _ _ _); k_dflt (refine' seen_con _ _ _ _ _ _ _ ?hzz9 ?hzdz9 ?hnmz9 ?hnsz9 _ _ _ _ _ _ _ _ _ _ _ _ _ _ _ _ _ _ _ _ _ _ ?Bz9 ?Fz9 ?Xz9 ?Nz9 ?Tz9 ?ckz9 ?hdz9 ?huz9 ?hpz9 ?_; (case Bz9 => k_asm); (case Fz9 => k_asm); (case Xz9 => k_asm); (case Nz9 => k_asm); (case Tz9 => k_asm); (case hpz9 => refine' ArK.mono ?hsz9 ?xxz9; (case xxz9 => assumption); (case hsz9 => exact (fun a9 o9 h9 => News.get (by k_asm) (by simp only [List.mem_cons, List.mem_append, h9, true_or, or_true])))); (case hzz9 => first | assumption | omega); (case hzdz9 => first | assumption | exact Nat.le_of_ble_eq_true rfl); (case hnmz9 => first | assumption | exact Nat.le_of_ble_eq_true rfl); (case hnsz9 => assumption); (case ckz9 => first | rfl | assumption); (case hdz9 => omega); (case huz9 => omega); k_whole); intro r'9 nx'9 h'9 tk'9 F'9 N'9 ne'9 P'9; (have hS'9 := P'9); (have hS0'9 := P'9); obtain ⟨x'9, l1'9, n1'9, l2'9, n2'9, nv'9, hr'9, hm1'9, hm2'9, hm3'9, hm4'9⟩ := hS0'9; subst hr'9; (have nr'9 := Apart.mk ne'9); (replace N'9 := news_swap N'9); (try simp only [List.cons_append, List.nil_append] at N'9); clear ne'9; (try k_sweep))
  k_with "m call ref" => (k_here; (with_reducible show wpAny _ _ (call (Value.ref 164) [_]) _ _ _); k_dflt (refine' trans_vec0 _ _ _ _ _ ?hzz9 _ _ _ _ _ _ _ _ _ _ _ _ _ _ _ _ _ _ _ _ _ _ ?Bz9 ?Fz9 ?Xz9 ?Nz9 ?Tz9 ?ckz9 ?hdz9 ?huz9 ?hpz9 ?_; (case Bz9 => k_asm); (case Fz9 => k_asm); (case Xz9 => k_asm); (case Nz9 => k_asm); (case Tz9 => k_asm); (case hpz9 => exact ⟨_, ⟨_, _, _, _, _, _, _, rfl, News.get (by k_asm) (by k_mem), News.get (by k_asm) (by k_mem)⟩, ⟨_, _, rfl, News.get (by k_asm) (by k_mem)⟩⟩); (case hzz9 => omega); (case ckz9 => first | rfl | assumption); (case hdz9 => omega); (case huz9 => omega); k_whole); intro r'9 nx'9 h'9 tk'9 F'9 N'9 ne'9 P'9; obtain ⟨ta'9, tb'9, hAK'9⟩ := P'9; (have nr'9 := Apart.mk ne'9); (replace N'9 := news_swap N'9); (try simp only [List.cons_append, List.nil_append] at N'9); clear ne'9; (try k_sweep))
  k_with "m compareOp NotEq ref ref" => (k_here; (with_reducible show wpAny _ _ (compareOp CmpOp.NotEq (Value.ref _) (Value.ref _)) _ _ _); refine Halt.out ?_)
  trivial
set_option maxHeartbeats 4000000 in
theorem law_w10a {w : World} {name qual : Str} {params : Arguments} {body : List Stmt} {scope : Scope} {dV kV doc pm cdv ct oc : Value} {an od : Option Addr} {osl : Array (Option Value)}
    (ho : (hd.heap_39 w.params).lookup 219 = some ⟨oc, od, .func (fnOf name qual params body scope dV kV doc pm an cdv ct), osl⟩)
    (loose : List Str) (mean : ExcName → Option Value) (mg mb : Str → Option Value) (dp un : Nat) (gd : Option (List Code)) (outer : List Env) (A₀ : Around) (base H : Heap) (L' fa : Addr) (cdv' : Value) (s : Shared) (oF oH : Obj) (c lg hx l xr dr D : Addr) (cs zs : List Value) (n z : Nat) (K : List (Addr × Obj)) (v spun rv mv : Value) (is ds : List Value) (nm : Option (List (Option (List Value)))) (es : List Int) (th tw tz tkr u1 u2 u3 u4 u5 : Nat) (Q : Flow → Shared → Prop)
    (B : Below A₀ base outer H) (X : (hd.heap_39 w.params).In H) (T : Top hd.view_39 loose mean mg mb H) (hd' : dp + 40 < recursionLimit) (hu : un + 400 < cLine) (F : Fr H L' s.heap (fun y => List.lookup y [(Str.ofString "heads", .none), (Str.ofString "row", .ref xr), (Str.ofString "size_of", .int (z : Int) tz), (Str.ofString "m", mv), (Str.ofString "reverse_one", rv), (Str.ofString "spun", spun), (Str.ofString "second", .ref lg), (Str.ofString "v", v), (Str.ofString "wide", .int (es.length : Int) tw), (Str.ofString "cards", .ref c), (Str.ofString "script", .ref l)]))
    (N : News H L' s.heap ((xr, instObj 99 dr) :: (dr, vecD w u1 u2 u3 u4 u5 (.str (Str.ofString "character") tkr) (.ref D) .none) :: (D, LCg.lst zs) :: (L' + 1 + 1, oF) :: (L' + 1, oH) :: (c, W.listOf cs.toArray n) :: K)) (k1 : ∀ p ∈ K, p.1 ≠ L' + 1 + 1) (k2 : ∀ p ∈ K, p.1 ≠ L' + 1) (k3 : ∀ p ∈ K, p.1 ≠ c) (ca : c ≠ L' + 1 + 1) (cb : c ≠ L' + 1) (hcs : Cards cs) (dH : oH.data = .cell (some (.ref hx)))
    (hPv : PF is ds nm es) (hAv : AR w (lAt K) v is ds nm) (hheld : SeenIs (lAt K) (.ref hx) (Str.ofString "integer") th is ds nm)
    (kd : ∀ p ∈ K, p.1 ≠ dr) (e1 : @Ne Nat xr dr) (e2 : @Ne Nat D dr) (e3 : @Ne Nat (L' + 1 + 1) dr) (e4 : @Ne Nat (L' + 1) dr) (e5 : @Ne Nat c dr) (e6 : @Ne Nat xr c) (e7 : @Ne Nat D c) (hz : z < 4) (hzl : zs.length = z) (hzs : Hold (∀ v ∈ zs, ∃ x t, v = .str x t ∧ PySem.PyData.strOk x = true))
    (hret : ∀ h' tk' m', Fr H L' h' m' → Q (.ret (.bool true)) { s with heap := h', toks := tk' }) :
    wpAny (model PySem.Challenge.rw_pq1314_01.row.prog w) (ktrTop dp un gd qual scope L' fa cdv' (cellsFrom (L' + 1) scope.names []) outer) (execs (body.drop 19) (envX qual scope L' fa cdv' (cellsFrom (L' + 1) scope.names []))) Q (fun _ _ => False) s := by

  have ho0 := ho
  cases ho
  have hVv := hPv.pvs
  subst hzl
  have hns0 : ∀ l : List Value, some l ∈ nsOf 0 (nmOf [(none : Option (List Value)), none]) → l.length ≤ 4096 := by intro l hl; exact nomatch hl
  refine wpAny_execs_cons ?_
  k_steps
  (rename Fr _ _ _ _ => F2); (rename News _ _ _ _ => N2)
  refine ⟨?_⟩
  refine wpAny_execs_cons ?_
  k_steps
  (rename Fr _ _ _ _ => F2); (rename News _ _ _ _ => N2); (rename SeenIs _ _ _ _ _ _ _ => hS)
  have hpn : PVN (nsOf 0 (nmOf [(none : Option (List Value)), none])) := fun l hl => nomatch hl
  refine ⟨?_⟩
  refine seen_ne' (k := Str.ofString "character") (is' := zs) (ds' := [.int 1 _, .int (zs.length : Int) _]) (nm' := nmOf [none, none]) (pvs_row (by decide +kernel) hzs hpn) (hS.mono ?hs) (pvs_row (by decide +kernel) hzs hpn) ⟨_, _, _, _, _, _, rfl, N2.get (.head _), N2.get (.tail _ (.tail _ (.tail _ (.tail _ (.head _))))), N2.get (.tail _ (.head _)), rfl⟩ rfl (show un + 64 < cLine by omega) ?_
  case hs => exact fun a9 o9 h9 => News.get N2 (by simp only [List.mem_cons, List.mem_append, h9, true_or, or_true])
  k_steps
  refine ⟨?_⟩
  refine wpAny_execs_cons ?_
  k_steps
  (rename Fr _ _ _ _ => F2)
  exact hret _ _ _ F2
end Mine
end
section
open PySem PySem.W PySem.Calls PySem.Spec PyProof.Rows
theorem Mine.devW9 : (PySem.Challenge.rw_pq1314_01.foot = 6) → Mine.hd.heap_39 = Mine.hd.heap_39 := by
  k_fill
  intro _; rfl
namespace Mine
theorem regW9_1 : True := by
  k_with_none
  k_with "m k_ne" => (refine neN ?_; (try dsimp only); first
    | with_reducible assumption
    | exact Ne.symm (by with_reducible assumption)
    | ((repeat (rename _ ∧ _ => q8z9; rcases q8z9 with ⟨_, _⟩)); first
      | with_reducible assumption
      | exact Ne.symm (by with_reducible assumption)
      | exact Nat.ne_of_gt (by with_reducible assumption)
      | exact Nat.ne_of_lt (by with_reducible assumption)))
  k_with "m k_all" => assumption
  k_with "m k_handed" => assumption
  k_with "m k_ne" => (refine neN ?_; (try dsimp only); first | with_reducible assumption | exact Ne.symm (by with_reducible assumption) | ((rename Apart _ _ => q9); first
  | (refine' apart_l q9 ?kaz9 ?kbz9; (case kaz9 => ((repeat (first | with_reducible exact List.mem_cons_self | with_reducible refine List.mem_cons_of_mem _ ?_)); done)); (case kbz9 => ((repeat (first | with_reducible exact List.mem_cons_self | with_reducible refine List.mem_cons_of_mem _ ?_)); done)))
  | (refine' apart_r q9 ?kaz9 ?kbz9; (case kaz9 => ((repeat (first | with_reducible exact List.mem_cons_self | with_reducible refine List.mem_cons_of_mem _ ?_)); done)); (case kbz9 => ((repeat (first | with_reducible exact List.mem_cons_self | with_reducible refine List.mem_cons_of_mem _ ?_)); done)))
  | (clear q9; k_ne)))
  k_with "m k_inst" => (refine' kb_inst ?Fz9 ?h1z9 ?h2z9; (case Fz9 => k_asm); (case h1z9 => assumption); (case h2z9 => assumption))
  k_with "m subscriptTail" => (k_here; (with_reducible show wpAny _ _ (subscriptTail _ _ (Value.ref _) (Value.str _ _)) _ _ _); k_dflt (refine' kb_item ?Fz9 ?oz9 ?dz9 ?lz9 ?_; (case Fz9 => k_asm); (case oz9 => assumption); (case dz9 => assumption); (case lz9 => first | assumption | rfl); k_whole))
  k_with "m compareOp In str ref" => (k_here; k_dflt (refine' kb_in ?Fz9 ?oz9 ?dz9 ?sz9 ?lz9 ?_; (case Fz9 => k_asm); (case oz9 => assumption); (case dz9 => assumption); (case sz9 => assumption); (case lz9 => first | assumption | rfl); k_whole))
  k_with "m compareOp NotIn str ref" => (k_here; k_dflt (refine' kb_notIn ?Fz9 ?oz9 ?dz9 ?sz9 ?lz9 ?_; (case Fz9 => k_asm); (case oz9 => assumption); (case dz9 => assumption); (case sz9 => assumption); (case lz9 => first | assumption | rfl); k_whole))
  k_with "m subscriptTail" => (k_here; (with_reducible show wpAny _ _ (subscriptTail _ _ (Value.ref _) (Value.int _ _)) _ _ _); k_dflt (refine' kb_lst ?lz9 ?az9 ?bz9 ?xz9 ?_; (case lz9 => is_list); (case xz9 => first | with_reducible assumption | assumption); (case az9 => omega); (case bz9 => omega); k_whole))
  k_with "m call builtin:len" => (k_here; (with_reducible show wpAny _ _ (call (Value.builtin "len") [Value.ref _]) _ _ _); k_dflt (refine' kb_len ?lz9 ?zz9 ?_; (case lz9 => is_list); (case zz9 => first | assumption | omega); k_whole))
  k_with "m k_all" => exact apart_all (by assumption) (by k_mem)
  k_with "m mul_fits" => first | exact PySem.IntMulOk.of_right (PySem.intBits_le_64 (by omega) (by omega)) | exact PySem.IntMulOk.of_left (PySem.intBits_le_64 (by omega) (by omega))
  k_with "m call type:range" => (k_here; (with_reducible show wpAny _ _ (call (Value.type _) [Value.int _ _]) _ _ _); k_dflt (refine' range1_rows ?Fz9 ?Nz9 ?_; (case Fz9 => k_asm); (case Nz9 => k_asm)); intro h'9 tk'9 t1'9 t2'9 t3'9 rg'9 F'9 N'9 rk'9; clear rk'9; (try k_sweep))
  k_with "m compareOp NotIn int ref" => (k_here; k_dflt (refine' ints_in ?lz9 ?iz9 ?mz9 ?_; (case lz9 => is_list); (case iz9 => exact Hold.out (by assumption)); (case mz9 => exact AllIn.out (by assumption) _ (by omega) (by omega)); k_whole))
  k_with "m is_list" => first | with_reducible assumption | exact News.isList (by k_asm) (by k_mem) | exact Fr.lst (by assumption) (by assumption)
  k_with "m loadName" => (k_here; k_dflt (refine' kb_ldn ?Fz9 ?vz9 ?_ ?az9 ?bz9; (case Fz9 => k_asm); (case az9 => rfl); (case bz9 => rfl); (case vz9 => rfl); k_whole))
  k_with "m pyIter ref" => (k_here; (with_reducible show wpAny _ _ (pyIter (Value.ref _)) (fun it s₂ => LoopAtV _ _ _ _ _ _ _ _ _ it s₂) _ _); refine Halt.out ?_)
  k_with "m CompSrc" => (refine Halt.out ?_)
  k_with "m CompSrcT" => (refine Halt.out ?_)
  k_with "m binaryOp Mod int int" => (k_here; refine mod_int' (by omega) ?_)
  k_with "m binaryOp FloorDiv int int" => (k_here; refine floordiv_int (by omega) ?_ (Or.inl (PyProof.noPylong_small (by omega))))
  k_with "m k_upd" => first | (refine' Spl.head ?az9; (case az9 => k_all)) | (refine' Spl.tail ?az9 ?bz9; (case az9 => k_ne); (case bz9 => k_upd))
  k_with "m subscriptTail Name Name ref int" => (k_here; (with_reducible show wpAny _ _ (subscriptTail _ _ (Value.ref _) (Value.int _ _)) _ _ _); k_dflt (refine' kb_lst ?lz9 ?az9 ?bz9 ?xz9 ?_; (case lz9 => is_list); (case xz9 => first | with_reducible assumption | assumption); (case az9 => omega); (case bz9 => omega); k_whole))
  k_with "m subscriptTail Name Subscript ref int" => (k_here; (with_reducible show wpAny _ _ (subscriptTail _ _ (Value.ref _) (Value.int _ _)) _ _ _); k_dflt (refine' kb_lst ?lz9 ?az9 ?bz9 ?xz9 ?_; (case lz9 => is_list); (case xz9 => first | with_reducible assumption | assumption); (case az9 => omega); (case bz9 => omega); k_whole))
  k_with "m subscriptTail Attribute Name Name ref int" => (k_here; (with_reducible show wpAny _ _ (subscriptTail _ _ (Value.ref _) (Value.int _ _)) _ _ _); k_dflt (refine' kb_lst ?lz9 ?az9 ?bz9 ?xz9 ?_; (case lz9 => is_list); (case xz9 => first | with_reducible assumption | assumption); (case az9 => omega); (case bz9 => omega); k_whole))
  k_with "m subscriptTail Name Constant ref int" => (k_here; (with_reducible show wpAny _ _ (subscriptTail _ _ (Value.ref _) (Value.int _ _)) _ _ _); k_dflt (refine' kb_lst ?lz9 ?az9 ?bz9 ?xz9 ?_; (case lz9 => is_list); (case xz9 => first | with_reducible assumption | assumption); (case az9 => omega); (case bz9 => omega); k_whole))
  k_with "m subscriptTail Attribute Name BinOp ref int" => (k_here; (with_reducible show wpAny _ _ (subscriptTail _ _ (Value.ref _) (Value.int _ _)) _ _ _); k_dflt (refine' kb_lst ?lz9 ?az9 ?bz9 ?xz9 ?_; (case lz9 => is_list); (case xz9 => first | with_reducible assumption | assumption); (case az9 => omega); (case bz9 => omega); k_whole))
  k_with "m subscriptTail Attribute Subscript Name ref int" => (k_here; (with_reducible show wpAny _ _ (subscriptTail _ _ (Value.ref _) (Value.int _ _)) _ _ _); k_dflt (refine' kb_lst ?lz9 ?az9 ?bz9 ?xz9 ?_; (case lz9 => is_list); (case xz9 => first | with_reducible assumption | assumption); (case az9 => omega); (case bz9 => omega); k_whole))
  k_with "m eval ListComp" => (k_here; first
  | (lct_look; k_dflt (refine LCt.ListComp_T (F₀ := by k_asm) (by with_unfolding_all rfl) (by decide) (by rfl) (by decide) (by rfl) ?_))
  | ((first | lcg_look | lcf_look); k_dflt (refine LCg.ListComp_U (F₀ := by k_asm) (by with_unfolding_all rfl) (by decide) (by rfl) (by decide) (by rfl) ?_)))
  k_with "m exec Assign cons ListComp" => (k_here; first
  | (lct_look; k_dflt (refine LCt.Assign_ListComp_T (F₀ := by k_asm) (by rfl) (by with_unfolding_all rfl) (by with_unfolding_all rfl) (by decide) (by rfl) (by decide) (by rfl) (by rfl) (by rfl) ?_))
  | ((first | lcg_look | lcf_look); k_dflt (refine LCg.Assign_ListComp_U (F₀ := by k_asm) (by rfl) (by with_unfolding_all rfl) (by with_unfolding_all rfl) (by decide) (by rfl) (by decide) (by rfl) (by rfl) (by rfl) ?_)))
  k_with "m call ref" => (k_here; (with_reducible show wpAny _ _ (call (Value.ref 197) [_, _]) _ _ _); k_dflt (refine' ConM.use (card_con _ _ _ _ ?h1z9 ?h2z9) _ _ _ _ _ _ _ _ _ _ _ _ _ _ _ _ _ _ _ _ _ _ _ _ ?Bz9 ?Fz9 ?Xz9 ?Nz9 ?Uz9 ?Cz9 ?Tz9 ?ckz9 ?hdz9 ?huz9 ?_; (case Bz9 => k_asm); (case Fz9 => k_asm); (case Xz9 => k_asm); (case Nz9 => k_asm); (case Uz9 => k_upd); (case Cz9 => assumption); (case Tz9 => k_asm); (case h1z9 => omega); (case h2z9 => omega); (case ckz9 => first | rfl | assumption); (case hdz9 => omega); (case huz9 => omega); k_whole); intro r'9 nx'9 h'9 tk'9 cs'9 n'9 F'9 N'9 C'9 ne'9 P'9; obtain ⟨hn'9, j'9, u'9, hr'9, hj1'9, hj2'9⟩ := P'9; subst hr'9; subst hn'9; (have nr'9 := Apart.mk ne'9); (replace N'9 := news_swap N'9); (try simp only [List.cons_append, List.nil_append] at N'9); clear ne'9; (try k_sweep))
  k_with "m call ref" => (k_here; (with_reducible show wpAny _ _ (call (Value.ref 190) [_]) _ _ _); k_dflt (refine' cards_con _ _ _ _ ?hiz9 ?hzz9 _ _ _ _ _ _ _ _ _ _ _ _ _ _ _ _ _ _ _ _ _ _ ?Bz9 ?Fz9 ?Xz9 ?Nz9 ?Tz9 ?ckz9 ?hdz9 ?huz9 ?hpz9 ?_; (case Bz9 => k_asm); (case Fz9 => k_asm); (case Xz9 => k_asm); (case Nz9 => k_asm); (case Tz9 => k_asm); (case hpz9 => is_list); (case hiz9 => assumption); (case hzz9 => assumption); (case ckz9 => first | rfl | assumption); (case hdz9 => omega); (case huz9 => omega); k_whole); intro r'9 nx'9 h'9 tk'9 F'9 N'9 ne'9 P'9; obtain ⟨lc'9, cs'9, n'9, hr'9, hn'9, C'9⟩ := P'9; subst hr'9; subst hn'9; (have nr'9 := Apart.mk ne'9); (replace N'9 := news_swap N'9); (try simp only [List.cons_append, List.nil_append] at N'9); clear ne'9; (try k_sweep))
  k_with "m call ref" => (k_here; (with_reducible show wpAny _ _ (call (Value.ref 209) [_, _]) _ _ _); k_dflt (refine' ConM.use (array_con _ _ _ _ ?h1z9 ?h2z9) _ _ _ _ _ _ _ _ _ _ _ _ _ _ _ _ _ _ _ _ _ _ _ _ ?Bz9 ?Fz9 ?Xz9 ?Nz9 ?Uz9 ?Cz9 ?Tz9 ?ckz9 ?hdz9 ?huz9 ?_; (case Bz9 => k_asm); (case Fz9 => k_asm); (case Xz9 => k_asm); (case Nz9 => k_asm); (case Uz9 => k_upd); (case Cz9 => assumption); (case Tz9 => k_asm); (case h1z9 => omega); (case h2z9 => omega); (case ckz9 => first | rfl | assumption); (case hdz9 => omega); (case huz9 => omega); k_whole); intro r'9 nx'9 h'9 tk'9 cs'9 n'9 F'9 N'9 C'9 ne'9 P'9; skip; (have nr'9 := Apart.mk ne'9); (replace N'9 := news_swap N'9); (try simp only [List.cons_append, List.nil_append] at N'9); clear ne'9; (try k_sweep))
  k_with "m call ref" => (k_here; (with_reducible show wpAny _ _ (call (Value.ref 204) [_, _]) _ _ _); k_dflt (refine' ConM.use (order_con _ _ _ _ ?h1z9 ?h2z9) _ _ _ _ _ _ _ _ _ _ _ _ _ _ _ _ _ _ _ _ _ _ _ _ ?Bz9 ?Fz9 ?Xz9 ?Nz9 ?Uz9 ?Cz9 ?Tz9 ?ckz9 ?hdz9 ?huz9 ?_; (case Bz9 => k_asm); (case Fz9 => k_asm); (case Xz9 => k_asm); (case Nz9 => k_asm); (case Uz9 => k_upd); (case Cz9 => assumption); (case Tz9 => k_asm); (case h1z9 => omega); (case h2z9 => omega); (case ckz9 => first | rfl | assumption); (case hdz9 => omega); (case huz9 => omega); k_whole); intro r'9 nx'9 h'9 tk'9 cs'9 n'9 F'9 N'9 C'9 ne'9 P'9; obtain ⟨l'9, nn'9, vs'9, fs'9, hr'9, hn'9, hi'9, hp'9⟩ := P'9; subst hr'9; subst hn'9; (have nr'9 := Apart.mk ne'9); (replace N'9 := news_swap N'9); (try simp only [List.cons_append, List.nil_append] at N'9); clear ne'9; (try k_sweep))
  k_with "m call ref" => (k_here; (with_reducible show wpAny _ _ (call (Value.ref 214) [_]) _ _ _); k_dflt (refine' seen_law _ _ _ _ _ _ ?pfz9 _ _ _ _ _ _ _ _ _ _ _ _ _ _ _ _ _ _ _ _ _ _ ?Bz9 ?Fz9 ?Xz9 ?Nz9 ?Tz9 ?ckz9 ?hdz9 ?huz9 ?hpz9 ?_; (case Bz9 => k_asm); (case Fz9 => k_asm); (case Xz9 => k_asm); (case Nz9 => k_asm); (case Tz9 => k_asm); (case hpz9 => (refine' AR.mono ?hsz9 ?xxz9; (case xxz9 => assumption); (case hsz9 => exact (fun a9 o9 h9 => News.get (by k_asm) (by simp only [List.mem_cons, List.mem_append, h9, true_or, or_true]))))); (case pfz9 => assumption); (case ckz9 => first | rfl | assumption); (case hdz9 => omega); (case huz9 => omega); k_whole); intro r'9 nx'9 h'9 tk'9 F'9 N'9 ne'9 P'9; obtain ⟨t'9, hS'9⟩ := P'9; (have hS0'9 := hS'9); obtain ⟨x'9, l1'9, n1'9, l2'9, n2'9, nv'9, hr'9, hm1'9, hm2'9, hm3'9, hm4'9⟩ := hS0'9; subst hr'9; (have nr'9 := Apart.mk ne'9); (replace N'9 := news_swap N'9); (try simp only [List.cons_append, List.nil_append] at N'9); clear ne'9; (try k_sweep))
  k_with "m call ref" => (k_here; (with_reducible show wpAny _ _ (call (Value.ref 183) [_, _]) _ _ _); k_dflt (refine' aperm_law _ _ _ _ _ _ _ _ _ ?pfz9 ?hp0z9 ?hp1z9 _ _ _ _ _ _ _ _ _ _ _ _ _ _ _ _ _ _ _ _ _ _ ?Bz9 ?Fz9 ?Xz9 ?Nz9 ?Tz9 ?ckz9 ?hdz9 ?huz9 ?hpz9 ?_; (case Bz9 => k_asm); (case Fz9 => k_asm); (case Xz9 => k_asm); (case Nz9 => k_asm); (case Tz9 => k_asm); (case hpz9 => refine' ⟨AR.mono ?hsz9 ?xxz9, ?llz9⟩; (case llz9 => is_list); (case xxz9 => assumption); (case hsz9 => exact (fun a9 o9 h9 => News.get (by k_asm) (by simp only [List.mem_cons, List.mem_append, h9, true_or, or_true])))); (case pfz9 => assumption); (case hp0z9 => first | assumption | exact ints10); (case hp1z9 => assumption); (case ckz9 => first | rfl | assumption); (case hdz9 => omega); (case huz9 => omega); k_whole); intro r'9 nx'9 h'9 tk'9 F'9 N'9 ne'9 P'9; skip; (have nr'9 := Apart.mk ne'9); (replace N'9 := news_swap N'9); (try simp only [List.cons_append, List.nil_append] at N'9); clear ne'9; (try k_sweep))
  k_with "m call ref" => (k_here; (with_reducible show wpAny _ _ (call (Value.ref 183) [_, _]) _ _ _); k_dflt (refine' aperm_lawN _ _ _ _ _ _ ?pfz9 _ _ _ _ _ _ _ _ _ _ _ _ _ _ _ _ _ _ _ _ _ _ ?Bz9 ?Fz9 ?Xz9 ?Nz9 ?Tz9 ?ckz9 ?hdz9 ?huz9 ?hpz9 ?_; (case Bz9 => k_asm); (case Fz9 => k_asm); (case Xz9 => k_asm); (case Nz9 => k_asm); (case Tz9 => k_asm); (case hpz9 => (refine' AR.mono ?hsz9 ?xxz9; (case xxz9 => assumption); (case hsz9 => exact (fun a9 o9 h9 => News.get (by k_asm) (by simp only [List.mem_cons, List.mem_append, h9, true_or, or_true]))))); (case pfz9 => assumption); (case ckz9 => first | rfl | assumption); (case hdz9 => omega); (case huz9 => omega); k_whole); intro r'9 nx'9 h'9 tk'9 F'9 N'9 ne'9 P'9; skip; (have nr'9 := Apart.mk ne'9); (replace N'9 := news_swap N'9); (try simp only [List.cons_append, List.nil_append] at N'9); clear ne'9; (try k_sweep))
  k_with "m call ref" => (k_here; (with_reducible show wpAny _ _ (call (Value.ref 164) [_]) _ _ _); k_dflt (refine' trans_law _ _ _ _ _ _ ?pfz9 ?h2z9 _ _ _ _ _ _ _ _ _ _ _ _ _ _ _ _ _ _ _ _ _ _ ?Bz9 ?Fz9 ?Xz9 ?Nz9 ?Tz9 ?ckz9 ?hdz9 ?huz9 ?hpz9 ?_; (case Bz9 => k_asm); (case Fz9 => k_asm); (case Xz9 => k_asm); (case Nz9 => k_asm); (case Tz9 => k_asm); (case hpz9 => (refine' AR.mono ?hsz9 ?xxz9; (case xxz9 => assumption); (case hsz9 => exact (fun a9 o9 h9 => News.get (by k_asm) (by simp only [List.mem_cons, List.mem_append, h9, true_or, or_true]))))); (case pfz9 => assumption); (case h2z9 => first | assumption | rfl); (case ckz9 => first | rfl | assumption); (case hdz9 => omega); (case huz9 => omega); k_whole); intro r'9 nx'9 h'9 tk'9 F'9 N'9 ne'9 P'9; skip; (have nr'9 := Apart.mk ne'9); (replace N'9 := news_swap N'9); (try simp only [List.cons_append, List.nil_append] at N'9); clear ne'9; (try k_sweep))
  k_with "m subscriptTail" => (k_here; (with_reducible show wpAny _ _ (subscriptTail _ _ (Value.ref _) (Value.str _ _)) _ _ _); k_dflt (refine' kb_itemN ?Nz9 ?mz9 ?dz9 ?lz9 ?_; (case Nz9 => k_asm); (case mz9 => k_mem); (case dz9 => assumption); (case lz9 => first | assumption | rfl); k_whole))
  k_with "m compareOp NotEq ref ref" => (k_here; (with_reducible show wpAny _ _ (compareOp CmpOp.NotEq (Value.ref _) (Value.ref _)) _ _ _); k_dflt (refine' lst_ne ?hAz9 ?hBz9 ?Pz9 ?uz9 ?_; (case hAz9 => is_list); (case hBz9 => is_list); (case Pz9 => assumption); (case uz9 => ke_room); k_whole))
  k_with "m compareOp NotEq ref ref" => (k_here; (with_reducible show wpAny _ _ (compareOp CmpOp.NotEq (Value.ref _) (Value.ref _)) _ _ _); k_dflt (refine' seen_ne ?Pz9 ?hAz9 ?hBz9 ?ez9 ?uz9 ?_; (case hAz9 => (refine' SeenIs.mono ?hsz9 ?xxz9; (case xxz9 => assumption); (case hsz9 => exact (fun a9 o9 h9 => News.get (by k_asm) (by simp only [List.mem_cons, List.mem_append, h9, true_or, or_true]))))); (case hBz9 => (refine' SeenIs.mono ?hsz9 ?xxz9; (case xxz9 => assumption); (case hsz9 => exact (fun a9 o9 h9 => News.get (by k_asm) (by simp only [List.mem_cons, List.mem_append, h9, true_or, or_true]))))); (case Pz9 => assumption); (case ez9 => first | assumption | exact ⟨rfl, rfl, rfl⟩); (case uz9 => ke_room); k_whole))
  k_with "m compareOp Eq ref ref" => (k_here; (with_reducible show wpAny _ _ (compareOp CmpOp.Eq (Value.ref _) (Value.ref _)) _ _ _); k_dflt (refine' seen_eq ?Pz9 ?hAz9 ?hBz9 ?ez9 ?uz9 ?_; (case hAz9 => (refine' SeenIs.mono ?hsz9 ?xxz9; (case xxz9 => assumption); (case hsz9 => exact (fun a9 o9 h9 => News.get (by k_asm) (by simp only [List.mem_cons, List.mem_append, h9, true_or, or_true]))))); (case hBz9 => (refine' SeenIs.mono ?hsz9 ?xxz9; (case xxz9 => assumption); (case hsz9 => exact (fun a9 o9 h9 => News.get (by k_asm) (by simp only [List.mem_cons, List.mem_append, h9, true_or, or_true]))))); (case Pz9 => assumption); (case ez9 => first | assumption | exact ⟨rfl, rfl, rfl⟩); (case uz9 => ke_room); k_whole))
  k_with "m k_all" => first | assumption | exact apart_all (by assumption) (by k_mem) | exact off_app (by k_all) (by k_all)
  k_with "m k_mem" => first | with_reducible assumption | with_reducible exact List.mem_cons_self | (with_reducible refine List.mem_cons_of_mem _ ?_; k_mem) | (with_reducible refine List.mem_append_left _ ?_; k_mem) | (with_reducible refine List.mem_append_right _ ?_; k_mem)
  k_with "m execs cons" => (k_here; with_reducible refine Halt.out ?_)
  k_with "m call ref" => (k_here; (with_reducible show wpAny _ _ (call (Value.ref 99) [_, _]) _ _ _); k_dflt (refine' vec_con _ _ _ ?hkz9 ?hiz9 _ _ _ _ _ _ _ _ _ _ _ _ _ _ _ _ _ _ _ _ _ _ ?Bz9 ?Fz9 ?Xz9 ?Nz9 ?Tz9 ?ckz9 ?hdz9 ?huz9 ?hpz9 ?_; (case Bz9 => k_asm); (case Fz9 => k_asm); (case Xz9 => k_asm); (case Nz9 => k_asm); (case Tz9 => k_asm); (case hpz9 => exact True.intro); (case hkz9 => k_handed); (case hiz9 => k_handed); (case ckz9 => first | rfl | assumption); (case hdz9 => omega); (case huz9 => omega); k_whole); intro r'9 nx'9 h'9 tk'9 F'9 N'9 ne'9 P'9; obtain ⟨x'9, d'9, t1'9, t2'9, t3'9, t4'9, t5'9, hr'9, hx'9, hn'9⟩ := P'9; subst hr'9; subst hn'9; replace hx'9 := neN hx'9; (have nr'9 := Apart.mk ne'9); (replace N'9 := news_swap N'9); (try simp only [List.cons_append, List.nil_append] at N'9); clear ne'9; (try k_sweep))
  k_with "m subscriptTail Constant Name str int" => (k_here; (with_reducible show wpAny _ _ (subscriptTail _ _ (Value.str _ _) (Value.int _ _)) _ _ _); k_dflt (refine' kb_abc ?az9 ?bz9 ?xz9 ?_; (case az9 => omega); (case bz9 => omega); (case xz9 => decide +kernel); k_whole); intro y'9 t'9 hl'9; (try dsimp only))
  k_with "m call type:str" => (k_here; (with_reducible show wpAny _ _ (call (Value.type "str") [Value.int _ _]) _ _ _); k_dflt (refine' kb_stri ?az9 ?bz9 ?_; (case az9 => omega); (case bz9 => omega); k_whole); intro y'9 t'9 hl'9 ho'9; (try dsimp only))
  k_with "m binaryOp Add str str" => (k_here; (with_reducible show wpAny _ _ (binaryOp _ (Value.str _ _) (Value.str _ _)) _ _ _); k_dflt (refine' kb_addstr ?az9 ?bz9 ?cz9 ?dz9 ?_; (case az9 => first | omega | exact Nat.le_of_ble_eq_true rfl | decide +kernel); (case bz9 => first | omega | exact Nat.le_of_ble_eq_true rfl | decide +kernel); (case cz9 => first | with_reducible assumption | exact ofString_ok' _ | exact item_ok (by omega) (by omega)); (case dz9 => first | with_reducible assumption | exact ofString_ok' _); k_whole); intro y'9 t'9 tk'9 ok'9; (try dsimp only))
  k_with "m eval Name" => (k_here; (with_reducible show wpAny _ _ (eval (Expr.Name _ _) (envX _ _ _ _ _ _)) _ _ _); k_dflt (refine' nameX_C ?Nz9 ?cz9 ?mz9 ?dz9 ?_ ?az9 ?bz9; (case az9 => rfl); (case bz9 => rfl); (case Nz9 => k_asm); (case cz9 => rfl); (case mz9 => k_mem); (case dz9 => k_asm); k_whole))
  k_with "m call ref" => (k_here; (with_reducible show wpAny _ _ (call (Value.ref 214) [_]) _ _ _); k_dflt (refine' seen_con _ _ _ _ _ _ _ ?hzz9 ?hzdz9 ?hnmz9 ?hnsz9 _ _ _ _ _ _ _ _ _ _ _ _ _ _ _ _ _ _ _ _ _ _ ?Bz9 ?Fz9 ?Xz9 ?Nz9 ?Tz9 ?ckz9 ?hdz9 ?huz9 ?hpz9 ?_; (case Bz9 => k_asm); (case Fz9 => k_asm); (case Xz9 => k_asm); (case Nz9 => k_asm); (case Tz9 => k_asm); (case hpz9 => refine' ArK.mono ?hsz9 ?xxz9; (case xxz9 => assumption); (case hsz9 => exact (fun a9 o9 h9 => News.get (by k_asm) (by simp only [List.mem_cons, List.mem_append, h9, true_or, or_true])))); (case hzz9 => first | assumption | omega); (case hzdz9 => first | assumption | exact Nat.le_of_ble_eq_true rfl); (case hnmz9 => first | assumption | exact Nat.le_of_ble_eq_true rfl); (case hnsz9 => assumption); (case ckz9 => first | rfl | assumption); (case hdz9 => omega); (case huz9 => omega); k_whole); intro r'9 nx'9 h'9 tk'9 F'9 N'9 ne'9 P'9; (have hS'9 := P'9); (have hS0'9 := P'9); obtain ⟨x'9, l1'9, n1'9, l2'9, n2'9, nv'9, hr'9, hm1'9, hm2'9, hm3'9, hm4'9⟩ := hS0'9; subst hr'9; (have nr'9 := Apart.mk ne'9); (replace N'9 := news_swap N'9); (try simp only [List.cons_append, List.nil_append] at N'9); clear ne'9; (try k_sweep))
  k_with "m call ref" => (k_here; (with_reducible show wpAny _ _ (call (Value.ref 164) [_]) _ _ _); k_dflt (refine' trans_vec0 _ _ _ _ _ ?hzz9 _ _ _ _ _ _ _ _ _ _ _ _ _ _ _ _ _ _ _ _ _ _ ?Bz9 ?Fz9 ?Xz9 ?Nz9 ?Tz9 ?ckz9 ?hdz9 ?huz9 ?hpz9 ?_; (case Bz9 => k_asm); (case Fz9 => k_asm); (case Xz9 => k_asm); (case Nz9 => k_asm); (case Tz9 => k_asm); (case hpz9 => exact ⟨_, ⟨_, _, _, _, _, _, _, rfl, News.get (by k_asm) (by k_mem), News.get (by k_asm) (by k_mem)⟩, ⟨_, _, rfl, News.get (by k_asm) (by k_mem)⟩⟩); (case hzz9 => omega); (case ckz9 => first | rfl | assumption); (case hdz9 => omega); (case huz9 => omega); k_whole); intro r'9 nx'9 h'9 tk'9 F'9 N'9 ne'9 P'9; obtain ⟨ta'9, tb'9, hAK'9⟩ := P'9; (have nr'9 := Apart.mk ne'9); (replace N'9 := news_swap N'9); (try simp only [List.cons_append, List.nil_append] at N'9); clear ne'9; (try k_sweep))
  trivial
set_option maxHeartbeats 4000000 in
theorem law_w9 {w : World} {name qual : Str} {params : Arguments} {body : List Stmt} {scope : Scope} {dV kV doc pm cdv ct oc : Value} {an od : Option Addr} {osl : Array (Option Value)}
    (ho : (hd.heap_39 w.params).lookup 219 = some ⟨oc, od, .func (fnOf name qual params body scope dV kV doc pm an cdv ct), osl⟩)
    (loose : List Str) (mean : ExcName → Option Value) (mg mb : Str → Option Value) (dp un : Nat) (gd : Option (List Code)) (outer : List Env) (A₀ : Around) (base H : Heap) (L' fa : Addr) (cdv' : Value) (s : Shared) (oF oH : Obj) (c lg hx l xr dr D : Addr) (cs zs : List Value) (n z : Nat) (K : List (Addr × Obj)) (v spun rv mv : Value) (is ds : List Value) (nm : Option (List (Option (List Value)))) (es : List Int) (th tw tz tkr u1 u2 u3 u4 u5 : Nat) (Q : Flow → Shared → Prop)
    (B : Below A₀ base outer H) (X : (hd.heap_39 w.params).In H) (T : Top hd.view_39 loose mean mg mb H) (hd' : dp + 40 < recursionLimit) (hu : un + 400 < cLine) (F : Fr H L' s.heap (fun y => List.lookup y [(Str.ofString "heads", .none), (Str.ofString "row", .ref xr), (Str.ofString "size_of", .int (z : Int) tz), (Str.ofString "m", mv), (Str.ofString "reverse_one", rv), (Str.ofString "spun", spun), (Str.ofString "second", .ref lg), (Str.ofString "v", v), (Str.ofString "wide", .int (es.length : Int) tw), (Str.ofString "cards", .ref c), (Str.ofString "script", .ref l)]))
    (N : News H L' s.heap ((xr, instObj 99 dr) :: (dr, vecD w u1 u2 u3 u4 u5 (.str (Str.ofString "character") tkr) (.ref D) .none) :: (D, LCg.lst zs) :: (L' + 1 + 1, oF) :: (L' + 1, oH) :: (c, W.listOf cs.toArray n) :: K)) (k1 : ∀ p ∈ K, p.1 ≠ L' + 1 + 1) (k2 : ∀ p ∈ K, p.1 ≠ L' + 1) (k3 : ∀ p ∈ K, p.1 ≠ c) (ca : c ≠ L' + 1 + 1) (cb : c ≠ L' + 1) (hcs : Cards cs) (dH : oH.data = .cell (some (.ref hx)))
    (hPv : PF is ds nm es) (hAv : AR w (lAt K) v is ds nm) (hheld : SeenIs (lAt K) (.ref hx) (Str.ofString "integer") th is ds nm)
    (kd : ∀ p ∈ K, p.1 ≠ dr) (e1 : @Ne Nat xr dr) (e2 : @Ne Nat D dr) (e3 : @Ne Nat (L' + 1 + 1) dr) (e4 : @Ne Nat (L' + 1) dr) (e5 : @Ne Nat c dr) (e6 : @Ne Nat xr c) (e7 : @Ne Nat D c) (hz : z < 4) (hzl : zs.length = z) (hzs : Hold (∀ v ∈ zs, ∃ x t, v = .str x t ∧ PySem.PyData.strOk x = true))
    (hret : ∀ h' tk' m', Fr H L' h' m' → Q (.ret (.bool true)) { s with heap := h', toks := tk' }) :
    wpAny (model PySem.Challenge.rw_pq1314_01.row.prog w) (ktrTop dp un gd qual scope L' fa cdv' (cellsFrom (L' + 1) scope.names []) outer) (execs (body.drop 18) (envX qual scope L' fa cdv' (cellsFrom (L' + 1) scope.names []))) Q (fun _ _ => False) s := by

  have ho0 := ho
  cases ho
  have hVv := hPv.pvs
  refine wpAny_execs_cons ?_
  k_steps
  · (rename Fr _ _ _ _ => F2); (rename News _ _ _ _ => N2); (rename Cards _ => hcs2)
    refine ⟨?_⟩
    refine wpAny_execs_cons ?_
    k_steps
    (rename Fr _ _ _ _ => F2); (rename News _ _ _ _ => N2); (rename IsRange _ _ _ _ _ _ _ _ => rg)
    refine ⟨?_⟩
    obtain ⟨nw0, hnw0, N2⟩ : ∃ nw0, nw0 = _ ∧ News H L' _ nw0 := ⟨_, rfl, N2⟩
    refine LCg.CompSrc.range (n := z) rfl F2 N2 rg (small_of (by omega) (by omega)) (range_size z) (by rw [sizeLine_eq]; omega) ?_
    intro g'
    refine rest_ind z (fun i hs news => Hold (news = nw0 ∧ (∀ v ∈ hs, ∃ x t, v = .str x t ∧ PySem.PyData.strOk x = true) ∧ hs.length = i)) ?_ ?_ z 0 [] _ (by omega) ⟨rfl, (fun _ h => nomatch h), rfl⟩
    · rintro i hs news v9 I oI C oC E m₂ h tk E' hi ⟨rfl, his, hil⟩ ⟨t', rfl⟩ hC hx F' N' o ne
      subst hnw0
      clear F2 N2 rg
      have o0 := o
      simp only [LCg.Off3] at o
      k_steps
      first
      | exact ⟨rfl, str_snoc his (by assumption), by simp [hil]⟩
      | exact LCg.CompEnd.intro F' N' _ (fun _ h => h) o0 trivial ⟨rfl, str_snoc his (by assumption), by simp [hil]⟩
    · rintro hs news ⟨rfl, his, hil⟩
      intro Dh h tk F' N' o3'
      subst hnw0
      clear F2 N2 rg
      simp only [LCg.Off1] at o3'
      replace his := Hold.mk his
      have hzh : hs.toArray.size ≤ sizeLine := by rw [List.size_toArray, sizeLine_eq]; omega
      k_steps
      refine ⟨?_⟩
      refine wpAny_execs_cons ?_
      k_steps
      (rename Fr _ _ _ _ => F2); (rename News _ _ _ _ => N2)
      (rename Obj.IsDictOf _ _ (strPairs _) => hdict); (rename (_ == sysModules) = false => hsys)
      dsimp only at F2
      simp only [lookup_if] at F2
      refine ⟨?_⟩
      exact law_w10b ho0 loose mean mg mb dp un gd outer A₀ base H L' fa cdv' _ oH c lg hx l xr dr D Dh _ _ _ _ _ zs hs z _ K v spun rv mv is ds nm es th tw tz tkr u1 u2 u3 u4 u5 _ _ _ _ _ _ Q B X T hd' hu F2 (news_sub N2 sub_w9) dH hPv hAv hheld hdict hsys hz hzl hil hzs his (fun h' tk' m' F => hret h' tk' m' F)
  · (rename Fr _ _ _ _ => F2); (rename News _ _ _ _ => N2); (rename Cards _ => hcs2)
    try simp only [List.append_nil] at N2
    refine ⟨?_⟩
    exact law_w10a ho0 loose mean mg mb dp un gd outer A₀ base H L' fa cdv' _ oF oH c lg hx l xr dr D _ zs _ z K v spun rv mv is ds nm es th tw tz tkr u1 u2 u3 u4 u5 Q B X T hd' hu F2 N2 k1 k2 k3 ca cb hcs2 dH hPv hAv hheld kd e1 e2 e3 e4 e5 e6 e7 hz hzl hzs (fun h' tk' m' F => hret h' tk' m' F)
  · (rename Fr _ _ _ _ => F2); (rename News _ _ _ _ => N2); (rename Cards _ => hcs2)
    try simp only [List.append_nil] at N2
    refine ⟨?_⟩
    exact law_w10a ho0 loose mean mg mb dp un gd outer A₀ base H L' fa cdv' _ oF oH c lg hx l xr dr D _ zs _ z K v spun rv mv is ds nm es th tw tz tkr u1 u2 u3 u4 u5 Q B X T hd' hu F2 N2 k1 k2 k3 ca cb hcs2 dH hPv hAv hheld kd e1 e2 e3 e4 e5 e6 e7 hz hzl hzs (fun h' tk' m' F => hret h' tk' m' F)
end Mine
end
section
open PySem PySem.W PySem.Calls PySem.Spec PyProof.Rows
theorem Mine.devW8 : (PySem.Challenge.rw_pq1314_01.foot = 6) → Mine.hd.heap_39 = Mine.hd.heap_39 := by
  k_fill
  intro _; rfl
namespace Mine
theorem regW8_1 : True := by
  k_with_none
  k_with "m k_ne" => (refine neN ?_; (try dsimp only); first
    | with_reducible assumption
    | exact Ne.symm (by with_reducible assumption)
    | ((repeat (rename _ ∧ _ => q8z9; rcases q8z9 with ⟨_, _⟩)); first
      | with_reducible assumption
      | exact Ne.symm (by with_reducible assumption)
      | exact Nat.ne_of_gt (by with_reducible assumption)
      | exact Nat.ne_of_lt (by with_reducible assumption)))
  k_with "m k_all" => assumption
  k_with "m k_handed" => assumption
  k_with "m k_ne" => (refine neN ?_; (try dsimp only); first | with_reducible assumption | exact Ne.symm (by with_reducible assumption) | ((rename Apart _ _ => q9); first
  | (refine' apart_l q9 ?kaz9 ?kbz9; (case kaz9 => ((repeat (first | with_reducible exact List.mem_cons_self | with_reducible refine List.mem_cons_of_mem _ ?_)); done)); (case kbz9 => ((repeat (first | with_reducible exact List.mem_cons_self | with_reducible refine List.mem_cons_of_mem _ ?_)); done)))
  | (refine' apart_r q9 ?kaz9 ?kbz9; (case kaz9 => ((repeat (first | with_reducible exact List.mem_cons_self | with_reducible refine List.mem_cons_of_mem _ ?_)); done)); (case kbz9 => ((repeat (first | with_reducible exact List.mem_cons_self | with_reducible refine List.mem_cons_of_mem _ ?_)); done)))
  | (clear q9; k_ne)))
  k_with "m k_inst" => (refine' kb_inst ?Fz9 ?h1z9 ?h2z9; (case Fz9 => k_asm); (case h1z9 => assumption); (case h2z9 => assumption))
  k_with "m subscriptTail" => (k_here; (with_reducible show wpAny _ _ (subscriptTail _ _ (Value.ref _) (Value.str _ _)) _ _ _); k_dflt (refine' kb_item ?Fz9 ?oz9 ?dz9 ?lz9 ?_; (case Fz9 => k_asm); (case oz9 => assumption); (case dz9 => assumption); (case lz9 => first | assumption | rfl); k_whole))
  k_with "m compareOp In str ref" => (k_here; k_dflt (refine' kb_in ?Fz9 ?oz9 ?dz9 ?sz9 ?lz9 ?_; (case Fz9 => k_asm); (case oz9 => assumption); (case dz9 => assumption); (case sz9 => assumption); (case lz9 => first | assumption | rfl); k_whole))
  k_with "m compareOp NotIn str ref" => (k_here; k_dflt (refine' kb_notIn ?Fz9 ?oz9 ?dz9 ?sz9 ?lz9 ?_; (case Fz9 => k_asm); (case oz9 => assumption); (case dz9 => assumption); (case sz9 => assumption); (case lz9 => first | assumption | rfl); k_whole))
  k_with "m subscriptTail" => (k_here; (with_reducible show wpAny _ _ (subscriptTail _ _ (Value.ref _) (Value.int _ _)) _ _ _); k_dflt (refine' kb_lst ?lz9 ?az9 ?bz9 ?xz9 ?_; (case lz9 => is_list); (case xz9 => first | with_reducible assumption | assumption); (case az9 => omega); (case bz9 => omega); k_whole))
  k_with "m call builtin:len" => (k_here; (with_reducible show wpAny _ _ (call (Value.builtin "len") [Value.ref _]) _ _ _); k_dflt (refine' kb_len ?lz9 ?zz9 ?_; (case lz9 => is_list); (case zz9 => first | assumption | omega); k_whole))
  k_with "m k_all" => exact apart_all (by assumption) (by k_mem)
  k_with "m mul_fits" => first | exact PySem.IntMulOk.of_right (PySem.intBits_le_64 (by omega) (by omega)) | exact PySem.IntMulOk.of_left (PySem.intBits_le_64 (by omega) (by omega))
  k_with "m call type:range" => (k_here; (with_reducible show wpAny _ _ (call (Value.type _) [Value.int _ _]) _ _ _); k_dflt (refine' range1_rows ?Fz9 ?Nz9 ?_; (case Fz9 => k_asm); (case Nz9 => k_asm)); intro h'9 tk'9 t1'9 t2'9 t3'9 rg'9 F'9 N'9 rk'9; clear rk'9; (try k_sweep))
  k_with "m compareOp NotIn int ref" => (k_here; k_dflt (refine' ints_in ?lz9 ?iz9 ?mz9 ?_; (case lz9 => is_list); (case iz9 => exact Hold.out (by assumption)); (case mz9 => exact AllIn.out (by assumption) _ (by omega) (by omega)); k_whole))
  k_with "m is_list" => first | with_reducible assumption | exact News.isList (by k_asm) (by k_mem) | exact Fr.lst (by assumption) (by assumption)
  k_with "m loadName" => (k_here; k_dflt (refine' kb_ldn ?Fz9 ?vz9 ?_ ?az9 ?bz9; (case Fz9 => k_asm); (case az9 => rfl); (case bz9 => rfl); (case vz9 => rfl); k_whole))
  k_with "m pyIter ref" => (k_here; (with_reducible show wpAny _ _ (pyIter (Value.ref _)) (fun it s₂ => LoopAtV _ _ _ _ _ _ _ _ _ it s₂) _ _); refine Halt.out ?_)
  k_with "m CompSrc" => (refine Halt.out ?_)
  k_with "m CompSrcT" => (refine Halt.out ?_)
  k_with "m binaryOp Mod int int" => (k_here; refine mod_int' (by omega) ?_)
  k_with "m binaryOp FloorDiv int int" => (k_here; refine floordiv_int (by omega) ?_ (Or.inl (PyProof.noPylong_small (by omega))))
  k_with "m k_upd" => first | (refine' Spl.head ?az9; (case az9 => k_all)) | (refine' Spl.tail ?az9 ?bz9; (case az9 => k_ne); (case bz9 => k_upd))
  k_with "m subscriptTail Name Name ref int" => (k_here; (with_reducible show wpAny _ _ (subscriptTail _ _ (Value.ref _) (Value.int _ _)) _ _ _); k_dflt (refine' kb_lst ?lz9 ?az9 ?bz9 ?xz9 ?_; (case lz9 => is_list); (case xz9 => first | with_reducible assumption | assumption); (case az9 => omega); (case bz9 => omega); k_whole))
  k_with "m subscriptTail Name Subscript ref int" => (k_here; (with_reducible show wpAny _ _ (subscriptTail _ _ (Value.ref _) (Value.int _ _)) _ _ _); k_dflt (refine' kb_lst ?lz9 ?az9 ?bz9 ?xz9 ?_; (case lz9 => is_list); (case xz9 => first | with_reducible assumption | assumption); (case az9 => omega); (case bz9 => omega); k_whole))
  k_with "m subscriptTail Attribute Name Name ref int" => (k_here; (with_reducible show wpAny _ _ (subscriptTail _ _ (Value.ref _) (Value.int _ _)) _ _ _); k_dflt (refine' kb_lst ?lz9 ?az9 ?bz9 ?xz9 ?_; (case lz9 => is_list); (case xz9 => first | with_reducible assumption | assumption); (case az9 => omega); (case bz9 => omega); k_whole))
  k_with "m subscriptTail Name Constant ref int" => (k_here; (with_reducible show wpAny _ _ (subscriptTail _ _ (Value.ref _) (Value.int _ _)) _ _ _); k_dflt (refine' kb_lst ?lz9 ?az9 ?bz9 ?xz9 ?_; (case lz9 => is_list); (case xz9 => first | with_reducible assumption | assumption); (case az9 => omega); (case bz9 => omega); k_whole))
  k_with "m subscriptTail Attribute Name BinOp ref int" => (k_here; (with_reducible show wpAny _ _ (subscriptTail _ _ (Value.ref _) (Value.int _ _)) _ _ _); k_dflt (refine' kb_lst ?lz9 ?az9 ?bz9 ?xz9 ?_; (case lz9 => is_list); (case xz9 => first | with_reducible assumption | assumption); (case az9 => omega); (case bz9 => omega); k_whole))
  k_with "m subscriptTail Attribute Subscript Name ref int" => (k_here; (with_reducible show wpAny _ _ (subscriptTail _ _ (Value.ref _) (Value.int _ _)) _ _ _); k_dflt (refine' kb_lst ?lz9 ?az9 ?bz9 ?xz9 ?_; (case lz9 => is_list); (case xz9 => first | with_reducible assumption | assumption); (case az9 => omega); (case bz9 => omega); k_whole))
  k_with "m eval ListComp" => (k_here; first
  | (lct_look; k_dflt (refine LCt.ListComp_T (F₀ := by k_asm) (by with_unfolding_all rfl) (by decide) (by rfl) (by decide) (by rfl) ?_))
  | ((first | lcg_look | lcf_look); k_dflt (refine LCg.ListComp_U (F₀ := by k_asm) (by with_unfolding_all rfl) (by decide) (by rfl) (by decide) (by rfl) ?_)))
  k_with "m exec Assign cons ListComp" => (k_here; first
  | (lct_look; k_dflt (refine LCt.Assign_ListComp_T (F₀ := by k_asm) (by rfl) (by with_unfolding_all rfl) (by with_unfolding_all rfl) (by decide) (by rfl) (by decide) (by rfl) (by rfl) (by rfl) ?_))
  | ((first | lcg_look | lcf_look); k_dflt (refine LCg.Assign_ListComp_U (F₀ := by k_asm) (by rfl) (by with_unfolding_all rfl) (by with_unfolding_all rfl) (by decide) (by rfl) (by decide) (by rfl) (by rfl) (by rfl) ?_)))
  k_with "m call ref" => (k_here; (with_reducible show wpAny _ _ (call (Value.ref 197) [_, _]) _ _ _); k_dflt (refine' ConM.use (card_con _ _ _ _ ?h1z9 ?h2z9) _ _ _ _ _ _ _ _ _ _ _ _ _ _ _ _ _ _ _ _ _ _ _ _ ?Bz9 ?Fz9 ?Xz9 ?Nz9 ?Uz9 ?Cz9 ?Tz9 ?ckz9 ?hdz9 ?huz9 ?_; (case Bz9 => k_asm); (case Fz9 => k_asm); (case Xz9 => k_asm); (case Nz9 => k_asm); (case Uz9 => k_upd); (case Cz9 => assumption); (case Tz9 => k_asm); (case h1z9 => omega); (case h2z9 => omega); (case ckz9 => first | rfl | assumption); (case hdz9 => omega); (case huz9 => omega); k_whole); intro r'9 nx'9 h'9 tk'9 cs'9 n'9 F'9 N'9 C'9 ne'9 P'9; obtain ⟨hn'9, j'9, u'9, hr'9, hj1'9, hj2'9⟩ := P'9; subst hr'9; subst hn'9; (have nr'9 := Apart.mk ne'9); (replace N'9 := news_swap N'9); (try simp only [List.cons_append, List.nil_append] at N'9); clear ne'9; (try k_sweep))
  k_with "m call ref" => (k_here; (with_reducible show wpAny _ _ (call (Value.ref 190) [_]) _ _ _); k_dflt (refine' cards_con _ _ _ _ ?hiz9 ?hzz9 _ _ _ _ _ _ _ _ _ _ _ _ _ _ _ _ _ _ _ _ _ _ ?Bz9 ?Fz9 ?Xz9 ?Nz9 ?Tz9 ?ckz9 ?hdz9 ?huz9 ?hpz9 ?_; (case Bz9 => k_asm); (case Fz9 => k_asm); (case Xz9 => k_asm); (case Nz9 => k_asm); (case Tz9 => k_asm); (case hpz9 => is_list); (case hiz9 => assumption); (case hzz9 => assumption); (case ckz9 => first | rfl | assumption); (case hdz9 => omega); (case huz9 => omega); k_whole); intro r'9 nx'9 h'9 tk'9 F'9 N'9 ne'9 P'9; obtain ⟨lc'9, cs'9, n'9, hr'9, hn'9, C'9⟩ := P'9; subst hr'9; subst hn'9; (have nr'9 := Apart.mk ne'9); (replace N'9 := news_swap N'9); (try simp only [List.cons_append, List.nil_append] at N'9); clear ne'9; (try k_sweep))
  k_with "m call ref" => (k_here; (with_reducible show wpAny _ _ (call (Value.ref 209) [_, _]) _ _ _); k_dflt (refine' ConM.use (array_con _ _ _ _ ?h1z9 ?h2z9) _ _ _ _ _ _ _ _ _ _ _ _ _ _ _ _ _ _ _ _ _ _ _ _ ?Bz9 ?Fz9 ?Xz9 ?Nz9 ?Uz9 ?Cz9 ?Tz9 ?ckz9 ?hdz9 ?huz9 ?_; (case Bz9 => k_asm); (case Fz9 => k_asm); (case Xz9 => k_asm); (case Nz9 => k_asm); (case Uz9 => k_upd); (case Cz9 => assumption); (case Tz9 => k_asm); (case h1z9 => omega); (case h2z9 => omega); (case ckz9 => first | rfl | assumption); (case hdz9 => omega); (case huz9 => omega); k_whole); intro r'9 nx'9 h'9 tk'9 cs'9 n'9 F'9 N'9 C'9 ne'9 P'9; skip; (have nr'9 := Apart.mk ne'9); (replace N'9 := news_swap N'9); (try simp only [List.cons_append, List.nil_append] at N'9); clear ne'9; (try k_sweep))
  k_with "m call ref" => (k_here; (with_reducible show wpAny _ _ (call (Value.ref 204) [_, _]) _ _ _); k_dflt (refine' ConM.use (order_con _ _ _ _ ?h1z9 ?h2z9) _ _ _ _ _ _ _ _ _ _ _ _ _ _ _ _ _ _ _ _ _ _ _ _ ?Bz9 ?Fz9 ?Xz9 ?Nz9 ?Uz9 ?Cz9 ?Tz9 ?ckz9 ?hdz9 ?huz9 ?_; (case Bz9 => k_asm); (case Fz9 => k_asm); (case Xz9 => k_asm); (case Nz9 => k_asm); (case Uz9 => k_upd); (case Cz9 => assumption); (case Tz9 => k_asm); (case h1z9 => omega); (case h2z9 => omega); (case ckz9 => first | rfl | assumption); (case hdz9 => omega); (case huz9 => omega); k_whole); intro r'9 nx'9 h'9 tk'9 cs'9 n'9 F'9 N'9 C'9 ne'9 P'9; obtain ⟨l'9, nn'9, vs'9, fs'9, hr'9, hn'9, hi'9, hp'9⟩ := P'9; subst hr'9; subst hn'9; (have nr'9 := Apart.mk ne'9); (replace N'9 := news_swap N'9); (try simp only [List.cons_append, List.nil_append] at N'9); clear ne'9; (try k_sweep))
  k_with "m call ref" => (k_here; (with_reducible show wpAny _ _ (call (Value.ref 214) [_]) _ _ _); k_dflt (refine' seen_law _ _ _ _ _ _ ?pfz9 _ _ _ _ _ _ _ _ _ _ _ _ _ _ _ _ _ _ _ _ _ _ ?Bz9 ?Fz9 ?Xz9 ?Nz9 ?Tz9 ?ckz9 ?hdz9 ?huz9 ?hpz9 ?_; (case Bz9 => k_asm); (case Fz9 => k_asm); (case Xz9 => k_asm); (case Nz9 => k_asm); (case Tz9 => k_asm); (case hpz9 => (refine' AR.mono ?hsz9 ?xxz9; (case xxz9 => assumption); (case hsz9 => exact (fun a9 o9 h9 => News.get (by k_asm) (by simp only [List.mem_cons, List.mem_append, h9, true_or, or_true]))))); (case pfz9 => assumption); (case ckz9 => first | rfl | assumption); (case hdz9 => omega); (case huz9 => omega); k_whole); intro r'9 nx'9 h'9 tk'9 F'9 N'9 ne'9 P'9; obtain ⟨t'9, hS'9⟩ := P'9; (have hS0'9 := hS'9); obtain ⟨x'9, l1'9, n1'9, l2'9, n2'9, nv'9, hr'9, hm1'9, hm2'9, hm3'9, hm4'9⟩ := hS0'9; subst hr'9; (have nr'9 := Apart.mk ne'9); (replace N'9 := news_swap N'9); (try simp only [List.cons_append, List.nil_append] at N'9); clear ne'9; (try k_sweep))
  k_with "m call ref" => (k_here; (with_reducible show wpAny _ _ (call (Value.ref 183) [_, _]) _ _ _); k_dflt (refine' aperm_law _ _ _ _ _ _ _ _ _ ?pfz9 ?hp0z9 ?hp1z9 _ _ _ _ _ _ _ _ _ _ _ _ _ _ _ _ _ _ _ _ _ _ ?Bz9 ?Fz9 ?Xz9 ?Nz9 ?Tz9 ?ckz9 ?hdz9 ?huz9 ?hpz9 ?_; (case Bz9 => k_asm); (case Fz9 => k_asm); (case Xz9 => k_asm); (case Nz9 => k_asm); (case Tz9 => k_asm); (case hpz9 => refine' ⟨AR.mono ?hsz9 ?xxz9, ?llz9⟩; (case llz9 => is_list); (case xxz9 => assumption); (case hsz9 => exact (fun a9 o9 h9 => News.get (by k_asm) (by simp only [List.mem_cons, List.mem_append, h9, true_or, or_true])))); (case pfz9 => assumption); (case hp0z9 => first | assumption | exact ints10); (case hp1z9 => assumption); (case ckz9 => first | rfl | assumption); (case hdz9 => omega); (case huz9 => omega); k_whole); intro r'9 nx'9 h'9 tk'9 F'9 N'9 ne'9 P'9; skip; (have nr'9 := Apart.mk ne'9); (replace N'9 := news_swap N'9); (try simp only [List.cons_append, List.nil_append] at N'9); clear ne'9; (try k_sweep))
  k_with "m call ref" => (k_here; (with_reducible show wpAny _ _ (call (Value.ref 183) [_, _]) _ _ _); k_dflt (refine' aperm_lawN _ _ _ _ _ _ ?pfz9 _ _ _ _ _ _ _ _ _ _ _ _ _ _ _ _ _ _ _ _ _ _ ?Bz9 ?Fz9 ?Xz9 ?Nz9 ?Tz9 ?ckz9 ?hdz9 ?huz9 ?hpz9 ?_; (case Bz9 => k_asm); (case Fz9 => k_asm); (case Xz9 => k_asm); (case Nz9 => k_asm); (case Tz9 => k_asm); (case hpz9 => (refine' AR.mono ?hsz9 ?xxz9; (case xxz9 => assumption); (case hsz9 => exact (fun a9 o9 h9 => News.get (by k_asm) (by simp only [List.mem_cons, List.mem_append, h9, true_or, or_true]))))); (case pfz9 => assumption); (case ckz9 => first | rfl | assumption); (case hdz9 => omega); (case huz9 => omega); k_whole); intro r'9 nx'9 h'9 tk'9 F'9 N'9 ne'9 P'9; skip; (have nr'9 := Apart.mk ne'9); (replace N'9 := news_swap N'9); (try simp only [List.cons_append, List.nil_append] at N'9); clear ne'9; (try k_sweep))
  k_with "m call ref" => (k_here; (with_reducible show wpAny _ _ (call (Value.ref 164) [_]) _ _ _); k_dflt (refine' trans_law _ _ _ _ _ _ ?pfz9 ?h2z9 _ _ _ _ _ _ _ _ _ _ _ _ _ _ _ _ _ _ _ _ _ _ ?Bz9 ?Fz9 ?Xz9 ?Nz9 ?Tz9 ?ckz9 ?hdz9 ?huz9 ?hpz9 ?_; (case Bz9 => k_asm); (case Fz9 => k_asm); (case Xz9 => k_asm); (case Nz9 => k_asm); (case Tz9 => k_asm); (case hpz9 => (refine' AR.mono ?hsz9 ?xxz9; (case xxz9 => assumption); (case hsz9 => exact (fun a9 o9 h9 => News.get (by k_asm) (by simp only [List.mem_cons, List.mem_append, h9, true_or, or_true]))))); (case pfz9 => assumption); (case h2z9 => first | assumption | rfl); (case ckz9 => first | rfl | assumption); (case hdz9 => omega); (case huz9 => omega); k_whole); intro r'9 nx'9 h'9 tk'9 F'9 N'9 ne'9 P'9; skip; (have nr'9 := Apart.mk ne'9); (replace N'9 := news_swap N'9); (try simp only [List.cons_append, List.nil_append] at N'9); clear ne'9; (try k_sweep))
  k_with "m subscriptTail" => (k_here; (with_reducible show wpAny _ _ (subscriptTail _ _ (Value.ref _) (Value.str _ _)) _ _ _); k_dflt (refine' kb_itemN ?Nz9 ?mz9 ?dz9 ?lz9 ?_; (case Nz9 => k_asm); (case mz9 => k_mem); (case dz9 => assumption); (case lz9 => first | assumption | rfl); k_whole))
  k_with "m compareOp NotEq ref ref" => (k_here; (with_reducible show wpAny _ _ (compareOp CmpOp.NotEq (Value.ref _) (Value.ref _)) _ _ _); k_dflt (refine' lst_ne ?hAz9 ?hBz9 ?Pz9 ?uz9 ?_; (case hAz9 => is_list); (case hBz9 => is_list); (case Pz9 => assumption); (case uz9 => ke_room); k_whole))
  k_with "m compareOp NotEq ref ref" => (k_here; (with_reducible show wpAny _ _ (compareOp CmpOp.NotEq (Value.ref _) (Value.ref _)) _ _ _); k_dflt (refine' seen_ne ?Pz9 ?hAz9 ?hBz9 ?ez9 ?uz9 ?_; (case hAz9 => (refine' SeenIs.mono ?hsz9 ?xxz9; (case xxz9 => assumption); (case hsz9 => exact (fun a9 o9 h9 => News.get (by k_asm) (by simp only [List.mem_cons, List.mem_append, h9, true_or, or_true]))))); (case hBz9 => (refine' SeenIs.mono ?hsz9 ?xxz9; (case xxz9 => assumption); (case hsz9 => exact (fun a9 o9 h9 => News.get (by k_asm) (by simp only [List.mem_cons, List.mem_append, h9, true_or, or_true]))))); (case Pz9 => assumption); (case ez9 => first | assumption | exact ⟨rfl, rfl, rfl⟩); (case uz9 => ke_room); k_whole))
  k_with "m compareOp Eq ref ref" => (k_here; (with_reducible show wpAny _ _ (compareOp CmpOp.Eq (Value.ref _) (Value.ref _)) _ _ _); k_dflt (refine' seen_eq ?Pz9 ?hAz9 ?hBz9 ?ez9 ?uz9 ?_; (case hAz9 => (refine' SeenIs.mono ?hsz9 ?xxz9; (case xxz9 => assumption); (case hsz9 => exact (fun a9 o9 h9 => News.get (by k_asm) (by simp only [List.mem_cons, List.mem_append, h9, true_or, or_true]))))); (case hBz9 => (refine' SeenIs.mono ?hsz9 ?xxz9; (case xxz9 => assumption); (case hsz9 => exact (fun a9 o9 h9 => News.get (by k_asm) (by simp only [List.mem_cons, List.mem_append, h9, true_or, or_true]))))); (case Pz9 => assumption); (case ez9 => first | assumption | exact ⟨rfl, rfl, rfl⟩); (case uz9 => ke_room); k_whole))
  k_with "m k_all" => first | assumption | exact apart_all (by assumption) (by k_mem) | exact off_app (by k_all) (by k_all)
  k_with "m k_mem" => first | with_reducible assumption | with_reducible exact List.mem_cons_self | (with_reducible refine List.mem_cons_of_mem _ ?_; k_mem) | (with_reducible refine List.mem_append_left _ ?_; k_mem) | (with_reducible refine List.mem_append_right _ ?_; k_mem)
  k_with "m execs cons" => (k_here; with_reducible refine Halt.out ?_)
  k_with "m call ref" => (k_here; (with_reducible show wpAny _ _ (call (Value.ref 99) [_, _]) _ _ _); k_dflt (refine' vec_con _ _ _ ?hkz9 ?hiz9 _ _ _ _ _ _ _ _ _ _ _ _ _ _ _ _ _ _ _ _ _ _ ?Bz9 ?Fz9 ?Xz9 ?Nz9 ?Tz9 ?ckz9 ?hdz9 ?huz9 ?hpz9 ?_; (case Bz9 => k_asm); (case Fz9 => k_asm); (case Xz9 => k_asm); (case Nz9 => k_asm); (case Tz9 => k_asm); (case hpz9 => exact True.intro); (case hkz9 => k_handed); (case hiz9 => k_handed); (case ckz9 => first | rfl | assumption); (case hdz9 => omega); (case huz9 => omega); k_whole); intro r'9 nx'9 h'9 tk'9 F'9 N'9 ne'9 P'9; obtain ⟨x'9, d'9, t1'9, t2'9, t3'9, t4'9, t5'9, hr'9, hx'9, hn'9⟩ := P'9; subst hr'9; subst hn'9; replace hx'9 := neN hx'9; (have nr'9 := Apart.mk ne'9); (replace N'9 := news_swap N'9); (try simp only [List.cons_append, List.nil_append] at N'9); clear ne'9; (try k_sweep))
  k_with "m subscriptTail Constant Name str int" => (k_here; (with_reducible show wpAny _ _ (subscriptTail _ _ (Value.str _ _) (Value.int _ _)) _ _ _); k_dflt (refine' kb_abc ?az9 ?bz9 ?xz9 ?_; (case az9 => omega); (case bz9 => omega); (case xz9 => decide +kernel); k_whole); intro y'9 t'9 hl'9; (try dsimp only))
  k_with "m call type:str" => (k_here; (with_reducible show wpAny _ _ (call (Value.type "str") [Value.int _ _]) _ _ _); k_dflt (refine' kb_stri ?az9 ?bz9 ?_; (case az9 => omega); (case bz9 => omega); k_whole); intro y'9 t'9 hl'9 ho'9; (try dsimp only))
  k_with "m binaryOp Add str str" => (k_here; (with_reducible show wpAny _ _ (binaryOp _ (Value.str _ _) (Value.str _ _)) _ _ _); k_dflt (refine' kb_addstr ?az9 ?bz9 ?cz9 ?dz9 ?_; (case az9 => first | omega | exact Nat.le_of_ble_eq_true rfl | decide +kernel); (case bz9 => first | omega | exact Nat.le_of_ble_eq_true rfl | decide +kernel); (case cz9 => first | with_reducible assumption | exact ofString_ok' _ | exact item_ok (by omega) (by omega)); (case dz9 => first | with_reducible assumption | exact ofString_ok' _); k_whole); intro y'9 t'9 tk'9 ok'9; (try dsimp only))
  k_with "m eval Name" => (k_here; (with_reducible show wpAny _ _ (eval (Expr.Name _ _) (envX _ _ _ _ _ _)) _ _ _); k_dflt (refine' nameX_C ?Nz9 ?cz9 ?mz9 ?dz9 ?_ ?az9 ?bz9; (case az9 => rfl); (case bz9 => rfl); (case Nz9 => k_asm); (case cz9 => rfl); (case mz9 => k_mem); (case dz9 => k_asm); k_whole))
  trivial
set_option maxHeartbeats 4000000 in
theorem law_w8 {w : World} {name qual : Str} {params : Arguments} {body : List Stmt} {scope : Scope} {dV kV doc pm cdv ct oc : Value} {an od : Option Addr} {osl : Array (Option Value)}
    (ho : (hd.heap_39 w.params).lookup 219 = some ⟨oc, od, .func (fnOf name qual params body scope dV kV doc pm an cdv ct), osl⟩)
    (loose : List Str) (mean : ExcName → Option Value) (mg mb : Str → Option Value) (dp un : Nat) (gd : Option (List Code)) (outer : List Env) (A₀ : Around) (base H : Heap) (L' fa : Addr) (cdv' : Value) (s : Shared) (oF oH : Obj) (c lg hx l : Addr) (cs : List Value) (n : Nat) (K : List (Addr × Obj)) (v spun rv : Value) (is ds : List Value) (nm : Option (List (Option (List Value)))) (es : List Int) (th tw : Tok) (mv : Value) (Q : Flow → Shared → Prop)
    (B : Below A₀ base outer H) (X : (hd.heap_39 w.params).In H) (T : Top hd.view_39 loose mean mg mb H) (hd' : dp + 40 < recursionLimit) (hu : un + 400 < cLine) (F : Fr H L' s.heap (fun y => List.lookup y [(Str.ofString "m", mv), (Str.ofString "reverse_one", rv), (Str.ofString "spun", spun), (Str.ofString "second", .ref lg), (Str.ofString "v", v), (Str.ofString "wide", .int (es.length : Int) tw), (Str.ofString "cards", .ref c), (Str.ofString "script", .ref l)]))
    (N : News H L' s.heap ((L' + 1 + 1, oF) :: (L' + 1, oH) :: (c, W.listOf cs.toArray n) :: K)) (k1 : ∀ p ∈ K, p.1 ≠ L' + 1 + 1) (k2 : ∀ p ∈ K, p.1 ≠ L' + 1) (k3 : ∀ p ∈ K, p.1 ≠ c) (ca : c ≠ L' + 1 + 1) (cb : c ≠ L' + 1) (hcs : Cards cs) (dH : oH.data = .cell (some (.ref hx)))
    (hPv : PF is ds nm es) (hAv : AR w (lAt K) v is ds nm) (hheld : SeenIs (lAt K) (.ref hx) (Str.ofString "integer") th is ds nm)
    (hret : ∀ h' tk' m', Fr H L' h' m' → Q (.ret (.bool true)) { s with heap := h', toks := tk' }) :
    wpAny (model PySem.Challenge.rw_pq1314_01.row.prog w) (ktrTop dp un gd qual scope L' fa cdv' (cellsFrom (L' + 1) scope.names []) outer) (execs (body.drop 15) (envX qual scope L' fa cdv' (cellsFrom (L' + 1) scope.names []))) Q (fun _ _ => False) s := by

  have ho0 := ho
  cases ho
  have hVv := hPv.pvs
  refine wpAny_execs_cons ?_
  k_steps
  (rename Fr _ _ _ _ => F2); (rename News _ _ _ _ => N2); (rename (_ : Int) < 4 => hj1); (rename 0 ≤ (_ : Int) => hj0)
  refine ⟨?_⟩
  obtain ⟨z, hz⟩ := Int.eq_ofNat_of_zero_le hj0
  subst hz
  simp only [lookup_if] at F2
  refine wpAny_execs_cons ?_
  k_steps
  (rename Fr _ _ _ _ => F2); (rename News _ _ _ _ => N2); (rename IsRange _ _ _ _ _ _ _ _ => rg)
  refine ⟨?_⟩
  obtain ⟨nw0, hnw0, N2⟩ : ∃ nw0, nw0 = _ ∧ News H L' _ nw0 := ⟨_, rfl, N2⟩
  refine LCg.CompSrc.range (n := z) rfl F2 N2 rg (small_of (by omega) (by omega)) (range_size z) (by rw [sizeLine_eq]; omega) ?_
  intro g'
  refine rest_ind z (fun i zs news => Hold (news = nw0 ∧ (∀ v ∈ zs, ∃ x t, v = .str x t ∧ PySem.PyData.strOk x = true) ∧ zs.length = i)) ?_ ?_ z 0 [] _ (by omega) ⟨rfl, (fun _ h => nomatch h), rfl⟩
  · rintro i zs news v9 I oI C oC E m₂ h tk E' hi ⟨rfl, his, hil⟩ ⟨t', rfl⟩ hC hx F' N' o ne
    subst hnw0
    clear F2 N2 rg
    have o0 := o
    simp only [LCg.Off3] at o
    k_steps
    first
    | exact ⟨rfl, str_snoc his (by assumption), by simp [hil]⟩
    | exact LCg.CompEnd.intro F' N' _ (fun _ h => h) o0 trivial ⟨rfl, str_snoc his (by assumption), by simp [hil]⟩
  · rintro zs news ⟨rfl, his, hil⟩
    intro D h tk F' N' o3'
    subst hnw0
    clear F2 N2 rg
    simp only [LCg.Off1] at o3'
    replace his := Hold.mk his
    k_steps
    (rename Fr _ _ _ _ => F2); (rename News _ _ _ _ => N2); (rename Cards _ => hcs2); (rename Apart _ [_, _] => q9); (rename @Ne Nat _ _ => hxd)
    refine ⟨?_⟩
    simp only [lookup_if] at F2
    refine wpAny_execs_cons ?_
    k_steps
    (rename Fr _ _ _ _ => F2); (rename News _ _ _ _ => N2)
    simp only [lookup_if] at F2
    refine ⟨?_⟩
    exact law_w9 ho0 loose mean mg mb dp un gd outer A₀ base H L' fa cdv' _ oF oH c lg hx l _ _ D _ zs _ z K v spun rv mv is ds nm es th tw _ _ _ _ _ _ _ Q B X T hd' hu F2
      (news_sub N2 sub_w8) k1 k2 k3 ca cb hcs2 dH hPv hAv hheld
      (fun p hp => q9.out p (.tail _ (.tail _ (.tail _ (.tail _ (mem_K hp))))) _ (.tail _ (.head _))) hxd (q9.out _ (.head _) _ (.tail _ (.head _))) (q9.out _ (.tail _ (.head _)) _ (.tail _ (.head _))) (q9.out _ (.tail _ (.tail _ (.head _))) _ (.tail _ (.head _))) (q9.out _ (.tail _ (.tail _ (.tail _ (.head _)))) _ (.tail _ (.head _)))
      (Ne.symm (q9.out _ (.tail _ (.tail _ (.tail _ (.head _)))) _ (.head _))) (Ne.symm o3'.2.2.1) (by omega) hil his (fun h' tk' m' F => hret h' tk' m' F)
end Mine
end
section
open PySem PySem.W PySem.Calls PySem.Spec PyProof.Rows
theorem Mine.devW7 : (PySem.Challenge.rw_pq1314_01.foot = 6) → Mine.hd.heap_39 = Mine.hd.heap_39 := by
  k_fill
  intro _; rfl
namespace Mine
theorem regW7_1 : True := by
  k_with_none
  k_with "m k_ne" => (refine neN ?_; (try dsimp only); first
    | with_reducible assumption
    | exact Ne.symm (by with_reducible assumption)
    | ((repeat (rename _ ∧ _ => q8z9; rcases q8z9 with ⟨_, _⟩)); first
      | with_reducible assumption
      | exact Ne.symm (by with_reducible assumption)
      | exact Nat.ne_of_gt (by with_reducible assumption)
      | exact Nat.ne_of_lt (by with_reducible assumption)))
  k_with "m k_all" => assumption
  k_with "m k_handed" => assumption
  k_with "m k_ne" => (refine neN ?_; (try dsimp only); first | with_reducible assumption | exact Ne.symm (by with_reducible assumption) | ((rename Apart _ _ => q9); first
  | (refine' apart_l q9 ?kaz9 ?kbz9; (case kaz9 => ((repeat (first | with_reducible exact List.mem_cons_self | with_reducible refine List.mem_cons_of_mem _ ?_)); done)); (case kbz9 => ((repeat (first | with_reducible exact List.mem_cons_self | with_reducible refine List.mem_cons_of_mem _ ?_)); done)))
  | (refine' apart_r q9 ?kaz9 ?kbz9; (case kaz9 => ((repeat (first | with_reducible exact List.mem_cons_self | with_reducible refine List.mem_cons_of_mem _ ?_)); done)); (case kbz9 => ((repeat (first | with_reducible exact List.mem_cons_self | with_reducible refine List.mem_cons_of_mem _ ?_)); done)))
  | (clear q9; k_ne)))
  k_with "m k_inst" => (refine' kb_inst ?Fz9 ?h1z9 ?h2z9; (case Fz9 => k_asm); (case h1z9 => assumption); (case h2z9 => assumption))
  k_with "m subscriptTail" => (k_here; (with_reducible show wpAny _ _ (subscriptTail _ _ (Value.ref _) (Value.str _ _)) _ _ _); k_dflt (refine' kb_item ?Fz9 ?oz9 ?dz9 ?lz9 ?_; (case Fz9 => k_asm); (case oz9 => assumption); (case dz9 => assumption); (case lz9 => first | assumption | rfl); k_whole))
  k_with "m compareOp In str ref" => (k_here; k_dflt (refine' kb_in ?Fz9 ?oz9 ?dz9 ?sz9 ?lz9 ?_; (case Fz9 => k_asm); (case oz9 => assumption); (case dz9 => assumption); (case sz9 => assumption); (case lz9 => first | assumption | rfl); k_whole))
  k_with "m compareOp NotIn str ref" => (k_here; k_dflt (refine' kb_notIn ?Fz9 ?oz9 ?dz9 ?sz9 ?lz9 ?_; (case Fz9 => k_asm); (case oz9 => assumption); (case dz9 => assumption); (case sz9 => assumption); (case lz9 => first | assumption | rfl); k_whole))
  k_with "m subscriptTail" => (k_here; (with_reducible show wpAny _ _ (subscriptTail _ _ (Value.ref _) (Value.int _ _)) _ _ _); k_dflt (refine' kb_lst ?lz9 ?az9 ?bz9 ?xz9 ?_; (case lz9 => is_list); (case xz9 => first | with_reducible assumption | assumption); (case az9 => omega); (case bz9 => omega); k_whole))
  k_with "m call builtin:len" => (k_here; (with_reducible show wpAny _ _ (call (Value.builtin "len") [Value.ref _]) _ _ _); k_dflt (refine' kb_len ?lz9 ?zz9 ?_; (case lz9 => is_list); (case zz9 => first | assumption | omega); k_whole))
  k_with "m k_all" => exact apart_all (by assumption) (by k_mem)
  k_with "m mul_fits" => first | exact PySem.IntMulOk.of_right (PySem.intBits_le_64 (by omega) (by omega)) | exact PySem.IntMulOk.of_left (PySem.intBits_le_64 (by omega) (by omega))
  k_with "m call type:range" => (k_here; (with_reducible show wpAny _ _ (call (Value.type _) [Value.int _ _]) _ _ _); k_dflt (refine' range1_rows ?Fz9 ?Nz9 ?_; (case Fz9 => k_asm); (case Nz9 => k_asm)); intro h'9 tk'9 t1'9 t2'9 t3'9 rg'9 F'9 N'9 rk'9; clear rk'9; (try k_sweep))
  k_with "m compareOp NotIn int ref" => (k_here; k_dflt (refine' ints_in ?lz9 ?iz9 ?mz9 ?_; (case lz9 => is_list); (case iz9 => exact Hold.out (by assumption)); (case mz9 => exact AllIn.out (by assumption) _ (by omega) (by omega)); k_whole))
  k_with "m is_list" => first | with_reducible assumption | exact News.isList (by k_asm) (by k_mem) | exact Fr.lst (by assumption) (by assumption)
  k_with "m loadName" => (k_here; k_dflt (refine' kb_ldn ?Fz9 ?vz9 ?_ ?az9 ?bz9; (case Fz9 => k_asm); (case az9 => rfl); (case bz9 => rfl); (case vz9 => rfl); k_whole))
  k_with "m pyIter ref" => (k_here; (with_reducible show wpAny _ _ (pyIter (Value.ref _)) (fun it s₂ => LoopAtV _ _ _ _ _ _ _ _ _ it s₂) _ _); refine Halt.out ?_)
  k_with "m CompSrc" => (refine Halt.out ?_)
  k_with "m CompSrcT" => (refine Halt.out ?_)
  k_with "m binaryOp Mod int int" => (k_here; refine mod_int' (by omega) ?_)
  k_with "m binaryOp FloorDiv int int" => (k_here; refine floordiv_int (by omega) ?_ (Or.inl (PyProof.noPylong_small (by omega))))
  k_with "m k_upd" => first | (refine' Spl.head ?az9; (case az9 => k_all)) | (refine' Spl.tail ?az9 ?bz9; (case az9 => k_ne); (case bz9 => k_upd))
  k_with "m subscriptTail Name Name ref int" => (k_here; (with_reducible show wpAny _ _ (subscriptTail _ _ (Value.ref _) (Value.int _ _)) _ _ _); k_dflt (refine' kb_lst ?lz9 ?az9 ?bz9 ?xz9 ?_; (case lz9 => is_list); (case xz9 => first | with_reducible assumption | assumption); (case az9 => omega); (case bz9 => omega); k_whole))
  k_with "m subscriptTail Name Subscript ref int" => (k_here; (with_reducible show wpAny _ _ (subscriptTail _ _ (Value.ref _) (Value.int _ _)) _ _ _); k_dflt (refine' kb_lst ?lz9 ?az9 ?bz9 ?xz9 ?_; (case lz9 => is_list); (case xz9 => first | with_reducible assumption | assumption); (case az9 => omega); (case bz9 => omega); k_whole))
  k_with "m subscriptTail Attribute Name Name ref int" => (k_here; (with_reducible show wpAny _ _ (subscriptTail _ _ (Value.ref _) (Value.int _ _)) _ _ _); k_dflt (refine' kb_lst ?lz9 ?az9 ?bz9 ?xz9 ?_; (case lz9 => is_list); (case xz9 => first | with_reducible assumption | assumption); (case az9 => omega); (case bz9 => omega); k_whole))
  k_with "m subscriptTail Name Constant ref int" => (k_here; (with_reducible show wpAny _ _ (subscriptTail _ _ (Value.ref _) (Value.int _ _)) _ _ _); k_dflt (refine' kb_lst ?lz9 ?az9 ?bz9 ?xz9 ?_; (case lz9 => is_list); (case xz9 => first | with_reducible assumption | assumption); (case az9 => omega); (case bz9 => omega); k_whole))
  k_with "m subscriptTail Attribute Name BinOp ref int" => (k_here; (with_reducible show wpAny _ _ (subscriptTail _ _ (Value.ref _) (Value.int _ _)) _ _ _); k_dflt (refine' kb_lst ?lz9 ?az9 ?bz9 ?xz9 ?_; (case lz9 => is_list); (case xz9 => first | with_reducible assumption | assumption); (case az9 => omega); (case bz9 => omega); k_whole))
  k_with "m subscriptTail Attribute Subscript Name ref int" => (k_here; (with_reducible show wpAny _ _ (subscriptTail _ _ (Value.ref _) (Value.int _ _)) _ _ _); k_dflt (refine' kb_lst ?lz9 ?az9 ?bz9 ?xz9 ?_; (case lz9 => is_list); (case xz9 => first | with_reducible assumption | assumption); (case az9 => omega); (case bz9 => omega); k_whole))
  k_with "m eval ListComp" => (k_here; first
  | (lct_look; k_dflt (refine LCt.ListComp_T (F₀ := by k_asm) (by with_unfolding_all rfl) (by decide) (by rfl) (by decide) (by rfl) ?_))
  | ((first | lcg_look | lcf_look); k_dflt (refine LCg.ListComp_U (F₀ := by k_asm) (by with_unfolding_all rfl) (by decide) (by rfl) (by decide) (by rfl) ?_)))
  k_with "m exec Assign cons ListComp" => (k_here; first
  | (lct_look; k_dflt (refine LCt.Assign_ListComp_T (F₀ := by k_asm) (by rfl) (by with_unfolding_all rfl) (by with_unfolding_all rfl) (by decide) (by rfl) (by decide) (by rfl) (by rfl) (by rfl) ?_))
  | ((first | lcg_look | lcf_look); k_dflt (refine LCg.Assign_ListComp_U (F₀ := by k_asm) (by rfl) (by with_unfolding_all rfl) (by with_unfolding_all rfl) (by decide) (by rfl) (by decide) (by rfl) (by rfl) (by rfl) ?_)))
  k_with "m call ref" => (k_here; (with_reducible show wpAny _ _ (call (Value.ref 197) [_, _]) _ _ _); k_dflt (refine' ConM.use (card_con _ _ _ _ ?h1z9 ?h2z9) _ _ _ _ _ _ _ _ _ _ _ _ _ _ _ _ _ _ _ _ _ _ _ _ ?Bz9 ?Fz9 ?Xz9 ?Nz9 ?Uz9 ?Cz9 ?Tz9 ?ckz9 ?hdz9 ?huz9 ?_; (case Bz9 => k_asm); (case Fz9 => k_asm); (case Xz9 => k_asm); (case Nz9 => k_asm); (case Uz9 => k_upd); (case Cz9 => assumption); (case Tz9 => k_asm); (case h1z9 => omega); (case h2z9 => omega); (case ckz9 => first | rfl | assumption); (case hdz9 => omega); (case huz9 => omega); k_whole); intro r'9 nx'9 h'9 tk'9 cs'9 n'9 F'9 N'9 C'9 ne'9 P'9; obtain ⟨hn'9, j'9, u'9, hr'9, hj1'9, hj2'9⟩ := P'9; subst hr'9; subst hn'9; (have nr'9 := Apart.mk ne'9); (replace N'9 := news_swap N'9); (try simp only [List.cons_append, List.nil_append] at N'9); clear ne'9; (try k_sweep))
  k_with "m call ref" => (k_here; (with_reducible show wpAny _ _ (call (Value.ref 190) [_]) _ _ _); k_dflt (refine' cards_con _ _ _ _ ?hiz9 ?hzz9 _ _ _ _ _ _ _ _ _ _ _ _ _ _ _ _ _ _ _ _ _ _ ?Bz9 ?Fz9 ?Xz9 ?Nz9 ?Tz9 ?ckz9 ?hdz9 ?huz9 ?hpz9 ?_; (case Bz9 => k_asm); (case Fz9 => k_asm); (case Xz9 => k_asm); (case Nz9 => k_asm); (case Tz9 => k_asm); (case hpz9 => is_list); (case hiz9 => assumption); (case hzz9 => assumption); (case ckz9 => first | rfl | assumption); (case hdz9 => omega); (case huz9 => omega); k_whole); intro r'9 nx'9 h'9 tk'9 F'9 N'9 ne'9 P'9; obtain ⟨lc'9, cs'9, n'9, hr'9, hn'9, C'9⟩ := P'9; subst hr'9; subst hn'9; (have nr'9 := Apart.mk ne'9); (replace N'9 := news_swap N'9); (try simp only [List.cons_append, List.nil_append] at N'9); clear ne'9; (try k_sweep))
  k_with "m call ref" => (k_here; (with_reducible show wpAny _ _ (call (Value.ref 209) [_, _]) _ _ _); k_dflt (refine' ConM.use (array_con _ _ _ _ ?h1z9 ?h2z9) _ _ _ _ _ _ _ _ _ _ _ _ _ _ _ _ _ _ _ _ _ _ _ _ ?Bz9 ?Fz9 ?Xz9 ?Nz9 ?Uz9 ?Cz9 ?Tz9 ?ckz9 ?hdz9 ?huz9 ?_; (case Bz9 => k_asm); (case Fz9 => k_asm); (case Xz9 => k_asm); (case Nz9 => k_asm); (case Uz9 => k_upd); (case Cz9 => assumption); (case Tz9 => k_asm); (case h1z9 => omega); (case h2z9 => omega); (case ckz9 => first | rfl | assumption); (case hdz9 => omega); (case huz9 => omega); k_whole); intro r'9 nx'9 h'9 tk'9 cs'9 n'9 F'9 N'9 C'9 ne'9 P'9; skip; (have nr'9 := Apart.mk ne'9); (replace N'9 := news_swap N'9); (try simp only [List.cons_append, List.nil_append] at N'9); clear ne'9; (try k_sweep))
  k_with "m call ref" => (k_here; (with_reducible show wpAny _ _ (call (Value.ref 204) [_, _]) _ _ _); k_dflt (refine' ConM.use (order_con _ _ _ _ ?h1z9 ?h2z9) _ _ _ _ _ _ _ _ _ _ _ _ _ _ _ _ _ _ _ _ _ _ _ _ ?Bz9 ?Fz9 ?Xz9 ?Nz9 ?Uz9 ?Cz9 ?Tz9 ?ckz9 ?hdz9 ?huz9 ?_; (case Bz9 => k_asm); (case Fz9 => k_asm); (case Xz9 => k_asm); (case Nz9 => k_asm); (case Uz9 => k_upd); (case Cz9 => assumption); (case Tz9 => k_asm); (case h1z9 => omega); (case h2z9 => omega); (case ckz9 => first | rfl | assumption); (case hdz9 => omega); (case huz9 => omega); k_whole); intro r'9 nx'9 h'9 tk'9 cs'9 n'9 F'9 N'9 C'9 ne'9 P'9; obtain ⟨l'9, nn'9, vs'9, fs'9, hr'9, hn'9, hi'9, hp'9⟩ := P'9; subst hr'9; subst hn'9; (have nr'9 := Apart.mk ne'9); (replace N'9 := news_swap N'9); (try simp only [List.cons_append, List.nil_append] at N'9); clear ne'9; (try k_sweep))
  k_with "m call ref" => (k_here; (with_reducible show wpAny _ _ (call (Value.ref 214) [_]) _ _ _); k_dflt (refine' seen_law _ _ _ _ _ _ ?pfz9 _ _ _ _ _ _ _ _ _ _ _ _ _ _ _ _ _ _ _ _ _ _ ?Bz9 ?Fz9 ?Xz9 ?Nz9 ?Tz9 ?ckz9 ?hdz9 ?huz9 ?hpz9 ?_; (case Bz9 => k_asm); (case Fz9 => k_asm); (case Xz9 => k_asm); (case Nz9 => k_asm); (case Tz9 => k_asm); (case hpz9 => (refine' AR.mono ?hsz9 ?xxz9; (case xxz9 => assumption); (case hsz9 => exact (fun a9 o9 h9 => News.get (by k_asm) (by simp only [List.mem_cons, List.mem_append, h9, true_or, or_true]))))); (case pfz9 => assumption); (case ckz9 => first | rfl | assumption); (case hdz9 => omega); (case huz9 => omega); k_whole); intro r'9 nx'9 h'9 tk'9 F'9 N'9 ne'9 P'9; obtain ⟨t'9, hS'9⟩ := P'9; (have hS0'9 := hS'9); obtain ⟨x'9, l1'9, n1'9, l2'9, n2'9, nv'9, hr'9, hm1'9, hm2'9, hm3'9, hm4'9⟩ := hS0'9; subst hr'9; (have nr'9 := Apart.mk ne'9); (replace N'9 := news_swap N'9); (try simp only [List.cons_append, List.nil_append] at N'9); clear ne'9; (try k_sweep))
  k_with "m call ref" => (k_here; (with_reducible show wpAny _ _ (call (Value.ref 183) [_, _]) _ _ _); k_dflt (refine' aperm_law _ _ _ _ _ _ _ _ _ ?pfz9 ?hp0z9 ?hp1z9 _ _ _ _ _ _ _ _ _ _ _ _ _ _ _ _ _ _ _ _ _ _ ?Bz9 ?Fz9 ?Xz9 ?Nz9 ?Tz9 ?ckz9 ?hdz9 ?huz9 ?hpz9 ?_; (case Bz9 => k_asm); (case Fz9 => k_asm); (case Xz9 => k_asm); (case Nz9 => k_asm); (case Tz9 => k_asm); (case hpz9 => refine' ⟨AR.mono ?hsz9 ?xxz9, ?llz9⟩; (case llz9 => is_list); (case xxz9 => assumption); (case hsz9 => exact (fun a9 o9 h9 => News.get (by k_asm) (by simp only [List.mem_cons, List.mem_append, h9, true_or, or_true])))); (case pfz9 => assumption); (case hp0z9 => first | assumption | exact ints10); (case hp1z9 => assumption); (case ckz9 => first | rfl | assumption); (case hdz9 => omega); (case huz9 => omega); k_whole); intro r'9 nx'9 h'9 tk'9 F'9 N'9 ne'9 P'9; skip; (have nr'9 := Apart.mk ne'9); (replace N'9 := news_swap N'9); (try simp only [List.cons_append, List.nil_append] at N'9); clear ne'9; (try k_sweep))
  k_with "m call ref" => (k_here; (with_reducible show wpAny _ _ (call (Value.ref 183) [_, _]) _ _ _); k_dflt (refine' aperm_lawN _ _ _ _ _ _ ?pfz9 _ _ _ _ _ _ _ _ _ _ _ _ _ _ _ _ _ _ _ _ _ _ ?Bz9 ?Fz9 ?Xz9 ?Nz9 ?Tz9 ?ckz9 ?hdz9 ?huz9 ?hpz9 ?_; (case Bz9 => k_asm); (case Fz9 => k_asm); (case Xz9 => k_asm); (case Nz9 => k_asm); (case Tz9 => k_asm); (case hpz9 => (refine' AR.mono ?hsz9 ?xxz9; (case xxz9 => assumption); (case hsz9 => exact (fun a9 o9 h9 => News.get (by k_asm) (by simp only [List.mem_cons, List.mem_append, h9, true_or, or_true]))))); (case pfz9 => assumption); (case ckz9 => first | rfl | assumption); (case hdz9 => omega); (case huz9 => omega); k_whole); intro r'9 nx'9 h'9 tk'9 F'9 N'9 ne'9 P'9; skip; (have nr'9 := Apart.mk ne'9); (replace N'9 := news_swap N'9); (try simp only [List.cons_append, List.nil_append] at N'9); clear ne'9; (try k_sweep))
  k_with "m call ref" => (k_here; (with_reducible show wpAny _ _ (call (Value.ref 164) [_]) _ _ _); k_dflt (refine' trans_law _ _ _ _ _ _ ?pfz9 ?h2z9 _ _ _ _ _ _ _ _ _ _ _ _ _ _ _ _ _ _ _ _ _ _ ?Bz9 ?Fz9 ?Xz9 ?Nz9 ?Tz9 ?ckz9 ?hdz9 ?huz9 ?hpz9 ?_; (case Bz9 => k_asm); (case Fz9 => k_asm); (case Xz9 => k_asm); (case Nz9 => k_asm); (case Tz9 => k_asm); (case hpz9 => (refine' AR.mono ?hsz9 ?xxz9; (case xxz9 => assumption); (case hsz9 => exact (fun a9 o9 h9 => News.get (by k_asm) (by simp only [List.mem_cons, List.mem_append, h9, true_or, or_true]))))); (case pfz9 => assumption); (case h2z9 => first | assumption | rfl); (case ckz9 => first | rfl | assumption); (case hdz9 => omega); (case huz9 => omega); k_whole); intro r'9 nx'9 h'9 tk'9 F'9 N'9 ne'9 P'9; skip; (have nr'9 := Apart.mk ne'9); (replace N'9 := news_swap N'9); (try simp only [List.cons_append, List.nil_append] at N'9); clear ne'9; (try k_sweep))
  k_with "m subscriptTail" => (k_here; (with_reducible show wpAny _ _ (subscriptTail _ _ (Value.ref _) (Value.str _ _)) _ _ _); k_dflt (refine' kb_itemN ?Nz9 ?mz9 ?dz9 ?lz9 ?_; (case Nz9 => k_asm); (case mz9 => k_mem); (case dz9 => assumption); (case lz9 => first | assumption | rfl); k_whole))
  k_with "m compareOp NotEq ref ref" => (k_here; (with_reducible show wpAny _ _ (compareOp CmpOp.NotEq (Value.ref _) (Value.ref _)) _ _ _); k_dflt (refine' lst_ne ?hAz9 ?hBz9 ?Pz9 ?uz9 ?_; (case hAz9 => is_list); (case hBz9 => is_list); (case Pz9 => assumption); (case uz9 => ke_room); k_whole))
  k_with "m compareOp NotEq ref ref" => (k_here; (with_reducible show wpAny _ _ (compareOp CmpOp.NotEq (Value.ref _) (Value.ref _)) _ _ _); k_dflt (refine' seen_ne ?Pz9 ?hAz9 ?hBz9 ?ez9 ?uz9 ?_; (case hAz9 => (refine' SeenIs.mono ?hsz9 ?xxz9; (case xxz9 => assumption); (case hsz9 => exact (fun a9 o9 h9 => News.get (by k_asm) (by simp only [List.mem_cons, List.mem_append, h9, true_or, or_true]))))); (case hBz9 => (refine' SeenIs.mono ?hsz9 ?xxz9; (case xxz9 => assumption); (case hsz9 => exact (fun a9 o9 h9 => News.get (by k_asm) (by simp only [List.mem_cons, List.mem_append, h9, true_or, or_true]))))); (case Pz9 => assumption); (case ez9 => first | assumption | exact ⟨rfl, rfl, rfl⟩); (case uz9 => ke_room); k_whole))
  k_with "m compareOp Eq ref ref" => (k_here; (with_reducible show wpAny _ _ (compareOp CmpOp.Eq (Value.ref _) (Value.ref _)) _ _ _); k_dflt (refine' seen_eq ?Pz9 ?hAz9 ?hBz9 ?ez9 ?uz9 ?_; (case hAz9 => (refine' SeenIs.mono ?hsz9 ?xxz9; (case xxz9 => assumption); (case hsz9 => exact (fun a9 o9 h9 => News.get (by k_asm) (by simp only [List.mem_cons, List.mem_append, h9, true_or, or_true]))))); (case hBz9 => (refine' SeenIs.mono ?hsz9 ?xxz9; (case xxz9 => assumption); (case hsz9 => exact (fun a9 o9 h9 => News.get (by k_asm) (by simp only [List.mem_cons, List.mem_append, h9, true_or, or_true]))))); (case Pz9 => assumption); (case ez9 => first | assumption | exact ⟨rfl, rfl, rfl⟩); (case uz9 => ke_room); k_whole))
  k_with "m k_all" => first | assumption | exact apart_all (by assumption) (by k_mem) | exact off_app (by k_all) (by k_all)
  k_with "m k_mem" => first | with_reducible assumption | with_reducible exact List.mem_cons_self | (with_reducible refine List.mem_cons_of_mem _ ?_; k_mem) | (with_reducible refine List.mem_append_left _ ?_; k_mem) | (with_reducible refine List.mem_append_right _ ?_; k_mem)
  k_with "m execs cons" => (k_here; with_reducible refine Halt.out ?_)
  k_with "m call ref" => (k_here; (with_reducible show wpAny _ _ (call (Value.ref 209) [_, _]) _ _ _); k_dflt (refine' ConM.use (array_con2 _ _ _) _ _ _ _ _ _ _ _ _ _ _ _ _ _ _ _ _ _ _ _ _ _ _ _ ?Bz9 ?Fz9 ?Xz9 ?Nz9 ?Uz9 ?Cz9 ?Tz9 ?ckz9 ?hdz9 ?huz9 ?_; (case Bz9 => k_asm); (case Fz9 => k_asm); (case Xz9 => k_asm); (case Nz9 => k_asm); (case Uz9 => k_upd); (case Cz9 => assumption); (case Tz9 => k_asm); (case ckz9 => first | rfl | assumption); (case hdz9 => omega); (case huz9 => omega); k_whole); intro r'9 nx'9 h'9 tk'9 cs'9 n'9 F'9 N'9 C'9 ne'9 P'9; skip; (have nr'9 := Apart.mk ne'9); (replace N'9 := news_swap N'9); (try simp only [List.cons_append, List.nil_append] at N'9); clear ne'9; (try k_sweep))
  trivial
set_option maxHeartbeats 4000000 in
theorem law_w7 {w : World} {name qual : Str} {params : Arguments} {body : List Stmt} {scope : Scope} {dV kV doc pm cdv ct oc : Value} {an od : Option Addr} {osl : Array (Option Value)}
    (ho : (hd.heap_39 w.params).lookup 219 = some ⟨oc, od, .func (fnOf name qual params body scope dV kV doc pm an cdv ct), osl⟩)
    (loose : List Str) (mean : ExcName → Option Value) (mg mb : Str → Option Value) (dp un : Nat) (gd : Option (List Code)) (outer : List Env) (A₀ : Around) (base H : Heap) (L' fa : Addr) (cdv' : Value) (s : Shared) (oF oH : Obj) (c lg hx l : Addr) (cs : List Value) (n : Nat) (K : List (Addr × Obj)) (v spun rv : Value) (is ds : List Value) (nm : Option (List (Option (List Value)))) (es : List Int) (th tw : Tok)  (Q : Flow → Shared → Prop)
    (B : Below A₀ base outer H) (X : (hd.heap_39 w.params).In H) (T : Top hd.view_39 loose mean mg mb H) (hd' : dp + 40 < recursionLimit) (hu : un + 400 < cLine) (F : Fr H L' s.heap (fun y => List.lookup y [(Str.ofString "reverse_one", rv), (Str.ofString "spun", spun), (Str.ofString "second", .ref lg), (Str.ofString "v", v), (Str.ofString "wide", .int (es.length : Int) tw), (Str.ofString "cards", .ref c), (Str.ofString "script", .ref l)]))
    (N : News H L' s.heap ((L' + 1 + 1, oF) :: (L' + 1, oH) :: (c, W.listOf cs.toArray n) :: K)) (k1 : ∀ p ∈ K, p.1 ≠ L' + 1 + 1) (k2 : ∀ p ∈ K, p.1 ≠ L' + 1) (k3 : ∀ p ∈ K, p.1 ≠ c) (ca : c ≠ L' + 1 + 1) (cb : c ≠ L' + 1) (hcs : Cards cs) (dH : oH.data = .cell (some (.ref hx)))
    (hPv : PF is ds nm es) (hAv : AR w (lAt K) v is ds nm) (hheld : SeenIs (lAt K) (.ref hx) (Str.ofString "integer") th is ds nm)
    (hret : ∀ h' tk' m', Fr H L' h' m' → Q (.ret (.bool true)) { s with heap := h', toks := tk' }) :
    wpAny (model PySem.Challenge.rw_pq1314_01.row.prog w) (ktrTop dp un gd qual scope L' fa cdv' (cellsFrom (L' + 1) scope.names []) outer) (execs (body.drop 13) (envX qual scope L' fa cdv' (cellsFrom (L' + 1) scope.names []))) Q (fun _ _ => False) s := by

  have ho0 := ho
  cases ho
  have hVv := hPv.pvs
  refine wpAny_execs_cons ?_
  k_steps
  (rename Fr _ _ _ _ => F2); (rename News _ _ _ _ => N2); (rename ArrOut _ _ _ _ => hout)
  refine ⟨?_⟩
  obtain ⟨iv, dl, im, dm, nmm, em, hA, hds, hf, hel, hprod, hints, hnm⟩ := hout
  have hAm : AR w (lAt _) _ im dm nmm := ⟨_, _, hA⟩
  have hPm : PF im dm nmm em := ⟨hds, hf, by omega, hprod, hints, by rw [hel]; exact hnm⟩
  clear hA hds hf hprod hints hnm
  have hVm := hPm.pvs
  have hp10 : ([1, 0] : List Int).Perm (rangeL em.length) := by rw [hel]; exact perm10
  have hPt := hPm.turn hp10
  have hl2 : (pick em 0 [1, 0]).length = 2 := rfl
  have hp10' : ([1, 0] : List Int).Perm (rangeL (pick em 0 [1, 0]).length) := perm10
  have hPtt := hPt.turn hp10'
  have hVt := hPt.pvs
  have hVtt := hPtt.pvs
  have hin : ∀ k ∈ ([1, 0] : List Int), 0 ≤ k ∧ k < (([1, 0] : List Int).length : Int) := by decide
  have hEq : im = apI (pick em 0 [1, 0]) [1, 0] (apI em [1, 0] im) ∧ dm = pick (pick dm .none [1, 0]) .none [1, 0] ∧ nmm = apN [1, 0] (apN [1, 0] nmm) := by
    refine ⟨?_, ?_, ?_⟩
    · rw [apI_comp hPm.hf hPm.h0 hp10 hp10 hPm.hl, pick1010, ← hel, apI_id hPm.hf hPm.h0 hPm.hl]
    · rw [pick_pick dm .none _ _ hin, pick1010, ← hel, ← hPm.dlen, pick_id]
    · rw [apN_comp hin, pick1010, ← hel, apN_id hPm.hn]
  refine wpAny_execs_cons ?_
  k_steps
  (rename Fr _ _ _ _ => F2); (rename News _ _ _ _ => N2); (rename Cards _ => hcs2)
  simp only [lookup_if] at F2
  refine ⟨?_⟩
  exact law_w8 ho0 loose mean mg mb dp un gd outer A₀ base H L' fa cdv' _ oF oH c lg hx l _ _ K v spun _ is ds nm es th tw _ Q B X T hd' hu F2 (news_sub N2 (by intro p hp; rcases List.mem_cons.mp hp with rfl | hp; (first | k_mem | fail); rcases List.mem_cons.mp hp with rfl | hp; (first | k_mem | fail); rcases List.mem_cons.mp hp with rfl | hp; (first | k_mem | fail); (first | k_mem | fail))) k1 k2 k3 ca cb hcs2 dH hPv hAv hheld (fun h' tk' m' F => hret h' tk' m' F)
end Mine
end
section
open PySem PySem.W PySem.Calls PySem.Spec PyProof.Rows
theorem Mine.devW6 : (PySem.Challenge.rw_pq1314_01.foot = 6) → Mine.hd.heap_39 = Mine.hd.heap_39 := by
  k_fill
  intro _; rfl
namespace Mine
theorem regW6_1 : True := by
  k_with_none
  k_with "m k_ne" => (refine neN ?_; (try dsimp only); first
    | with_reducible assumption
    | exact Ne.symm (by with_reducible assumption)
    | ((repeat (rename _ ∧ _ => q8z9; rcases q8z9 with ⟨_, _⟩)); first
      | with_reducible assumption
      | exact Ne.symm (by with_reducible assumption)
      | exact Nat.ne_of_gt (by with_reducible assumption)
      | exact Nat.ne_of_lt (by with_reducible assumption)))
  k_with "m k_all" => assumption
  k_with "m k_handed" => assumption
  k_with "m k_ne" => (refine neN ?_; (try dsimp only); first | with_reducible assumption | exact Ne.symm (by with_reducible assumption) | ((rename Apart _ _ => q9); first
  | (refine' apart_l q9 ?kaz9 ?kbz9; (case kaz9 => ((repeat (first | with_reducible exact List.mem_cons_self | with_reducible refine List.mem_cons_of_mem _ ?_)); done)); (case kbz9 => ((repeat (first | with_reducible exact List.mem_cons_self | with_reducible refine List.mem_cons_of_mem _ ?_)); done)))
  | (refine' apart_r q9 ?kaz9 ?kbz9; (case kaz9 => ((repeat (first | with_reducible exact List.mem_cons_self | with_reducible refine List.mem_cons_of_mem _ ?_)); done)); (case kbz9 => ((repeat (first | with_reducible exact List.mem_cons_self | with_reducible refine List.mem_cons_of_mem _ ?_)); done)))
  | (clear q9; k_ne)))
  k_with "m k_inst" => (refine' kb_inst ?Fz9 ?h1z9 ?h2z9; (case Fz9 => k_asm); (case h1z9 => assumption); (case h2z9 => assumption))
  k_with "m subscriptTail" => (k_here; (with_reducible show wpAny _ _ (subscriptTail _ _ (Value.ref _) (Value.str _ _)) _ _ _); k_dflt (refine' kb_item ?Fz9 ?oz9 ?dz9 ?lz9 ?_; (case Fz9 => k_asm); (case oz9 => assumption); (case dz9 => assumption); (case lz9 => first | assumption | rfl); k_whole))
  k_with "m compareOp In str ref" => (k_here; k_dflt (refine' kb_in ?Fz9 ?oz9 ?dz9 ?sz9 ?lz9 ?_; (case Fz9 => k_asm); (case oz9 => assumption); (case dz9 => assumption); (case sz9 => assumption); (case lz9 => first | assumption | rfl); k_whole))
  k_with "m compareOp NotIn str ref" => (k_here; k_dflt (refine' kb_notIn ?Fz9 ?oz9 ?dz9 ?sz9 ?lz9 ?_; (case Fz9 => k_asm); (case oz9 => assumption); (case dz9 => assumption); (case sz9 => assumption); (case lz9 => first | assumption | rfl); k_whole))
  k_with "m subscriptTail" => (k_here; (with_reducible show wpAny _ _ (subscriptTail _ _ (Value.ref _) (Value.int _ _)) _ _ _); k_dflt (refine' kb_lst ?lz9 ?az9 ?bz9 ?xz9 ?_; (case lz9 => is_list); (case xz9 => first | with_reducible assumption | assumption); (case az9 => omega); (case bz9 => omega); k_whole))
  k_with "m call builtin:len" => (k_here; (with_reducible show wpAny _ _ (call (Value.builtin "len") [Value.ref _]) _ _ _); k_dflt (refine' kb_len ?lz9 ?zz9 ?_; (case lz9 => is_list); (case zz9 => first | assumption | omega); k_whole))
  k_with "m k_all" => exact apart_all (by assumption) (by k_mem)
  k_with "m mul_fits" => first | exact PySem.IntMulOk.of_right (PySem.intBits_le_64 (by omega) (by omega)) | exact PySem.IntMulOk.of_left (PySem.intBits_le_64 (by omega) (by omega))
  k_with "m call type:range" => (k_here; (with_reducible show wpAny _ _ (call (Value.type _) [Value.int _ _]) _ _ _); k_dflt (refine' range1_rows ?Fz9 ?Nz9 ?_; (case Fz9 => k_asm); (case Nz9 => k_asm)); intro h'9 tk'9 t1'9 t2'9 t3'9 rg'9 F'9 N'9 rk'9; clear rk'9; (try k_sweep))
  k_with "m compareOp NotIn int ref" => (k_here; k_dflt (refine' ints_in ?lz9 ?iz9 ?mz9 ?_; (case lz9 => is_list); (case iz9 => exact Hold.out (by assumption)); (case mz9 => exact AllIn.out (by assumption) _ (by omega) (by omega)); k_whole))
  k_with "m is_list" => first | with_reducible assumption | exact News.isList (by k_asm) (by k_mem) | exact Fr.lst (by assumption) (by assumption)
  k_with "m loadName" => (k_here; k_dflt (refine' kb_ldn ?Fz9 ?vz9 ?_ ?az9 ?bz9; (case Fz9 => k_asm); (case az9 => rfl); (case bz9 => rfl); (case vz9 => rfl); k_whole))
  k_with "m pyIter ref" => (k_here; (with_reducible show wpAny _ _ (pyIter (Value.ref _)) (fun it s₂ => LoopAtV _ _ _ _ _ _ _ _ _ it s₂) _ _); refine Halt.out ?_)
  k_with "m CompSrc" => (refine Halt.out ?_)
  k_with "m CompSrcT" => (refine Halt.out ?_)
  k_with "m binaryOp Mod int int" => (k_here; refine mod_int' (by omega) ?_)
  k_with "m binaryOp FloorDiv int int" => (k_here; refine floordiv_int (by omega) ?_ (Or.inl (PyProof.noPylong_small (by omega))))
  k_with "m k_upd" => first | (refine' Spl.head ?az9; (case az9 => k_all)) | (refine' Spl.tail ?az9 ?bz9; (case az9 => k_ne); (case bz9 => k_upd))
  k_with "m subscriptTail Name Name ref int" => (k_here; (with_reducible show wpAny _ _ (subscriptTail _ _ (Value.ref _) (Value.int _ _)) _ _ _); k_dflt (refine' kb_lst ?lz9 ?az9 ?bz9 ?xz9 ?_; (case lz9 => is_list); (case xz9 => first | with_reducible assumption | assumption); (case az9 => omega); (case bz9 => omega); k_whole))
  k_with "m subscriptTail Name Subscript ref int" => (k_here; (with_reducible show wpAny _ _ (subscriptTail _ _ (Value.ref _) (Value.int _ _)) _ _ _); k_dflt (refine' kb_lst ?lz9 ?az9 ?bz9 ?xz9 ?_; (case lz9 => is_list); (case xz9 => first | with_reducible assumption | assumption); (case az9 => omega); (case bz9 => omega); k_whole))
  k_with "m subscriptTail Attribute Name Name ref int" => (k_here; (with_reducible show wpAny _ _ (subscriptTail _ _ (Value.ref _) (Value.int _ _)) _ _ _); k_dflt (refine' kb_lst ?lz9 ?az9 ?bz9 ?xz9 ?_; (case lz9 => is_list); (case xz9 => first | with_reducible assumption | assumption); (case az9 => omega); (case bz9 => omega); k_whole))
  k_with "m subscriptTail Name Constant ref int" => (k_here; (with_reducible show wpAny _ _ (subscriptTail _ _ (Value.ref _) (Value.int _ _)) _ _ _); k_dflt (refine' kb_lst ?lz9 ?az9 ?bz9 ?xz9 ?_; (case lz9 => is_list); (case xz9 => first | with_reducible assumption | assumption); (case az9 => omega); (case bz9 => omega); k_whole))
  k_with "m subscriptTail Attribute Name BinOp ref int" => (k_here; (with_reducible show wpAny _ _ (subscriptTail _ _ (Value.ref _) (Value.int _ _)) _ _ _); k_dflt (refine' kb_lst ?lz9 ?az9 ?bz9 ?xz9 ?_; (case lz9 => is_list); (case xz9 => first | with_reducible assumption | assumption); (case az9 => omega); (case bz9 => omega); k_whole))
  k_with "m subscriptTail Attribute Subscript Name ref int" => (k_here; (with_reducible show wpAny _ _ (subscriptTail _ _ (Value.ref _) (Value.int _ _)) _ _ _); k_dflt (refine' kb_lst ?lz9 ?az9 ?bz9 ?xz9 ?_; (case lz9 => is_list); (case xz9 => first | with_reducible assumption | assumption); (case az9 => omega); (case bz9 => omega); k_whole))
  k_with "m eval ListComp" => (k_here; first
  | (lct_look; k_dflt (refine LCt.ListComp_T (F₀ := by k_asm) (by with_unfolding_all rfl) (by decide) (by rfl) (by decide) (by rfl) ?_))
  | ((first | lcg_look | lcf_look); k_dflt (refine LCg.ListComp_U (F₀ := by k_asm) (by with_unfolding_all rfl) (by decide) (by rfl) (by decide) (by rfl) ?_)))
  k_with "m exec Assign cons ListComp" => (k_here; first
  | (lct_look; k_dflt (refine LCt.Assign_ListComp_T (F₀ := by k_asm) (by rfl) (by with_unfolding_all rfl) (by with_unfolding_all rfl) (by decide) (by rfl) (by decide) (by rfl) (by rfl) (by rfl) ?_))
  | ((first | lcg_look | lcf_look); k_dflt (refine LCg.Assign_ListComp_U (F₀ := by k_asm) (by rfl) (by with_unfolding_all rfl) (by with_unfolding_all rfl) (by decide) (by rfl) (by decide) (by rfl) (by rfl) (by rfl) ?_)))
  k_with "m call ref" => (k_here; (with_reducible show wpAny _ _ (call (Value.ref 197) [_, _]) _ _ _); k_dflt (refine' ConM.use (card_con _ _ _ _ ?h1z9 ?h2z9) _ _ _ _ _ _ _ _ _ _ _ _ _ _ _ _ _ _ _ _ _ _ _ _ ?Bz9 ?Fz9 ?Xz9 ?Nz9 ?Uz9 ?Cz9 ?Tz9 ?ckz9 ?hdz9 ?huz9 ?_; (case Bz9 => k_asm); (case Fz9 => k_asm); (case Xz9 => k_asm); (case Nz9 => k_asm); (case Uz9 => k_upd); (case Cz9 => assumption); (case Tz9 => k_asm); (case h1z9 => omega); (case h2z9 => omega); (case ckz9 => first | rfl | assumption); (case hdz9 => omega); (case huz9 => omega); k_whole); intro r'9 nx'9 h'9 tk'9 cs'9 n'9 F'9 N'9 C'9 ne'9 P'9; obtain ⟨hn'9, j'9, u'9, hr'9, hj1'9, hj2'9⟩ := P'9; subst hr'9; subst hn'9; (have nr'9 := Apart.mk ne'9); (replace N'9 := news_swap N'9); (try simp only [List.cons_append, List.nil_append] at N'9); clear ne'9; (try k_sweep))
  k_with "m call ref" => (k_here; (with_reducible show wpAny _ _ (call (Value.ref 190) [_]) _ _ _); k_dflt (refine' cards_con _ _ _ _ ?hiz9 ?hzz9 _ _ _ _ _ _ _ _ _ _ _ _ _ _ _ _ _ _ _ _ _ _ ?Bz9 ?Fz9 ?Xz9 ?Nz9 ?Tz9 ?ckz9 ?hdz9 ?huz9 ?hpz9 ?_; (case Bz9 => k_asm); (case Fz9 => k_asm); (case Xz9 => k_asm); (case Nz9 => k_asm); (case Tz9 => k_asm); (case hpz9 => is_list); (case hiz9 => assumption); (case hzz9 => assumption); (case ckz9 => first | rfl | assumption); (case hdz9 => omega); (case huz9 => omega); k_whole); intro r'9 nx'9 h'9 tk'9 F'9 N'9 ne'9 P'9; obtain ⟨lc'9, cs'9, n'9, hr'9, hn'9, C'9⟩ := P'9; subst hr'9; subst hn'9; (have nr'9 := Apart.mk ne'9); (replace N'9 := news_swap N'9); (try simp only [List.cons_append, List.nil_append] at N'9); clear ne'9; (try k_sweep))
  k_with "m call ref" => (k_here; (with_reducible show wpAny _ _ (call (Value.ref 209) [_, _]) _ _ _); k_dflt (refine' ConM.use (array_con _ _ _ _ ?h1z9 ?h2z9) _ _ _ _ _ _ _ _ _ _ _ _ _ _ _ _ _ _ _ _ _ _ _ _ ?Bz9 ?Fz9 ?Xz9 ?Nz9 ?Uz9 ?Cz9 ?Tz9 ?ckz9 ?hdz9 ?huz9 ?_; (case Bz9 => k_asm); (case Fz9 => k_asm); (case Xz9 => k_asm); (case Nz9 => k_asm); (case Uz9 => k_upd); (case Cz9 => assumption); (case Tz9 => k_asm); (case h1z9 => omega); (case h2z9 => omega); (case ckz9 => first | rfl | assumption); (case hdz9 => omega); (case huz9 => omega); k_whole); intro r'9 nx'9 h'9 tk'9 cs'9 n'9 F'9 N'9 C'9 ne'9 P'9; skip; (have nr'9 := Apart.mk ne'9); (replace N'9 := news_swap N'9); (try simp only [List.cons_append, List.nil_append] at N'9); clear ne'9; (try k_sweep))
  k_with "m call ref" => (k_here; (with_reducible show wpAny _ _ (call (Value.ref 204) [_, _]) _ _ _); k_dflt (refine' ConM.use (order_con _ _ _ _ ?h1z9 ?h2z9) _ _ _ _ _ _ _ _ _ _ _ _ _ _ _ _ _ _ _ _ _ _ _ _ ?Bz9 ?Fz9 ?Xz9 ?Nz9 ?Uz9 ?Cz9 ?Tz9 ?ckz9 ?hdz9 ?huz9 ?_; (case Bz9 => k_asm); (case Fz9 => k_asm); (case Xz9 => k_asm); (case Nz9 => k_asm); (case Uz9 => k_upd); (case Cz9 => assumption); (case Tz9 => k_asm); (case h1z9 => omega); (case h2z9 => omega); (case ckz9 => first | rfl | assumption); (case hdz9 => omega); (case huz9 => omega); k_whole); intro r'9 nx'9 h'9 tk'9 cs'9 n'9 F'9 N'9 C'9 ne'9 P'9; obtain ⟨l'9, nn'9, vs'9, fs'9, hr'9, hn'9, hi'9, hp'9⟩ := P'9; subst hr'9; subst hn'9; (have nr'9 := Apart.mk ne'9); (replace N'9 := news_swap N'9); (try simp only [List.cons_append, List.nil_append] at N'9); clear ne'9; (try k_sweep))
  k_with "m call ref" => (k_here; (with_reducible show wpAny _ _ (call (Value.ref 214) [_]) _ _ _); k_dflt (refine' seen_law _ _ _ _ _ _ ?pfz9 _ _ _ _ _ _ _ _ _ _ _ _ _ _ _ _ _ _ _ _ _ _ ?Bz9 ?Fz9 ?Xz9 ?Nz9 ?Tz9 ?ckz9 ?hdz9 ?huz9 ?hpz9 ?_; (case Bz9 => k_asm); (case Fz9 => k_asm); (case Xz9 => k_asm); (case Nz9 => k_asm); (case Tz9 => k_asm); (case hpz9 => (refine' AR.mono ?hsz9 ?xxz9; (case xxz9 => assumption); (case hsz9 => exact (fun a9 o9 h9 => News.get (by k_asm) (by simp only [List.mem_cons, List.mem_append, h9, true_or, or_true]))))); (case pfz9 => assumption); (case ckz9 => first | rfl | assumption); (case hdz9 => omega); (case huz9 => omega); k_whole); intro r'9 nx'9 h'9 tk'9 F'9 N'9 ne'9 P'9; obtain ⟨t'9, hS'9⟩ := P'9; (have hS0'9 := hS'9); obtain ⟨x'9, l1'9, n1'9, l2'9, n2'9, nv'9, hr'9, hm1'9, hm2'9, hm3'9, hm4'9⟩ := hS0'9; subst hr'9; (have nr'9 := Apart.mk ne'9); (replace N'9 := news_swap N'9); (try simp only [List.cons_append, List.nil_append] at N'9); clear ne'9; (try k_sweep))
  k_with "m call ref" => (k_here; (with_reducible show wpAny _ _ (call (Value.ref 183) [_, _]) _ _ _); k_dflt (refine' aperm_law _ _ _ _ _ _ _ _ _ ?pfz9 ?hp0z9 ?hp1z9 _ _ _ _ _ _ _ _ _ _ _ _ _ _ _ _ _ _ _ _ _ _ ?Bz9 ?Fz9 ?Xz9 ?Nz9 ?Tz9 ?ckz9 ?hdz9 ?huz9 ?hpz9 ?_; (case Bz9 => k_asm); (case Fz9 => k_asm); (case Xz9 => k_asm); (case Nz9 => k_asm); (case Tz9 => k_asm); (case hpz9 => refine' ⟨AR.mono ?hsz9 ?xxz9, ?llz9⟩; (case llz9 => is_list); (case xxz9 => assumption); (case hsz9 => exact (fun a9 o9 h9 => News.get (by k_asm) (by simp only [List.mem_cons, List.mem_append, h9, true_or, or_true])))); (case pfz9 => assumption); (case hp0z9 => first | assumption | exact ints10); (case hp1z9 => assumption); (case ckz9 => first | rfl | assumption); (case hdz9 => omega); (case huz9 => omega); k_whole); intro r'9 nx'9 h'9 tk'9 F'9 N'9 ne'9 P'9; skip; (have nr'9 := Apart.mk ne'9); (replace N'9 := news_swap N'9); (try simp only [List.cons_append, List.nil_append] at N'9); clear ne'9; (try k_sweep))
  k_with "m call ref" => (k_here; (with_reducible show wpAny _ _ (call (Value.ref 183) [_, _]) _ _ _); k_dflt (refine' aperm_lawN _ _ _ _ _ _ ?pfz9 _ _ _ _ _ _ _ _ _ _ _ _ _ _ _ _ _ _ _ _ _ _ ?Bz9 ?Fz9 ?Xz9 ?Nz9 ?Tz9 ?ckz9 ?hdz9 ?huz9 ?hpz9 ?_; (case Bz9 => k_asm); (case Fz9 => k_asm); (case Xz9 => k_asm); (case Nz9 => k_asm); (case Tz9 => k_asm); (case hpz9 => (refine' AR.mono ?hsz9 ?xxz9; (case xxz9 => assumption); (case hsz9 => exact (fun a9 o9 h9 => News.get (by k_asm) (by simp only [List.mem_cons, List.mem_append, h9, true_or, or_true]))))); (case pfz9 => assumption); (case ckz9 => first | rfl | assumption); (case hdz9 => omega); (case huz9 => omega); k_whole); intro r'9 nx'9 h'9 tk'9 F'9 N'9 ne'9 P'9; skip; (have nr'9 := Apart.mk ne'9); (replace N'9 := news_swap N'9); (try simp only [List.cons_append, List.nil_append] at N'9); clear ne'9; (try k_sweep))
  k_with "m call ref" => (k_here; (with_reducible show wpAny _ _ (call (Value.ref 164) [_]) _ _ _); k_dflt (refine' trans_law _ _ _ _ _ _ ?pfz9 ?h2z9 _ _ _ _ _ _ _ _ _ _ _ _ _ _ _ _ _ _ _ _ _ _ ?Bz9 ?Fz9 ?Xz9 ?Nz9 ?Tz9 ?ckz9 ?hdz9 ?huz9 ?hpz9 ?_; (case Bz9 => k_asm); (case Fz9 => k_asm); (case Xz9 => k_asm); (case Nz9 => k_asm); (case Tz9 => k_asm); (case hpz9 => (refine' AR.mono ?hsz9 ?xxz9; (case xxz9 => assumption); (case hsz9 => exact (fun a9 o9 h9 => News.get (by k_asm) (by simp only [List.mem_cons, List.mem_append, h9, true_or, or_true]))))); (case pfz9 => assumption); (case h2z9 => first | assumption | rfl); (case ckz9 => first | rfl | assumption); (case hdz9 => omega); (case huz9 => omega); k_whole); intro r'9 nx'9 h'9 tk'9 F'9 N'9 ne'9 P'9; skip; (have nr'9 := Apart.mk ne'9); (replace N'9 := news_swap N'9); (try simp only [List.cons_append, List.nil_append] at N'9); clear ne'9; (try k_sweep))
  k_with "m subscriptTail" => (k_here; (with_reducible show wpAny _ _ (subscriptTail _ _ (Value.ref _) (Value.str _ _)) _ _ _); k_dflt (refine' kb_itemN ?Nz9 ?mz9 ?dz9 ?lz9 ?_; (case Nz9 => k_asm); (case mz9 => k_mem); (case dz9 => assumption); (case lz9 => first | assumption | rfl); k_whole))
  k_with "m compareOp NotEq ref ref" => (k_here; (with_reducible show wpAny _ _ (compareOp CmpOp.NotEq (Value.ref _) (Value.ref _)) _ _ _); k_dflt (refine' lst_ne ?hAz9 ?hBz9 ?Pz9 ?uz9 ?_; (case hAz9 => is_list); (case hBz9 => is_list); (case Pz9 => assumption); (case uz9 => ke_room); k_whole))
  k_with "m compareOp NotEq ref ref" => (k_here; (with_reducible show wpAny _ _ (compareOp CmpOp.NotEq (Value.ref _) (Value.ref _)) _ _ _); k_dflt (refine' seen_ne ?Pz9 ?hAz9 ?hBz9 ?ez9 ?uz9 ?_; (case hAz9 => (refine' SeenIs.mono ?hsz9 ?xxz9; (case xxz9 => assumption); (case hsz9 => exact (fun a9 o9 h9 => News.get (by k_asm) (by simp only [List.mem_cons, List.mem_append, h9, true_or, or_true]))))); (case hBz9 => (refine' SeenIs.mono ?hsz9 ?xxz9; (case xxz9 => assumption); (case hsz9 => exact (fun a9 o9 h9 => News.get (by k_asm) (by simp only [List.mem_cons, List.mem_append, h9, true_or, or_true]))))); (case Pz9 => assumption); (case ez9 => first | assumption | exact ⟨rfl, rfl, rfl⟩); (case uz9 => ke_room); k_whole))
  k_with "m compareOp Eq ref ref" => (k_here; (with_reducible show wpAny _ _ (compareOp CmpOp.Eq (Value.ref _) (Value.ref _)) _ _ _); k_dflt (refine' seen_eq ?Pz9 ?hAz9 ?hBz9 ?ez9 ?uz9 ?_; (case hAz9 => (refine' SeenIs.mono ?hsz9 ?xxz9; (case xxz9 => assumption); (case hsz9 => exact (fun a9 o9 h9 => News.get (by k_asm) (by simp only [List.mem_cons, List.mem_append, h9, true_or, or_true]))))); (case hBz9 => (refine' SeenIs.mono ?hsz9 ?xxz9; (case xxz9 => assumption); (case hsz9 => exact (fun a9 o9 h9 => News.get (by k_asm) (by simp only [List.mem_cons, List.mem_append, h9, true_or, or_true]))))); (case Pz9 => assumption); (case ez9 => first | assumption | exact ⟨rfl, rfl, rfl⟩); (case uz9 => ke_room); k_whole))
  k_with "m k_all" => first | assumption | exact apart_all (by assumption) (by k_mem) | exact off_app (by k_all) (by k_all)
  k_with "m k_mem" => first | with_reducible assumption | with_reducible exact List.mem_cons_self | (with_reducible refine List.mem_cons_of_mem _ ?_; k_mem) | (with_reducible refine List.mem_append_left _ ?_; k_mem) | (with_reducible refine List.mem_append_right _ ?_; k_mem)
  k_with "m execs cons" => (k_here; with_reducible refine Halt.out ?_)
  trivial
set_option maxHeartbeats 4000000 in
theorem law_w6 {w : World} {name qual : Str} {params : Arguments} {body : List Stmt} {scope : Scope} {dV kV doc pm cdv ct oc : Value} {an od : Option Addr} {osl : Array (Option Value)}
    (ho : (hd.heap_39 w.params).lookup 219 = some ⟨oc, od, .func (fnOf name qual params body scope dV kV doc pm an cdv ct), osl⟩)
    (loose : List Str) (mean : ExcName → Option Value) (mg mb : Str → Option Value) (dp un : Nat) (gd : Option (List Code)) (outer : List Env) (A₀ : Around) (base H : Heap) (L' fa : Addr) (cdv' : Value) (s : Shared) (oF oH : Obj) (c lf lg hx l : Addr) (cs : List Value) (n nf ng : Nat) (K : List (Addr × Obj)) (fv gv : List Value) (fs gs : List Int) (v spun : Value) (is ds : List Value) (nm : Option (List (Option (List Value)))) (es : List Int) (th tw : Tok) (Q : Flow → Shared → Prop)
    (B : Below A₀ base outer H) (X : (hd.heap_39 w.params).In H) (T : Top hd.view_39 loose mean mg mb H) (hd' : dp + 40 < recursionLimit) (hu : un + 400 < cLine) (F : Fr H L' s.heap (fun y => List.lookup y [(Str.ofString "spun", spun), (Str.ofString "second", .ref lg), (Str.ofString "v", v), (Str.ofString "wide", .int (es.length : Int) tw), (Str.ofString "cards", .ref c), (Str.ofString "script", .ref l)]))
    (N : News H L' s.heap ((L' + 1 + 1, oF) :: (L' + 1, oH) :: (c, W.listOf cs.toArray n) :: K)) (k1 : ∀ p ∈ K, p.1 ≠ L' + 1 + 1) (k2 : ∀ p ∈ K, p.1 ≠ L' + 1) (k3 : ∀ p ∈ K, p.1 ≠ c) (ca : c ≠ L' + 1 + 1) (cb : c ≠ L' + 1) (hcs : Cards cs) (dF : oF.data = .cell (some (.ref lf))) (dH : oH.data = .cell (some (.ref hx)))
    (hPv : PF is ds nm es) (hAv : AR w (lAt K) v is ds nm) (hheld : SeenIs (lAt K) (.ref hx) (Str.ofString "integer") th is ds nm)
    (hfm : (lf, W.listOf fv.toArray nf) ∈ K) (hgm : (lg, W.listOf gv.toArray ng) ∈ K) (hif : Hold (IntsAre fv fs)) (hig : Hold (IntsAre gv gs)) (hpf : fs.Perm (rangeL es.length)) (hpg : gs.Perm (rangeL es.length))
    (hAs : AR w (lAt K) spun (apI es fs is) (pick ds .none fs) (apN fs nm))
    (hret : ∀ h' tk' m', Fr H L' h' m' → Q (.ret (.bool true)) { s with heap := h', toks := tk' }) :
    wpAny (model PySem.Challenge.rw_pq1314_01.row.prog w) (ktrTop dp un gd qual scope L' fa cdv' (cellsFrom (L' + 1) scope.names []) outer) (execs (body.drop 11) (envX qual scope L' fa cdv' (cellsFrom (L' + 1) scope.names []))) Q (fun _ _ => False) s := by

  have ho0 := ho
  cases ho
  have hVv := hPv.pvs
  have hPr := hPv.turn (revL_perm es.length)
  have h3 := hPv.hf.1
  refine wpAny_execs_cons ?_
  k_steps
  (rename Fr _ _ _ _ => F2); (rename News _ _ _ _ => N2)
  refine ⟨?_⟩
  refine wpAny_execs_cons ?_
  have hl2 : (pick es 0 (revL es.length)).length = es.length := by rw [pick_len, (revL_perm es.length).length_eq, rangeL_len]
  have hPrr := hPr.turn (revL_perm (pick es 0 (revL es.length)).length)
  have hVr := hPr.pvs
  have hVrr := hPrr.pvs
  have hrp := revL_perm es.length
  have hrin : ∀ k ∈ revL es.length, 0 ≤ k ∧ k < ((revL es.length).length : Int) := perm_in hrp (by rw [hrp.length_eq, rangeL_len])
  have hEq : is = apI (pick es 0 (revL es.length)) (revL (pick es 0 (revL es.length)).length) (apI es (revL es.length) is) ∧ ds = pick (pick ds .none (revL es.length)) .none (revL (pick es 0 (revL es.length)).length) ∧ nm = apN (revL (pick es 0 (revL es.length)).length) (apN (revL es.length) nm) := by
    rw [hl2]
    refine ⟨?_, ?_, ?_⟩
    · rw [apI_comp hPv.hf hPv.h0 hrp hrp hPv.hl, rev_rev h3, apI_id hPv.hf hPv.h0 hPv.hl]
    · rw [pick_pick ds .none _ _ hrin, rev_rev h3, ← hPv.dlen, pick_id]
    · rw [apN_comp hrin, rev_rev h3, apN_id hPv.hn]
  k_steps
  (rename IntsAre _ (List.reverse _) => hr9)
  rw [rangeKs_L] at hr9
  replace hr9 : Hold (IntsAre _ (revL es.length)) := ⟨hr9⟩
  k_steps
  (rename Fr _ _ _ _ => F2); (rename News _ _ _ _ => N2)
  simp only [lookup_if] at F2
  refine ⟨?_⟩
  exact law_w7 ho0 loose mean mg mb dp un gd outer A₀ base H L' fa cdv' _ oF oH c lg hx l _ _ K v spun _ is ds nm es th tw  Q B X T hd' hu F2 (news_sub N2 (by intro p hp; rcases List.mem_cons.mp hp with rfl | hp; (first | k_mem | fail); rcases List.mem_cons.mp hp with rfl | hp; (first | k_mem | fail); rcases List.mem_cons.mp hp with rfl | hp; (first | k_mem | fail); (first | k_mem | fail))) k1 k2 k3 ca cb hcs dH hPv hAv hheld (fun h' tk' m' F => hret h' tk' m' F)
end Mine
end
section
open PySem PySem.W PySem.Calls PySem.Spec PyProof.Rows
theorem Mine.devW5 : (PySem.Challenge.rw_pq1314_01.foot = 6) → Mine.hd.heap_39 = Mine.hd.heap_39 := by
  k_fill
  intro _; rfl
namespace Mine
theorem regW5_1 : True := by
  k_with_none
  k_with "m k_ne" => (refine neN ?_; (try dsimp only); first
    | with_reducible assumption
    | exact Ne.symm (by with_reducible assumption)
    | ((repeat (rename _ ∧ _ => q8z9; rcases q8z9 with ⟨_, _⟩)); first
      | with_reducible assumption
      | exact Ne.symm (by with_reducible assumption)
      | exact Nat.ne_of_gt (by with_reducible assumption)
      | exact Nat.ne_of_lt (by with_reducible assumption)))
  k_with "m k_all" => assumption
  k_with "m k_handed" => assumption
  k_with "m k_ne" => (refine neN ?_; (try dsimp only); first | with_reducible assumption | exact Ne.symm (by with_reducible assumption) | ((rename Apart _ _ => q9); first
  | (refine' apart_l q9 ?kaz9 ?kbz9; (case kaz9 => ((repeat (first | with_reducible exact List.mem_cons_self | with_reducible refine List.mem_cons_of_mem _ ?_)); done)); (case kbz9 => ((repeat (first | with_reducible exact List.mem_cons_self | with_reducible refine List.mem_cons_of_mem _ ?_)); done)))
  | (refine' apart_r q9 ?kaz9 ?kbz9; (case kaz9 => ((repeat (first | with_reducible exact List.mem_cons_self | with_reducible refine List.mem_cons_of_mem _ ?_)); done)); (case kbz9 => ((repeat (first | with_reducible exact List.mem_cons_self | with_reducible refine List.mem_cons_of_mem _ ?_)); done)))
  | (clear q9; k_ne)))
  k_with "m k_inst" => (refine' kb_inst ?Fz9 ?h1z9 ?h2z9; (case Fz9 => k_asm); (case h1z9 => assumption); (case h2z9 => assumption))
  k_with "m subscriptTail" => (k_here; (with_reducible show wpAny _ _ (subscriptTail _ _ (Value.ref _) (Value.str _ _)) _ _ _); k_dflt (refine' kb_item ?Fz9 ?oz9 ?dz9 ?lz9 ?_; (case Fz9 => k_asm); (case oz9 => assumption); (case dz9 => assumption); (case lz9 => first | assumption | rfl); k_whole))
  k_with "m compareOp In str ref" => (k_here; k_dflt (refine' kb_in ?Fz9 ?oz9 ?dz9 ?sz9 ?lz9 ?_; (case Fz9 => k_asm); (case oz9 => assumption); (case dz9 => assumption); (case sz9 => assumption); (case lz9 => first | assumption | rfl); k_whole))
  k_with "m compareOp NotIn str ref" => (k_here; k_dflt (refine' kb_notIn ?Fz9 ?oz9 ?dz9 ?sz9 ?lz9 ?_; (case Fz9 => k_asm); (case oz9 => assumption); (case dz9 => assumption); (case sz9 => assumption); (case lz9 => first | assumption | rfl); k_whole))
  k_with "m subscriptTail" => (k_here; (with_reducible show wpAny _ _ (subscriptTail _ _ (Value.ref _) (Value.int _ _)) _ _ _); k_dflt (refine' kb_lst ?lz9 ?az9 ?bz9 ?xz9 ?_; (case lz9 => is_list); (case xz9 => first | with_reducible assumption | assumption); (case az9 => omega); (case bz9 => omega); k_whole))
  k_with "m call builtin:len" => (k_here; (with_reducible show wpAny _ _ (call (Value.builtin "len") [Value.ref _]) _ _ _); k_dflt (refine' kb_len ?lz9 ?zz9 ?_; (case lz9 => is_list); (case zz9 => first | assumption | omega); k_whole))
  k_with "m k_all" => exact apart_all (by assumption) (by k_mem)
  k_with "m mul_fits" => first | exact PySem.IntMulOk.of_right (PySem.intBits_le_64 (by omega) (by omega)) | exact PySem.IntMulOk.of_left (PySem.intBits_le_64 (by omega) (by omega))
  k_with "m call type:range" => (k_here; (with_reducible show wpAny _ _ (call (Value.type _) [Value.int _ _]) _ _ _); k_dflt (refine' range1_rows ?Fz9 ?Nz9 ?_; (case Fz9 => k_asm); (case Nz9 => k_asm)); intro h'9 tk'9 t1'9 t2'9 t3'9 rg'9 F'9 N'9 rk'9; clear rk'9; (try k_sweep))
  k_with "m compareOp NotIn int ref" => (k_here; k_dflt (refine' ints_in ?lz9 ?iz9 ?mz9 ?_; (case lz9 => is_list); (case iz9 => exact Hold.out (by assumption)); (case mz9 => exact AllIn.out (by assumption) _ (by omega) (by omega)); k_whole))
  k_with "m is_list" => first | with_reducible assumption | exact News.isList (by k_asm) (by k_mem) | exact Fr.lst (by assumption) (by assumption)
  k_with "m loadName" => (k_here; k_dflt (refine' kb_ldn ?Fz9 ?vz9 ?_ ?az9 ?bz9; (case Fz9 => k_asm); (case az9 => rfl); (case bz9 => rfl); (case vz9 => rfl); k_whole))
  k_with "m pyIter ref" => (k_here; (with_reducible show wpAny _ _ (pyIter (Value.ref _)) (fun it s₂ => LoopAtV _ _ _ _ _ _ _ _ _ it s₂) _ _); refine Halt.out ?_)
  k_with "m CompSrc" => (refine Halt.out ?_)
  k_with "m CompSrcT" => (refine Halt.out ?_)
  k_with "m binaryOp Mod int int" => (k_here; refine mod_int' (by omega) ?_)
  k_with "m binaryOp FloorDiv int int" => (k_here; refine floordiv_int (by omega) ?_ (Or.inl (PyProof.noPylong_small (by omega))))
  k_with "m k_upd" => first | (refine' Spl.head ?az9; (case az9 => k_all)) | (refine' Spl.tail ?az9 ?bz9; (case az9 => k_ne); (case bz9 => k_upd))
  k_with "m subscriptTail Name Name ref int" => (k_here; (with_reducible show wpAny _ _ (subscriptTail _ _ (Value.ref _) (Value.int _ _)) _ _ _); k_dflt (refine' kb_lst ?lz9 ?az9 ?bz9 ?xz9 ?_; (case lz9 => is_list); (case xz9 => first | with_reducible assumption | assumption); (case az9 => omega); (case bz9 => omega); k_whole))
  k_with "m subscriptTail Name Subscript ref int" => (k_here; (with_reducible show wpAny _ _ (subscriptTail _ _ (Value.ref _) (Value.int _ _)) _ _ _); k_dflt (refine' kb_lst ?lz9 ?az9 ?bz9 ?xz9 ?_; (case lz9 => is_list); (case xz9 => first | with_reducible assumption | assumption); (case az9 => omega); (case bz9 => omega); k_whole))
  k_with "m subscriptTail Attribute Name Name ref int" => (k_here; (with_reducible show wpAny _ _ (subscriptTail _ _ (Value.ref _) (Value.int _ _)) _ _ _); k_dflt (refine' kb_lst ?lz9 ?az9 ?bz9 ?xz9 ?_; (case lz9 => is_list); (case xz9 => first | with_reducible assumption | assumption); (case az9 => omega); (case bz9 => omega); k_whole))
  k_with "m subscriptTail Name Constant ref int" => (k_here; (with_reducible show wpAny _ _ (subscriptTail _ _ (Value.ref _) (Value.int _ _)) _ _ _); k_dflt (refine' kb_lst ?lz9 ?az9 ?bz9 ?xz9 ?_; (case lz9 => is_list); (case xz9 => first | with_reducible assumption | assumption); (case az9 => omega); (case bz9 => omega); k_whole))
  k_with "m subscriptTail Attribute Name BinOp ref int" => (k_here; (with_reducible show wpAny _ _ (subscriptTail _ _ (Value.ref _) (Value.int _ _)) _ _ _); k_dflt (refine' kb_lst ?lz9 ?az9 ?bz9 ?xz9 ?_; (case lz9 => is_list); (case xz9 => first | with_reducible assumption | assumption); (case az9 => omega); (case bz9 => omega); k_whole))
  k_with "m subscriptTail Attribute Subscript Name ref int" => (k_here; (with_reducible show wpAny _ _ (subscriptTail _ _ (Value.ref _) (Value.int _ _)) _ _ _); k_dflt (refine' kb_lst ?lz9 ?az9 ?bz9 ?xz9 ?_; (case lz9 => is_list); (case xz9 => first | with_reducible assumption | assumption); (case az9 => omega); (case bz9 => omega); k_whole))
  k_with "m eval ListComp" => (k_here; first
  | (lct_look; k_dflt (refine LCt.ListComp_T (F₀ := by k_asm) (by with_unfolding_all rfl) (by decide) (by rfl) (by decide) (by rfl) ?_))
  | ((first | lcg_look | lcf_look); k_dflt (refine LCg.ListComp_U (F₀ := by k_asm) (by with_unfolding_all rfl) (by decide) (by rfl) (by decide) (by rfl) ?_)))
  k_with "m exec Assign cons ListComp" => (k_here; first
  | (lct_look; k_dflt (refine LCt.Assign_ListComp_T (F₀ := by k_asm) (by rfl) (by with_unfolding_all rfl) (by with_unfolding_all rfl) (by decide) (by rfl) (by decide) (by rfl) (by rfl) (by rfl) ?_))
  | ((first | lcg_look | lcf_look); k_dflt (refine LCg.Assign_ListComp_U (F₀ := by k_asm) (by rfl) (by with_unfolding_all rfl) (by with_unfolding_all rfl) (by decide) (by rfl) (by decide) (by rfl) (by rfl) (by rfl) ?_)))
  k_with "m call ref" => (k_here; (with_reducible show wpAny _ _ (call (Value.ref 197) [_, _]) _ _ _); k_dflt (refine' ConM.use (card_con _ _ _ _ ?h1z9 ?h2z9) _ _ _ _ _ _ _ _ _ _ _ _ _ _ _ _ _ _ _ _ _ _ _ _ ?Bz9 ?Fz9 ?Xz9 ?Nz9 ?Uz9 ?Cz9 ?Tz9 ?ckz9 ?hdz9 ?huz9 ?_; (case Bz9 => k_asm); (case Fz9 => k_asm); (case Xz9 => k_asm); (case Nz9 => k_asm); (case Uz9 => k_upd); (case Cz9 => assumption); (case Tz9 => k_asm); (case h1z9 => omega); (case h2z9 => omega); (case ckz9 => first | rfl | assumption); (case hdz9 => omega); (case huz9 => omega); k_whole); intro r'9 nx'9 h'9 tk'9 cs'9 n'9 F'9 N'9 C'9 ne'9 P'9; obtain ⟨hn'9, j'9, u'9, hr'9, hj1'9, hj2'9⟩ := P'9; subst hr'9; subst hn'9; (have nr'9 := Apart.mk ne'9); (replace N'9 := news_swap N'9); (try simp only [List.cons_append, List.nil_append] at N'9); clear ne'9; (try k_sweep))
  k_with "m call ref" => (k_here; (with_reducible show wpAny _ _ (call (Value.ref 190) [_]) _ _ _); k_dflt (refine' cards_con _ _ _ _ ?hiz9 ?hzz9 _ _ _ _ _ _ _ _ _ _ _ _ _ _ _ _ _ _ _ _ _ _ ?Bz9 ?Fz9 ?Xz9 ?Nz9 ?Tz9 ?ckz9 ?hdz9 ?huz9 ?hpz9 ?_; (case Bz9 => k_asm); (case Fz9 => k_asm); (case Xz9 => k_asm); (case Nz9 => k_asm); (case Tz9 => k_asm); (case hpz9 => is_list); (case hiz9 => assumption); (case hzz9 => assumption); (case ckz9 => first | rfl | assumption); (case hdz9 => omega); (case huz9 => omega); k_whole); intro r'9 nx'9 h'9 tk'9 F'9 N'9 ne'9 P'9; obtain ⟨lc'9, cs'9, n'9, hr'9, hn'9, C'9⟩ := P'9; subst hr'9; subst hn'9; (have nr'9 := Apart.mk ne'9); (replace N'9 := news_swap N'9); (try simp only [List.cons_append, List.nil_append] at N'9); clear ne'9; (try k_sweep))
  k_with "m call ref" => (k_here; (with_reducible show wpAny _ _ (call (Value.ref 209) [_, _]) _ _ _); k_dflt (refine' ConM.use (array_con _ _ _ _ ?h1z9 ?h2z9) _ _ _ _ _ _ _ _ _ _ _ _ _ _ _ _ _ _ _ _ _ _ _ _ ?Bz9 ?Fz9 ?Xz9 ?Nz9 ?Uz9 ?Cz9 ?Tz9 ?ckz9 ?hdz9 ?huz9 ?_; (case Bz9 => k_asm); (case Fz9 => k_asm); (case Xz9 => k_asm); (case Nz9 => k_asm); (case Uz9 => k_upd); (case Cz9 => assumption); (case Tz9 => k_asm); (case h1z9 => omega); (case h2z9 => omega); (case ckz9 => first | rfl | assumption); (case hdz9 => omega); (case huz9 => omega); k_whole); intro r'9 nx'9 h'9 tk'9 cs'9 n'9 F'9 N'9 C'9 ne'9 P'9; skip; (have nr'9 := Apart.mk ne'9); (replace N'9 := news_swap N'9); (try simp only [List.cons_append, List.nil_append] at N'9); clear ne'9; (try k_sweep))
  k_with "m call ref" => (k_here; (with_reducible show wpAny _ _ (call (Value.ref 204) [_, _]) _ _ _); k_dflt (refine' ConM.use (order_con _ _ _ _ ?h1z9 ?h2z9) _ _ _ _ _ _ _ _ _ _ _ _ _ _ _ _ _ _ _ _ _ _ _ _ ?Bz9 ?Fz9 ?Xz9 ?Nz9 ?Uz9 ?Cz9 ?Tz9 ?ckz9 ?hdz9 ?huz9 ?_; (case Bz9 => k_asm); (case Fz9 => k_asm); (case Xz9 => k_asm); (case Nz9 => k_asm); (case Uz9 => k_upd); (case Cz9 => assumption); (case Tz9 => k_asm); (case h1z9 => omega); (case h2z9 => omega); (case ckz9 => first | rfl | assumption); (case hdz9 => omega); (case huz9 => omega); k_whole); intro r'9 nx'9 h'9 tk'9 cs'9 n'9 F'9 N'9 C'9 ne'9 P'9; obtain ⟨l'9, nn'9, vs'9, fs'9, hr'9, hn'9, hi'9, hp'9⟩ := P'9; subst hr'9; subst hn'9; (have nr'9 := Apart.mk ne'9); (replace N'9 := news_swap N'9); (try simp only [List.cons_append, List.nil_append] at N'9); clear ne'9; (try k_sweep))
  k_with "m call ref" => (k_here; (with_reducible show wpAny _ _ (call (Value.ref 214) [_]) _ _ _); k_dflt (refine' seen_law _ _ _ _ _ _ ?pfz9 _ _ _ _ _ _ _ _ _ _ _ _ _ _ _ _ _ _ _ _ _ _ ?Bz9 ?Fz9 ?Xz9 ?Nz9 ?Tz9 ?ckz9 ?hdz9 ?huz9 ?hpz9 ?_; (case Bz9 => k_asm); (case Fz9 => k_asm); (case Xz9 => k_asm); (case Nz9 => k_asm); (case Tz9 => k_asm); (case hpz9 => (refine' AR.mono ?hsz9 ?xxz9; (case xxz9 => assumption); (case hsz9 => exact (fun a9 o9 h9 => News.get (by k_asm) (by simp only [List.mem_cons, List.mem_append, h9, true_or, or_true]))))); (case pfz9 => assumption); (case ckz9 => first | rfl | assumption); (case hdz9 => omega); (case huz9 => omega); k_whole); intro r'9 nx'9 h'9 tk'9 F'9 N'9 ne'9 P'9; obtain ⟨t'9, hS'9⟩ := P'9; (have hS0'9 := hS'9); obtain ⟨x'9, l1'9, n1'9, l2'9, n2'9, nv'9, hr'9, hm1'9, hm2'9, hm3'9, hm4'9⟩ := hS0'9; subst hr'9; (have nr'9 := Apart.mk ne'9); (replace N'9 := news_swap N'9); (try simp only [List.cons_append, List.nil_append] at N'9); clear ne'9; (try k_sweep))
  k_with "m call ref" => (k_here; (with_reducible show wpAny _ _ (call (Value.ref 183) [_, _]) _ _ _); k_dflt (refine' aperm_law _ _ _ _ _ _ _ _ _ ?pfz9 ?hp0z9 ?hp1z9 _ _ _ _ _ _ _ _ _ _ _ _ _ _ _ _ _ _ _ _ _ _ ?Bz9 ?Fz9 ?Xz9 ?Nz9 ?Tz9 ?ckz9 ?hdz9 ?huz9 ?hpz9 ?_; (case Bz9 => k_asm); (case Fz9 => k_asm); (case Xz9 => k_asm); (case Nz9 => k_asm); (case Tz9 => k_asm); (case hpz9 => refine' ⟨AR.mono ?hsz9 ?xxz9, ?llz9⟩; (case llz9 => is_list); (case xxz9 => assumption); (case hsz9 => exact (fun a9 o9 h9 => News.get (by k_asm) (by simp only [List.mem_cons, List.mem_append, h9, true_or, or_true])))); (case pfz9 => assumption); (case hp0z9 => first | assumption | exact ints10); (case hp1z9 => assumption); (case ckz9 => first | rfl | assumption); (case hdz9 => omega); (case huz9 => omega); k_whole); intro r'9 nx'9 h'9 tk'9 F'9 N'9 ne'9 P'9; skip; (have nr'9 := Apart.mk ne'9); (replace N'9 := news_swap N'9); (try simp only [List.cons_append, List.nil_append] at N'9); clear ne'9; (try k_sweep))
  k_with "m call ref" => (k_here; (with_reducible show wpAny _ _ (call (Value.ref 183) [_, _]) _ _ _); k_dflt (refine' aperm_lawN _ _ _ _ _ _ ?pfz9 _ _ _ _ _ _ _ _ _ _ _ _ _ _ _ _ _ _ _ _ _ _ ?Bz9 ?Fz9 ?Xz9 ?Nz9 ?Tz9 ?ckz9 ?hdz9 ?huz9 ?hpz9 ?_; (case Bz9 => k_asm); (case Fz9 => k_asm); (case Xz9 => k_asm); (case Nz9 => k_asm); (case Tz9 => k_asm); (case hpz9 => (refine' AR.mono ?hsz9 ?xxz9; (case xxz9 => assumption); (case hsz9 => exact (fun a9 o9 h9 => News.get (by k_asm) (by simp only [List.mem_cons, List.mem_append, h9, true_or, or_true]))))); (case pfz9 => assumption); (case ckz9 => first | rfl | assumption); (case hdz9 => omega); (case huz9 => omega); k_whole); intro r'9 nx'9 h'9 tk'9 F'9 N'9 ne'9 P'9; skip; (have nr'9 := Apart.mk ne'9); (replace N'9 := news_swap N'9); (try simp only [List.cons_append, List.nil_append] at N'9); clear ne'9; (try k_sweep))
  k_with "m call ref" => (k_here; (with_reducible show wpAny _ _ (call (Value.ref 164) [_]) _ _ _); k_dflt (refine' trans_law _ _ _ _ _ _ ?pfz9 ?h2z9 _ _ _ _ _ _ _ _ _ _ _ _ _ _ _ _ _ _ _ _ _ _ ?Bz9 ?Fz9 ?Xz9 ?Nz9 ?Tz9 ?ckz9 ?hdz9 ?huz9 ?hpz9 ?_; (case Bz9 => k_asm); (case Fz9 => k_asm); (case Xz9 => k_asm); (case Nz9 => k_asm); (case Tz9 => k_asm); (case hpz9 => (refine' AR.mono ?hsz9 ?xxz9; (case xxz9 => assumption); (case hsz9 => exact (fun a9 o9 h9 => News.get (by k_asm) (by simp only [List.mem_cons, List.mem_append, h9, true_or, or_true]))))); (case pfz9 => assumption); (case h2z9 => first | assumption | rfl); (case ckz9 => first | rfl | assumption); (case hdz9 => omega); (case huz9 => omega); k_whole); intro r'9 nx'9 h'9 tk'9 F'9 N'9 ne'9 P'9; skip; (have nr'9 := Apart.mk ne'9); (replace N'9 := news_swap N'9); (try simp only [List.cons_append, List.nil_append] at N'9); clear ne'9; (try k_sweep))
  k_with "m subscriptTail" => (k_here; (with_reducible show wpAny _ _ (subscriptTail _ _ (Value.ref _) (Value.str _ _)) _ _ _); k_dflt (refine' kb_itemN ?Nz9 ?mz9 ?dz9 ?lz9 ?_; (case Nz9 => k_asm); (case mz9 => k_mem); (case dz9 => assumption); (case lz9 => first | assumption | rfl); k_whole))
  k_with "m compareOp NotEq ref ref" => (k_here; (with_reducible show wpAny _ _ (compareOp CmpOp.NotEq (Value.ref _) (Value.ref _)) _ _ _); k_dflt (refine' lst_ne ?hAz9 ?hBz9 ?Pz9 ?uz9 ?_; (case hAz9 => is_list); (case hBz9 => is_list); (case Pz9 => assumption); (case uz9 => ke_room); k_whole))
  k_with "m compareOp NotEq ref ref" => (k_here; (with_reducible show wpAny _ _ (compareOp CmpOp.NotEq (Value.ref _) (Value.ref _)) _ _ _); k_dflt (refine' seen_ne ?Pz9 ?hAz9 ?hBz9 ?ez9 ?uz9 ?_; (case hAz9 => (refine' SeenIs.mono ?hsz9 ?xxz9; (case xxz9 => assumption); (case hsz9 => exact (fun a9 o9 h9 => News.get (by k_asm) (by simp only [List.mem_cons, List.mem_append, h9, true_or, or_true]))))); (case hBz9 => (refine' SeenIs.mono ?hsz9 ?xxz9; (case xxz9 => assumption); (case hsz9 => exact (fun a9 o9 h9 => News.get (by k_asm) (by simp only [List.mem_cons, List.mem_append, h9, true_or, or_true]))))); (case Pz9 => assumption); (case ez9 => first | assumption | exact ⟨rfl, rfl, rfl⟩); (case uz9 => ke_room); k_whole))
  k_with "m compareOp Eq ref ref" => (k_here; (with_reducible show wpAny _ _ (compareOp CmpOp.Eq (Value.ref _) (Value.ref _)) _ _ _); k_dflt (refine' seen_eq ?Pz9 ?hAz9 ?hBz9 ?ez9 ?uz9 ?_; (case hAz9 => (refine' SeenIs.mono ?hsz9 ?xxz9; (case xxz9 => assumption); (case hsz9 => exact (fun a9 o9 h9 => News.get (by k_asm) (by simp only [List.mem_cons, List.mem_append, h9, true_or, or_true]))))); (case hBz9 => (refine' SeenIs.mono ?hsz9 ?xxz9; (case xxz9 => assumption); (case hsz9 => exact (fun a9 o9 h9 => News.get (by k_asm) (by simp only [List.mem_cons, List.mem_append, h9, true_or, or_true]))))); (case Pz9 => assumption); (case ez9 => first | assumption | exact ⟨rfl, rfl, rfl⟩); (case uz9 => ke_room); k_whole))
  k_with "m k_all" => first | assumption | exact apart_all (by assumption) (by k_mem) | exact off_app (by k_all) (by k_all)
  k_with "m k_mem" => first | with_reducible assumption | with_reducible exact List.mem_cons_self | (with_reducible refine List.mem_cons_of_mem _ ?_; k_mem) | (with_reducible refine List.mem_append_left _ ?_; k_mem) | (with_reducible refine List.mem_append_right _ ?_; k_mem)
  k_with "m execs cons" => (k_here; with_reducible refine Halt.out ?_)
  k_with "m call builtin:list.index" => (k_here; k_dflt (refine' index_list_ints ?lz9 ?iz9 ?yz9 ?kz9 ?_; (case lz9 => is_list); (case iz9 => exact Hold.out (by assumption)); (case yz9 => assumption); (case kz9 => assumption); k_whole))
  trivial
set_option maxHeartbeats 4000000 in
theorem law_w5 {w : World} {name qual : Str} {params : Arguments} {body : List Stmt} {scope : Scope} {dV kV doc pm cdv ct oc : Value} {an od : Option Addr} {osl : Array (Option Value)}
    (ho : (hd.heap_39 w.params).lookup 219 = some ⟨oc, od, .func (fnOf name qual params body scope dV kV doc pm an cdv ct), osl⟩)
    (loose : List Str) (mean : ExcName → Option Value) (mg mb : Str → Option Value) (dp un : Nat) (gd : Option (List Code)) (outer : List Env) (A₀ : Around) (base H : Heap) (L' fa : Addr) (cdv' : Value) (s : Shared) (oF oH : Obj) (c lf lg hx l : Addr) (cs : List Value) (n nf ng : Nat) (K : List (Addr × Obj)) (fv gv : List Value) (fs gs : List Int) (v spun : Value) (is ds : List Value) (nm : Option (List (Option (List Value)))) (es : List Int) (th tw : Tok) (Q : Flow → Shared → Prop)
    (B : Below A₀ base outer H) (X : (hd.heap_39 w.params).In H) (T : Top hd.view_39 loose mean mg mb H) (hd' : dp + 40 < recursionLimit) (hu : un + 400 < cLine) (F : Fr H L' s.heap (fun y => List.lookup y [(Str.ofString "spun", spun), (Str.ofString "second", .ref lg), (Str.ofString "v", v), (Str.ofString "wide", .int (es.length : Int) tw), (Str.ofString "cards", .ref c), (Str.ofString "script", .ref l)]))
    (N : News H L' s.heap ((L' + 1 + 1, oF) :: (L' + 1, oH) :: (c, W.listOf cs.toArray n) :: K)) (k1 : ∀ p ∈ K, p.1 ≠ L' + 1 + 1) (k2 : ∀ p ∈ K, p.1 ≠ L' + 1) (k3 : ∀ p ∈ K, p.1 ≠ c) (ca : c ≠ L' + 1 + 1) (cb : c ≠ L' + 1) (hcs : Cards cs) (dF : oF.data = .cell (some (.ref lf))) (dH : oH.data = .cell (some (.ref hx)))
    (hPv : PF is ds nm es) (hAv : AR w (lAt K) v is ds nm) (hheld : SeenIs (lAt K) (.ref hx) (Str.ofString "integer") th is ds nm)
    (hfm : (lf, W.listOf fv.toArray nf) ∈ K) (hgm : (lg, W.listOf gv.toArray ng) ∈ K) (hif : Hold (IntsAre fv fs)) (hig : Hold (IntsAre gv gs)) (hpf : fs.Perm (rangeL es.length)) (hpg : gs.Perm (rangeL es.length))
    (hAs : AR w (lAt K) spun (apI es fs is) (pick ds .none fs) (apN fs nm))
    (hret : ∀ h' tk' m', Fr H L' h' m' → Q (.ret (.bool true)) { s with heap := h', toks := tk' }) :
    wpAny (model PySem.Challenge.rw_pq1314_01.row.prog w) (ktrTop dp un gd qual scope L' fa cdv' (cellsFrom (L' + 1) scope.names []) outer) (execs (body.drop 10) (envX qual scope L' fa cdv' (cellsFrom (L' + 1) scope.names []))) Q (fun _ _ => False) s := by

  have ho0 := ho
  cases ho
  have hVv := hPv.pvs
  have hPs := hPv.turn hpf
  obtain ⟨hz1, hz2⟩ := order_sz hif hpf hPv.hf.1
  have hfl := hif.out.length
  refine wpAny_execs_cons ?_
  k_steps
  obtain ⟨hvp, hvi, hlay⟩ := chkV_all hpf hPv.hf.1
  (rename Fr _ _ _ _ => F2); (rename News _ _ _ _ => N2); (rename IsRange _ _ _ _ _ _ _ _ => rg)
  have h3 := hPv.hf.1
  refine ⟨?_⟩
  obtain ⟨nw0, hnw0, N2⟩ : ∃ nw0, nw0 = _ ∧ News H L' _ nw0 := ⟨_, rfl, N2⟩
  refine LCg.CompSrc.range (n := es.length) rfl F2 N2 rg (small_of (by omega) (by omega)) (range_size es.length) (by rw [sizeLine_eq]; omega) ?_
  intro g'
  refine rest_ind es.length (fun i ys news => Hold (news = nw0 ∧ IntsAre ys ((rangeL i).map fun k => ((fs.idxOf k : Nat) : Int)))) ?_ ?_ es.length 0 [] _ (by omega) ⟨rfl, .nil⟩
  · rintro i zs news v9 I oI C oC E m₂ h tk E' hi ⟨rfl, hys⟩ ⟨t', rfl⟩ hC hx F' N' o ne
    have hkm : (0 + (i : Int)) ∈ fs := hpf.mem_iff.mpr (rangeL_mem.mpr ⟨by omega, by omega⟩)
    replace hys := Hold.mk hys
    subst hnw0
    clear F2 N2 rg
    have o0 := o
    simp only [LCg.Off3] at o
    k_steps
    first
    | exact ⟨rfl, by rw [invL_snoc]; exact hys.out.append (.cons _ _ .nil)⟩
    | exact LCg.CompEnd.intro F' N' _ (fun _ h => h) o0 trivial ⟨rfl, by rw [invL_snoc]; exact hys.out.append (.cons _ _ .nil)⟩
  · rintro zs news ⟨rfl, hys⟩
    intro D3 h tk F' N' o3'
    subst hnw0
    clear F2 N2 rg
    simp only [LCg.Off1] at o3'
    have hij : Hold (IntsAre zs (invL es.length fs)) := ⟨hys⟩
    clear hys
    have hl2 : (pick es 0 fs).length = es.length := by rw [pick_len, hpf.length_eq, rangeL_len]
    have hpj : (invL es.length fs).Perm (rangeL (pick es 0 fs).length) := by rw [hl2]; exact hvp
    have hvin : ∀ k ∈ invL es.length fs, 0 ≤ k ∧ k < (fs.length : Int) := perm_in hvp (by rw [hpf.length_eq, rangeL_len])
    have hPt := hPs.turn hpj
    have hVt := hPt.pvs
    have hEq : is = apI (pick es 0 fs) (invL es.length fs) (apI es fs is) ∧ ds = pick (pick ds .none fs) .none (invL es.length fs) ∧ nm = apN (invL es.length fs) (apN fs nm) := by
      refine ⟨?_, ?_, ?_⟩
      · rw [apI_comp hPv.hf hPv.h0 hpf hvp hPv.hl, hvi, apI_id hPv.hf hPv.h0 hPv.hl]
      · rw [pick_pick ds .none fs _ hvin, hvi, ← hPv.dlen, pick_id]
      · rw [apN_comp hvin, hvi, apN_id hPv.hn]
    k_steps
    (rename Fr _ _ _ _ => F2); (rename News _ _ _ _ => N2)
    refine ⟨?_⟩
    exact law_w6 ho0 loose mean mg mb dp un gd outer A₀ base H L' fa cdv' _ oF oH c lf lg hx l cs n nf ng K fv gv fs gs v spun is ds nm es th tw Q B X T hd' hu F2 (news_sub N2 (by intro p hp; rcases List.mem_cons.mp hp with rfl | hp; (first | k_mem | fail); rcases List.mem_cons.mp hp with rfl | hp; (first | k_mem | fail); rcases List.mem_cons.mp hp with rfl | hp; (first | k_mem | fail); (first | k_mem | fail))) k1 k2 k3 ca cb hcs dF dH hPv hAv hheld hfm hgm hif hig hpf hpg hAs (fun h' tk' m' F => hret h' tk' m' F)
end Mine
end
section
open PySem PySem.W PySem.Calls PySem.Spec PyProof.Rows
theorem Mine.devW4 : (PySem.Challenge.rw_pq1314_01.foot = 6) → Mine.hd.heap_39 = Mine.hd.heap_39 := by
  k_fill
  intro _; rfl
namespace Mine
theorem regW4_1 : True := by
  k_with_none
  k_with "m k_ne" => (refine neN ?_; (try dsimp only); first
    | with_reducible assumption
    | exact Ne.symm (by with_reducible assumption)
    | ((repeat (rename _ ∧ _ => q8z9; rcases q8z9 with ⟨_, _⟩)); first
      | with_reducible assumption
      | exact Ne.symm (by with_reducible assumption)
      | exact Nat.ne_of_gt (by with_reducible assumption)
      | exact Nat.ne_of_lt (by with_reducible assumption)))
  k_with "m k_all" => assumption
  k_with "m k_handed" => assumption
  k_with "m k_ne" => (refine neN ?_; (try dsimp only); first | with_reducible assumption | exact Ne.symm (by with_reducible assumption) | ((rename Apart _ _ => q9); first
  | (refine' apart_l q9 ?kaz9 ?kbz9; (case kaz9 => ((repeat (first | with_reducible exact List.mem_cons_self | with_reducible refine List.mem_cons_of_mem _ ?_)); done)); (case kbz9 => ((repeat (first | with_reducible exact List.mem_cons_self | with_reducible refine List.mem_cons_of_mem _ ?_)); done)))
  | (refine' apart_r q9 ?kaz9 ?kbz9; (case kaz9 => ((repeat (first | with_reducible exact List.mem_cons_self | with_reducible refine List.mem_cons_of_mem _ ?_)); done)); (case kbz9 => ((repeat (first | with_reducible exact List.mem_cons_self | with_reducible refine List.mem_cons_of_mem _ ?_)); done)))
  | (clear q9; k_ne)))
  k_with "m k_inst" => (refine' kb_inst ?Fz9 ?h1z9 ?h2z9; (case Fz9 => k_asm); (case h1z9 => assumption); (case h2z9 => assumption))
  k_with "m subscriptTail" => (k_here; (with_reducible show wpAny _ _ (subscriptTail _ _ (Value.ref _) (Value.str _ _)) _ _ _); k_dflt (refine' kb_item ?Fz9 ?oz9 ?dz9 ?lz9 ?_; (case Fz9 => k_asm); (case oz9 => assumption); (case dz9 => assumption); (case lz9 => first | assumption | rfl); k_whole))
  k_with "m compareOp In str ref" => (k_here; k_dflt (refine' kb_in ?Fz9 ?oz9 ?dz9 ?sz9 ?lz9 ?_; (case Fz9 => k_asm); (case oz9 => assumption); (case dz9 => assumption); (case sz9 => assumption); (case lz9 => first | assumption | rfl); k_whole))
  k_with "m compareOp NotIn str ref" => (k_here; k_dflt (refine' kb_notIn ?Fz9 ?oz9 ?dz9 ?sz9 ?lz9 ?_; (case Fz9 => k_asm); (case oz9 => assumption); (case dz9 => assumption); (case sz9 => assumption); (case lz9 => first | assumption | rfl); k_whole))
  k_with "m subscriptTail" => (k_here; (with_reducible show wpAny _ _ (subscriptTail _ _ (Value.ref _) (Value.int _ _)) _ _ _); k_dflt (refine' kb_lst ?lz9 ?az9 ?bz9 ?xz9 ?_; (case lz9 => is_list); (case xz9 => first | with_reducible assumption | assumption); (case az9 => omega); (case bz9 => omega); k_whole))
  k_with "m call builtin:len" => (k_here; (with_reducible show wpAny _ _ (call (Value.builtin "len") [Value.ref _]) _ _ _); k_dflt (refine' kb_len ?lz9 ?zz9 ?_; (case lz9 => is_list); (case zz9 => first | assumption | omega); k_whole))
  k_with "m k_all" => exact apart_all (by assumption) (by k_mem)
  k_with "m mul_fits" => first | exact PySem.IntMulOk.of_right (PySem.intBits_le_64 (by omega) (by omega)) | exact PySem.IntMulOk.of_left (PySem.intBits_le_64 (by omega) (by omega))
  k_with "m call type:range" => (k_here; (with_reducible show wpAny _ _ (call (Value.type _) [Value.int _ _]) _ _ _); k_dflt (refine' range1_rows ?Fz9 ?Nz9 ?_; (case Fz9 => k_asm); (case Nz9 => k_asm)); intro h'9 tk'9 t1'9 t2'9 t3'9 rg'9 F'9 N'9 rk'9; clear rk'9; (try k_sweep))
  k_with "m compareOp NotIn int ref" => (k_here; k_dflt (refine' ints_in ?lz9 ?iz9 ?mz9 ?_; (case lz9 => is_list); (case iz9 => exact Hold.out (by assumption)); (case mz9 => exact AllIn.out (by assumption) _ (by omega) (by omega)); k_whole))
  k_with "m is_list" => first | with_reducible assumption | exact News.isList (by k_asm) (by k_mem) | exact Fr.lst (by assumption) (by assumption)
  k_with "m loadName" => (k_here; k_dflt (refine' kb_ldn ?Fz9 ?vz9 ?_ ?az9 ?bz9; (case Fz9 => k_asm); (case az9 => rfl); (case bz9 => rfl); (case vz9 => rfl); k_whole))
  k_with "m pyIter ref" => (k_here; (with_reducible show wpAny _ _ (pyIter (Value.ref _)) (fun it s₂ => LoopAtV _ _ _ _ _ _ _ _ _ it s₂) _ _); refine Halt.out ?_)
  k_with "m CompSrc" => (refine Halt.out ?_)
  k_with "m CompSrcT" => (refine Halt.out ?_)
  k_with "m binaryOp Mod int int" => (k_here; refine mod_int' (by omega) ?_)
  k_with "m binaryOp FloorDiv int int" => (k_here; refine floordiv_int (by omega) ?_ (Or.inl (PyProof.noPylong_small (by omega))))
  k_with "m k_upd" => first | (refine' Spl.head ?az9; (case az9 => k_all)) | (refine' Spl.tail ?az9 ?bz9; (case az9 => k_ne); (case bz9 => k_upd))
  k_with "m subscriptTail Name Name ref int" => (k_here; (with_reducible show wpAny _ _ (subscriptTail _ _ (Value.ref _) (Value.int _ _)) _ _ _); k_dflt (refine' kb_lst ?lz9 ?az9 ?bz9 ?xz9 ?_; (case lz9 => is_list); (case xz9 => first | with_reducible assumption | assumption); (case az9 => omega); (case bz9 => omega); k_whole))
  k_with "m subscriptTail Name Subscript ref int" => (k_here; (with_reducible show wpAny _ _ (subscriptTail _ _ (Value.ref _) (Value.int _ _)) _ _ _); k_dflt (refine' kb_lst ?lz9 ?az9 ?bz9 ?xz9 ?_; (case lz9 => is_list); (case xz9 => first | with_reducible assumption | assumption); (case az9 => omega); (case bz9 => omega); k_whole))
  k_with "m subscriptTail Attribute Name Name ref int" => (k_here; (with_reducible show wpAny _ _ (subscriptTail _ _ (Value.ref _) (Value.int _ _)) _ _ _); k_dflt (refine' kb_lst ?lz9 ?az9 ?bz9 ?xz9 ?_; (case lz9 => is_list); (case xz9 => first | with_reducible assumption | assumption); (case az9 => omega); (case bz9 => omega); k_whole))
  k_with "m subscriptTail Name Constant ref int" => (k_here; (with_reducible show wpAny _ _ (subscriptTail _ _ (Value.ref _) (Value.int _ _)) _ _ _); k_dflt (refine' kb_lst ?lz9 ?az9 ?bz9 ?xz9 ?_; (case lz9 => is_list); (case xz9 => first | with_reducible assumption | assumption); (case az9 => omega); (case bz9 => omega); k_whole))
  k_with "m subscriptTail Attribute Name BinOp ref int" => (k_here; (with_reducible show wpAny _ _ (subscriptTail _ _ (Value.ref _) (Value.int _ _)) _ _ _); k_dflt (refine' kb_lst ?lz9 ?az9 ?bz9 ?xz9 ?_; (case lz9 => is_list); (case xz9 => first | with_reducible assumption | assumption); (case az9 => omega); (case bz9 => omega); k_whole))
  k_with "m subscriptTail Attribute Subscript Name ref int" => (k_here; (with_reducible show wpAny _ _ (subscriptTail _ _ (Value.ref _) (Value.int _ _)) _ _ _); k_dflt (refine' kb_lst ?lz9 ?az9 ?bz9 ?xz9 ?_; (case lz9 => is_list); (case xz9 => first | with_reducible assumption | assumption); (case az9 => omega); (case bz9 => omega); k_whole))
  k_with "m eval ListComp" => (k_here; first
  | (lct_look; k_dflt (refine LCt.ListComp_T (F₀ := by k_asm) (by with_unfolding_all rfl) (by decide) (by rfl) (by decide) (by rfl) ?_))
  | ((first | lcg_look | lcf_look); k_dflt (refine LCg.ListComp_U (F₀ := by k_asm) (by with_unfolding_all rfl) (by decide) (by rfl) (by decide) (by rfl) ?_)))
  k_with "m exec Assign cons ListComp" => (k_here; first
  | (lct_look; k_dflt (refine LCt.Assign_ListComp_T (F₀ := by k_asm) (by rfl) (by with_unfolding_all rfl) (by with_unfolding_all rfl) (by decide) (by rfl) (by decide) (by rfl) (by rfl) (by rfl) ?_))
  | ((first | lcg_look | lcf_look); k_dflt (refine LCg.Assign_ListComp_U (F₀ := by k_asm) (by rfl) (by with_unfolding_all rfl) (by with_unfolding_all rfl) (by decide) (by rfl) (by decide) (by rfl) (by rfl) (by rfl) ?_)))
  k_with "m call ref" => (k_here; (with_reducible show wpAny _ _ (call (Value.ref 197) [_, _]) _ _ _); k_dflt (refine' ConM.use (card_con _ _ _ _ ?h1z9 ?h2z9) _ _ _ _ _ _ _ _ _ _ _ _ _ _ _ _ _ _ _ _ _ _ _ _ ?Bz9 ?Fz9 ?Xz9 ?Nz9 ?Uz9 ?Cz9 ?Tz9 ?ckz9 ?hdz9 ?huz9 ?_; (case Bz9 => k_asm); (case Fz9 => k_asm); (case Xz9 => k_asm); (case Nz9 => k_asm); (case Uz9 => k_upd); (case Cz9 => assumption); (case Tz9 => k_asm); (case h1z9 => omega); (case h2z9 => omega); (case ckz9 => first | rfl | assumption); (case hdz9 => omega); (case huz9 => omega); k_whole); intro r'9 nx'9 h'9 tk'9 cs'9 n'9 F'9 N'9 C'9 ne'9 P'9; obtain ⟨hn'9, j'9, u'9, hr'9, hj1'9, hj2'9⟩ := P'9; subst hr'9; subst hn'9; (have nr'9 := Apart.mk ne'9); (replace N'9 := news_swap N'9); (try simp only [List.cons_append, List.nil_append] at N'9); clear ne'9; (try k_sweep))
  k_with "m call ref" => (k_here; (with_reducible show wpAny _ _ (call (Value.ref 190) [_]) _ _ _); k_dflt (refine' cards_con _ _ _ _ ?hiz9 ?hzz9 _ _ _ _ _ _ _ _ _ _ _ _ _ _ _ _ _ _ _ _ _ _ ?Bz9 ?Fz9 ?Xz9 ?Nz9 ?Tz9 ?ckz9 ?hdz9 ?huz9 ?hpz9 ?_; (case Bz9 => k_asm); (case Fz9 => k_asm); (case Xz9 => k_asm); (case Nz9 => k_asm); (case Tz9 => k_asm); (case hpz9 => is_list); (case hiz9 => assumption); (case hzz9 => assumption); (case ckz9 => first | rfl | assumption); (case hdz9 => omega); (case huz9 => omega); k_whole); intro r'9 nx'9 h'9 tk'9 F'9 N'9 ne'9 P'9; obtain ⟨lc'9, cs'9, n'9, hr'9, hn'9, C'9⟩ := P'9; subst hr'9; subst hn'9; (have nr'9 := Apart.mk ne'9); (replace N'9 := news_swap N'9); (try simp only [List.cons_append, List.nil_append] at N'9); clear ne'9; (try k_sweep))
  k_with "m call ref" => (k_here; (with_reducible show wpAny _ _ (call (Value.ref 209) [_, _]) _ _ _); k_dflt (refine' ConM.use (array_con _ _ _ _ ?h1z9 ?h2z9) _ _ _ _ _ _ _ _ _ _ _ _ _ _ _ _ _ _ _ _ _ _ _ _ ?Bz9 ?Fz9 ?Xz9 ?Nz9 ?Uz9 ?Cz9 ?Tz9 ?ckz9 ?hdz9 ?huz9 ?_; (case Bz9 => k_asm); (case Fz9 => k_asm); (case Xz9 => k_asm); (case Nz9 => k_asm); (case Uz9 => k_upd); (case Cz9 => assumption); (case Tz9 => k_asm); (case h1z9 => omega); (case h2z9 => omega); (case ckz9 => first | rfl | assumption); (case hdz9 => omega); (case huz9 => omega); k_whole); intro r'9 nx'9 h'9 tk'9 cs'9 n'9 F'9 N'9 C'9 ne'9 P'9; skip; (have nr'9 := Apart.mk ne'9); (replace N'9 := news_swap N'9); (try simp only [List.cons_append, List.nil_append] at N'9); clear ne'9; (try k_sweep))
  k_with "m call ref" => (k_here; (with_reducible show wpAny _ _ (call (Value.ref 204) [_, _]) _ _ _); k_dflt (refine' ConM.use (order_con _ _ _ _ ?h1z9 ?h2z9) _ _ _ _ _ _ _ _ _ _ _ _ _ _ _ _ _ _ _ _ _ _ _ _ ?Bz9 ?Fz9 ?Xz9 ?Nz9 ?Uz9 ?Cz9 ?Tz9 ?ckz9 ?hdz9 ?huz9 ?_; (case Bz9 => k_asm); (case Fz9 => k_asm); (case Xz9 => k_asm); (case Nz9 => k_asm); (case Uz9 => k_upd); (case Cz9 => assumption); (case Tz9 => k_asm); (case h1z9 => omega); (case h2z9 => omega); (case ckz9 => first | rfl | assumption); (case hdz9 => omega); (case huz9 => omega); k_whole); intro r'9 nx'9 h'9 tk'9 cs'9 n'9 F'9 N'9 C'9 ne'9 P'9; obtain ⟨l'9, nn'9, vs'9, fs'9, hr'9, hn'9, hi'9, hp'9⟩ := P'9; subst hr'9; subst hn'9; (have nr'9 := Apart.mk ne'9); (replace N'9 := news_swap N'9); (try simp only [List.cons_append, List.nil_append] at N'9); clear ne'9; (try k_sweep))
  k_with "m call ref" => (k_here; (with_reducible show wpAny _ _ (call (Value.ref 214) [_]) _ _ _); k_dflt (refine' seen_law _ _ _ _ _ _ ?pfz9 _ _ _ _ _ _ _ _ _ _ _ _ _ _ _ _ _ _ _ _ _ _ ?Bz9 ?Fz9 ?Xz9 ?Nz9 ?Tz9 ?ckz9 ?hdz9 ?huz9 ?hpz9 ?_; (case Bz9 => k_asm); (case Fz9 => k_asm); (case Xz9 => k_asm); (case Nz9 => k_asm); (case Tz9 => k_asm); (case hpz9 => (refine' AR.mono ?hsz9 ?xxz9; (case xxz9 => assumption); (case hsz9 => exact (fun a9 o9 h9 => News.get (by k_asm) (by simp only [List.mem_cons, List.mem_append, h9, true_or, or_true]))))); (case pfz9 => assumption); (case ckz9 => first | rfl | assumption); (case hdz9 => omega); (case huz9 => omega); k_whole); intro r'9 nx'9 h'9 tk'9 F'9 N'9 ne'9 P'9; obtain ⟨t'9, hS'9⟩ := P'9; (have hS0'9 := hS'9); obtain ⟨x'9, l1'9, n1'9, l2'9, n2'9, nv'9, hr'9, hm1'9, hm2'9, hm3'9, hm4'9⟩ := hS0'9; subst hr'9; (have nr'9 := Apart.mk ne'9); (replace N'9 := news_swap N'9); (try simp only [List.cons_append, List.nil_append] at N'9); clear ne'9; (try k_sweep))
  k_with "m call ref" => (k_here; (with_reducible show wpAny _ _ (call (Value.ref 183) [_, _]) _ _ _); k_dflt (refine' aperm_law _ _ _ _ _ _ _ _ _ ?pfz9 ?hp0z9 ?hp1z9 _ _ _ _ _ _ _ _ _ _ _ _ _ _ _ _ _ _ _ _ _ _ ?Bz9 ?Fz9 ?Xz9 ?Nz9 ?Tz9 ?ckz9 ?hdz9 ?huz9 ?hpz9 ?_; (case Bz9 => k_asm); (case Fz9 => k_asm); (case Xz9 => k_asm); (case Nz9 => k_asm); (case Tz9 => k_asm); (case hpz9 => refine' ⟨AR.mono ?hsz9 ?xxz9, ?llz9⟩; (case llz9 => is_list); (case xxz9 => assumption); (case hsz9 => exact (fun a9 o9 h9 => News.get (by k_asm) (by simp only [List.mem_cons, List.mem_append, h9, true_or, or_true])))); (case pfz9 => assumption); (case hp0z9 => first | assumption | exact ints10); (case hp1z9 => assumption); (case ckz9 => first | rfl | assumption); (case hdz9 => omega); (case huz9 => omega); k_whole); intro r'9 nx'9 h'9 tk'9 F'9 N'9 ne'9 P'9; skip; (have nr'9 := Apart.mk ne'9); (replace N'9 := news_swap N'9); (try simp only [List.cons_append, List.nil_append] at N'9); clear ne'9; (try k_sweep))
  k_with "m call ref" => (k_here; (with_reducible show wpAny _ _ (call (Value.ref 183) [_, _]) _ _ _); k_dflt (refine' aperm_lawN _ _ _ _ _ _ ?pfz9 _ _ _ _ _ _ _ _ _ _ _ _ _ _ _ _ _ _ _ _ _ _ ?Bz9 ?Fz9 ?Xz9 ?Nz9 ?Tz9 ?ckz9 ?hdz9 ?huz9 ?hpz9 ?_; (case Bz9 => k_asm); (case Fz9 => k_asm); (case Xz9 => k_asm); (case Nz9 => k_asm); (case Tz9 => k_asm); (case hpz9 => (refine' AR.mono ?hsz9 ?xxz9; (case xxz9 => assumption); (case hsz9 => exact (fun a9 o9 h9 => News.get (by k_asm) (by simp only [List.mem_cons, List.mem_append, h9, true_or, or_true]))))); (case pfz9 => assumption); (case ckz9 => first | rfl | assumption); (case hdz9 => omega); (case huz9 => omega); k_whole); intro r'9 nx'9 h'9 tk'9 F'9 N'9 ne'9 P'9; skip; (have nr'9 := Apart.mk ne'9); (replace N'9 := news_swap N'9); (try simp only [List.cons_append, List.nil_append] at N'9); clear ne'9; (try k_sweep))
  k_with "m call ref" => (k_here; (with_reducible show wpAny _ _ (call (Value.ref 164) [_]) _ _ _); k_dflt (refine' trans_law _ _ _ _ _ _ ?pfz9 ?h2z9 _ _ _ _ _ _ _ _ _ _ _ _ _ _ _ _ _ _ _ _ _ _ ?Bz9 ?Fz9 ?Xz9 ?Nz9 ?Tz9 ?ckz9 ?hdz9 ?huz9 ?hpz9 ?_; (case Bz9 => k_asm); (case Fz9 => k_asm); (case Xz9 => k_asm); (case Nz9 => k_asm); (case Tz9 => k_asm); (case hpz9 => (refine' AR.mono ?hsz9 ?xxz9; (case xxz9 => assumption); (case hsz9 => exact (fun a9 o9 h9 => News.get (by k_asm) (by simp only [List.mem_cons, List.mem_append, h9, true_or, or_true]))))); (case pfz9 => assumption); (case h2z9 => first | assumption | rfl); (case ckz9 => first | rfl | assumption); (case hdz9 => omega); (case huz9 => omega); k_whole); intro r'9 nx'9 h'9 tk'9 F'9 N'9 ne'9 P'9; skip; (have nr'9 := Apart.mk ne'9); (replace N'9 := news_swap N'9); (try simp only [List.cons_append, List.nil_append] at N'9); clear ne'9; (try k_sweep))
  k_with "m subscriptTail" => (k_here; (with_reducible show wpAny _ _ (subscriptTail _ _ (Value.ref _) (Value.str _ _)) _ _ _); k_dflt (refine' kb_itemN ?Nz9 ?mz9 ?dz9 ?lz9 ?_; (case Nz9 => k_asm); (case mz9 => k_mem); (case dz9 => assumption); (case lz9 => first | assumption | rfl); k_whole))
  k_with "m compareOp NotEq ref ref" => (k_here; (with_reducible show wpAny _ _ (compareOp CmpOp.NotEq (Value.ref _) (Value.ref _)) _ _ _); k_dflt (refine' lst_ne ?hAz9 ?hBz9 ?Pz9 ?uz9 ?_; (case hAz9 => is_list); (case hBz9 => is_list); (case Pz9 => assumption); (case uz9 => ke_room); k_whole))
  k_with "m compareOp NotEq ref ref" => (k_here; (with_reducible show wpAny _ _ (compareOp CmpOp.NotEq (Value.ref _) (Value.ref _)) _ _ _); k_dflt (refine' seen_ne ?Pz9 ?hAz9 ?hBz9 ?ez9 ?uz9 ?_; (case hAz9 => (refine' SeenIs.mono ?hsz9 ?xxz9; (case xxz9 => assumption); (case hsz9 => exact (fun a9 o9 h9 => News.get (by k_asm) (by simp only [List.mem_cons, List.mem_append, h9, true_or, or_true]))))); (case hBz9 => (refine' SeenIs.mono ?hsz9 ?xxz9; (case xxz9 => assumption); (case hsz9 => exact (fun a9 o9 h9 => News.get (by k_asm) (by simp only [List.mem_cons, List.mem_append, h9, true_or, or_true]))))); (case Pz9 => assumption); (case ez9 => first | assumption | exact ⟨rfl, rfl, rfl⟩); (case uz9 => ke_room); k_whole))
  k_with "m compareOp Eq ref ref" => (k_here; (with_reducible show wpAny _ _ (compareOp CmpOp.Eq (Value.ref _) (Value.ref _)) _ _ _); k_dflt (refine' seen_eq ?Pz9 ?hAz9 ?hBz9 ?ez9 ?uz9 ?_; (case hAz9 => (refine' SeenIs.mono ?hsz9 ?xxz9; (case xxz9 => assumption); (case hsz9 => exact (fun a9 o9 h9 => News.get (by k_asm) (by simp only [List.mem_cons, List.mem_append, h9, true_or, or_true]))))); (case hBz9 => (refine' SeenIs.mono ?hsz9 ?xxz9; (case xxz9 => assumption); (case hsz9 => exact (fun a9 o9 h9 => News.get (by k_asm) (by simp only [List.mem_cons, List.mem_append, h9, true_or, or_true]))))); (case Pz9 => assumption); (case ez9 => first | assumption | exact ⟨rfl, rfl, rfl⟩); (case uz9 => ke_room); k_whole))
  k_with "m k_all" => first | assumption | exact apart_all (by assumption) (by k_mem) | exact off_app (by k_all) (by k_all)
  k_with "m k_mem" => first | with_reducible assumption | with_reducible exact List.mem_cons_self | (with_reducible refine List.mem_cons_of_mem _ ?_; k_mem) | (with_reducible refine List.mem_append_left _ ?_; k_mem) | (with_reducible refine List.mem_append_right _ ?_; k_mem)
  k_with "m execs cons" => (k_here; with_reducible refine Halt.out ?_)
  trivial
set_option maxHeartbeats 4000000 in
theorem law_w4 {w : World} {name qual : Str} {params : Arguments} {body : List Stmt} {scope : Scope} {dV kV doc pm cdv ct oc : Value} {an od : Option Addr} {osl : Array (Option Value)}
    (ho : (hd.heap_39 w.params).lookup 219 = some ⟨oc, od, .func (fnOf name qual params body scope dV kV doc pm an cdv ct), osl⟩)
    (loose : List Str) (mean : ExcName → Option Value) (mg mb : Str → Option Value) (dp un : Nat) (gd : Option (List Code)) (outer : List Env) (A₀ : Around) (base H : Heap) (L' fa : Addr) (cdv' : Value) (s : Shared) (oF oH : Obj) (c lf lg hx l : Addr) (cs : List Value) (n nf ng : Nat) (K : List (Addr × Obj)) (fv gv : List Value) (fs gs : List Int) (v spun : Value) (is ds : List Value) (nm : Option (List (Option (List Value)))) (es : List Int) (th tw : Tok) (Q : Flow → Shared → Prop)
    (B : Below A₀ base outer H) (X : (hd.heap_39 w.params).In H) (T : Top hd.view_39 loose mean mg mb H) (hd' : dp + 40 < recursionLimit) (hu : un + 400 < cLine) (F : Fr H L' s.heap (fun y => List.lookup y [(Str.ofString "spun", spun), (Str.ofString "second", .ref lg), (Str.ofString "v", v), (Str.ofString "wide", .int (es.length : Int) tw), (Str.ofString "cards", .ref c), (Str.ofString "script", .ref l)]))
    (N : News H L' s.heap ((L' + 1 + 1, oF) :: (L' + 1, oH) :: (c, W.listOf cs.toArray n) :: K)) (k1 : ∀ p ∈ K, p.1 ≠ L' + 1 + 1) (k2 : ∀ p ∈ K, p.1 ≠ L' + 1) (k3 : ∀ p ∈ K, p.1 ≠ c) (ca : c ≠ L' + 1 + 1) (cb : c ≠ L' + 1) (hcs : Cards cs) (dF : oF.data = .cell (some (.ref lf))) (dH : oH.data = .cell (some (.ref hx)))
    (hPv : PF is ds nm es) (hAv : AR w (lAt K) v is ds nm) (hheld : SeenIs (lAt K) (.ref hx) (Str.ofString "integer") th is ds nm)
    (hfm : (lf, W.listOf fv.toArray nf) ∈ K) (hgm : (lg, W.listOf gv.toArray ng) ∈ K) (hif : Hold (IntsAre fv fs)) (hig : Hold (IntsAre gv gs)) (hpf : fs.Perm (rangeL es.length)) (hpg : gs.Perm (rangeL es.length))
    (hAs : AR w (lAt K) spun (apI es fs is) (pick ds .none fs) (apN fs nm))
    (hret : ∀ h' tk' m', Fr H L' h' m' → Q (.ret (.bool true)) { s with heap := h', toks := tk' }) :
    wpAny (model PySem.Challenge.rw_pq1314_01.row.prog w) (ktrTop dp un gd qual scope L' fa cdv' (cellsFrom (L' + 1) scope.names []) outer) (execs (body.drop 9) (envX qual scope L' fa cdv' (cellsFrom (L' + 1) scope.names []))) Q (fun _ _ => False) s := by

  have ho0 := ho
  cases ho
  have hVv := hPv.pvs
  have hPs := hPv.turn hpf
  have hl2 : (pick es 0 fs).length = es.length := by rw [pick_len, hpf.length_eq, rangeL_len]
  have hpg2 : gs.Perm (rangeL (pick es 0 fs).length) := by rw [hl2]; exact hpg
  have hPt := hPs.turn hpg2
  have hPc := hPv.turn (perm_pick hpf hpg)
  obtain ⟨hz1, hz2⟩ := order_sz hif hpf hPv.hf.1
  obtain ⟨hz3, hz4⟩ := order_sz hig hpg hPv.hf.1
  have hfl := hif.out.length
  have hgl := hig.out.length
  have hgin : ∀ k ∈ gs, 0 ≤ k ∧ k < (fs.length : Int) := perm_in hpg (by rw [hpf.length_eq, rangeL_len])
  refine wpAny_execs_cons ?_
  k_steps
  (rename Fr _ _ _ _ => F2); (rename News _ _ _ _ => N2)
  refine ⟨?_⟩
  obtain ⟨nw0, hnw0, N2⟩ : ∃ nw0, nw0 = _ ∧ News H L' _ nw0 := ⟨_, rfl, N2⟩
  refine LCg.CompSrc.ledger rfl F2 N2 (k := ng) (by rw [hnw0]; first | k_mem | fail) hz3 ?_
  intro g'
  rw [List.size_toArray]
  refine rest_ind gv.length (fun i ys news => Hold (news = nw0 ∧ ys = pick fv .none (gs.take i))) ?_ ?_ gv.length 0 [] _ (by omega) ⟨rfl, rfl⟩
  · rintro i zs news v9 I oI C oC E m₂ h tk E' hi ⟨rfl, rfl⟩ hP hC hx F' N' o ne
    have hv : gv[i]? = some v9 := by simpa using hP
    obtain ⟨k9, t', rfl, hn⟩ := hig.out.at i v9 hv
    have hk := hgin k9 (List.mem_of_getElem? hn)
    have e1 := take_snoc hn
    have hg : fv[k9.toNat]? = some (fv.getD k9.toNat .none) := getD_some (by omega)
    subst hnw0
    clear F2 N2
    have o0 := o
    simp only [LCg.Off3] at o
    k_steps
    first
    | exact ⟨rfl, by rw [e1, pick_snoc]⟩
    | exact LCg.CompEnd.intro F' N' _ (fun _ h => h) o0 (.inr ⟨_, by first | k_mem | fail, rfl, _, rfl⟩) ⟨rfl, by rw [e1, pick_snoc]⟩
  · rintro zs news ⟨rfl, rfl⟩
    intro D3 h tk F' N' o3'
    subst hnw0
    clear F2 N2
    rw [List.take_of_length_le (by omega)] at N'
    simp only [LCg.Off1] at o3'
    have hij : Hold (IntsAre (pick fv .none gs) (pick fs 0 gs)) := ⟨ints_pick hif.out hgin⟩
    have hpj : (pick fs 0 gs).Perm (rangeL es.length) := perm_pick hpf hpg
    have hEq : apI es (pick fs 0 gs) is = apI (pick es 0 fs) gs (apI es fs is) ∧ pick ds .none (pick fs 0 gs) = pick (pick ds .none fs) .none gs ∧ apN (pick fs 0 gs) nm = apN gs (apN fs nm) := ⟨(apI_comp hPv.hf hPv.h0 hpf hpg hPv.hl).symm, (pick_pick ds .none fs gs hgin).symm, (apN_comp hgin).symm⟩
    have hVt := hPt.pvs
    k_steps
    (rename Fr _ _ _ _ => F2); (rename News _ _ _ _ => N2)
    refine ⟨?_⟩
    exact law_w5 ho0 loose mean mg mb dp un gd outer A₀ base H L' fa cdv' _ oF oH c lf lg hx l cs n nf ng K fv gv fs gs v spun is ds nm es th tw Q B X T hd' hu F2 (news_sub N2 (by intro p hp; rcases List.mem_cons.mp hp with rfl | hp; (first | k_mem | fail); rcases List.mem_cons.mp hp with rfl | hp; (first | k_mem | fail); rcases List.mem_cons.mp hp with rfl | hp; (first | k_mem | fail); (first | k_mem | fail))) k1 k2 k3 ca cb hcs dF dH hPv hAv hheld hfm hgm hif hig hpf hpg hAs (fun h' tk' m' F => hret h' tk' m' F)
end Mine
end
section
open PySem PySem.W PySem.Calls PySem.Spec PyProof.Rows
theorem Mine.devW3 : (PySem.Challenge.rw_pq1314_01.foot = 6) → Mine.hd.heap_39 = Mine.hd.heap_39 := by
  k_fill
  intro _; rfl
namespace Mine
theorem regW3_1 : True := by
  k_with_none
  k_with "m k_ne" => (refine neN ?_; (try dsimp only); first
    | with_reducible assumption
    | exact Ne.symm (by with_reducible assumption)
    | ((repeat (rename _ ∧ _ => q8z9; rcases q8z9 with ⟨_, _⟩)); first
      | with_reducible assumption
      | exact Ne.symm (by with_reducible assumption)
      | exact Nat.ne_of_gt (by with_reducible assumption)
      | exact Nat.ne_of_lt (by with_reducible assumption)))
  k_with "m k_all" => assumption
  k_with "m k_handed" => assumption
  k_with "m k_ne" => (refine neN ?_; (try dsimp only); first | with_reducible assumption | exact Ne.symm (by with_reducible assumption) | ((rename Apart _ _ => q9); first
  | (refine' apart_l q9 ?kaz9 ?kbz9; (case kaz9 => ((repeat (first | with_reducible exact List.mem_cons_self | with_reducible refine List.mem_cons_of_mem _ ?_)); done)); (case kbz9 => ((repeat (first | with_reducible exact List.mem_cons_self | with_reducible refine List.mem_cons_of_mem _ ?_)); done)))
  | (refine' apart_r q9 ?kaz9 ?kbz9; (case kaz9 => ((repeat (first | with_reducible exact List.mem_cons_self | with_reducible refine List.mem_cons_of_mem _ ?_)); done)); (case kbz9 => ((repeat (first | with_reducible exact List.mem_cons_self | with_reducible refine List.mem_cons_of_mem _ ?_)); done)))
  | (clear q9; k_ne)))
  k_with "m k_inst" => (refine' kb_inst ?Fz9 ?h1z9 ?h2z9; (case Fz9 => k_asm); (case h1z9 => assumption); (case h2z9 => assumption))
  k_with "m subscriptTail" => (k_here; (with_reducible show wpAny _ _ (subscriptTail _ _ (Value.ref _) (Value.str _ _)) _ _ _); k_dflt (refine' kb_item ?Fz9 ?oz9 ?dz9 ?lz9 ?_; (case Fz9 => k_asm); (case oz9 => assumption); (case dz9 => assumption); (case lz9 => first | assumption | rfl); k_whole))
  k_with "m compareOp In str ref" => (k_here; k_dflt (refine' kb_in ?Fz9 ?oz9 ?dz9 ?sz9 ?lz9 ?_; (case Fz9 => k_asm); (case oz9 => assumption); (case dz9 => assumption); (case sz9 => assumption); (case lz9 => first | assumption | rfl); k_whole))
  k_with "m compareOp NotIn str ref" => (k_here; k_dflt (refine' kb_notIn ?Fz9 ?oz9 ?dz9 ?sz9 ?lz9 ?_; (case Fz9 => k_asm); (case oz9 => assumption); (case dz9 => assumption); (case sz9 => assumption); (case lz9 => first | assumption | rfl); k_whole))
  k_with "m subscriptTail" => (k_here; (with_reducible show wpAny _ _ (subscriptTail _ _ (Value.ref _) (Value.int _ _)) _ _ _); k_dflt (refine' kb_lst ?lz9 ?az9 ?bz9 ?xz9 ?_; (case lz9 => is_list); (case xz9 => first | with_reducible assumption | assumption); (case az9 => omega); (case bz9 => omega); k_whole))
  k_with "m call builtin:len" => (k_here; (with_reducible show wpAny _ _ (call (Value.builtin "len") [Value.ref _]) _ _ _); k_dflt (refine' kb_len ?lz9 ?zz9 ?_; (case lz9 => is_list); (case zz9 => first | assumption | omega); k_whole))
  k_with "m k_all" => exact apart_all (by assumption) (by k_mem)
  k_with "m mul_fits" => first | exact PySem.IntMulOk.of_right (PySem.intBits_le_64 (by omega) (by omega)) | exact PySem.IntMulOk.of_left (PySem.intBits_le_64 (by omega) (by omega))
  k_with "m call type:range" => (k_here; (with_reducible show wpAny _ _ (call (Value.type _) [Value.int _ _]) _ _ _); k_dflt (refine' range1_rows ?Fz9 ?Nz9 ?_; (case Fz9 => k_asm); (case Nz9 => k_asm)); intro h'9 tk'9 t1'9 t2'9 t3'9 rg'9 F'9 N'9 rk'9; clear rk'9; (try k_sweep))
  k_with "m compareOp NotIn int ref" => (k_here; k_dflt (refine' ints_in ?lz9 ?iz9 ?mz9 ?_; (case lz9 => is_list); (case iz9 => exact Hold.out (by assumption)); (case mz9 => exact AllIn.out (by assumption) _ (by omega) (by omega)); k_whole))
  k_with "m is_list" => first | with_reducible assumption | exact News.isList (by k_asm) (by k_mem) | exact Fr.lst (by assumption) (by assumption)
  k_with "m loadName" => (k_here; k_dflt (refine' kb_ldn ?Fz9 ?vz9 ?_ ?az9 ?bz9; (case Fz9 => k_asm); (case az9 => rfl); (case bz9 => rfl); (case vz9 => rfl); k_whole))
  k_with "m pyIter ref" => (k_here; (with_reducible show wpAny _ _ (pyIter (Value.ref _)) (fun it s₂ => LoopAtV _ _ _ _ _ _ _ _ _ it s₂) _ _); refine Halt.out ?_)
  k_with "m CompSrc" => (refine Halt.out ?_)
  k_with "m CompSrcT" => (refine Halt.out ?_)
  k_with "m binaryOp Mod int int" => (k_here; refine mod_int' (by omega) ?_)
  k_with "m binaryOp FloorDiv int int" => (k_here; refine floordiv_int (by omega) ?_ (Or.inl (PyProof.noPylong_small (by omega))))
  k_with "m k_upd" => first | (refine' Spl.head ?az9; (case az9 => k_all)) | (refine' Spl.tail ?az9 ?bz9; (case az9 => k_ne); (case bz9 => k_upd))
  k_with "m subscriptTail Name Name ref int" => (k_here; (with_reducible show wpAny _ _ (subscriptTail _ _ (Value.ref _) (Value.int _ _)) _ _ _); k_dflt (refine' kb_lst ?lz9 ?az9 ?bz9 ?xz9 ?_; (case lz9 => is_list); (case xz9 => first | with_reducible assumption | assumption); (case az9 => omega); (case bz9 => omega); k_whole))
  k_with "m subscriptTail Name Subscript ref int" => (k_here; (with_reducible show wpAny _ _ (subscriptTail _ _ (Value.ref _) (Value.int _ _)) _ _ _); k_dflt (refine' kb_lst ?lz9 ?az9 ?bz9 ?xz9 ?_; (case lz9 => is_list); (case xz9 => first | with_reducible assumption | assumption); (case az9 => omega); (case bz9 => omega); k_whole))
  k_with "m subscriptTail Attribute Name Name ref int" => (k_here; (with_reducible show wpAny _ _ (subscriptTail _ _ (Value.ref _) (Value.int _ _)) _ _ _); k_dflt (refine' kb_lst ?lz9 ?az9 ?bz9 ?xz9 ?_; (case lz9 => is_list); (case xz9 => first | with_reducible assumption | assumption); (case az9 => omega); (case bz9 => omega); k_whole))
  k_with "m subscriptTail Name Constant ref int" => (k_here; (with_reducible show wpAny _ _ (subscriptTail _ _ (Value.ref _) (Value.int _ _)) _ _ _); k_dflt (refine' kb_lst ?lz9 ?az9 ?bz9 ?xz9 ?_; (case lz9 => is_list); (case xz9 => first | with_reducible assumption | assumption); (case az9 => omega); (case bz9 => omega); k_whole))
  k_with "m subscriptTail Attribute Name BinOp ref int" => (k_here; (with_reducible show wpAny _ _ (subscriptTail _ _ (Value.ref _) (Value.int _ _)) _ _ _); k_dflt (refine' kb_lst ?lz9 ?az9 ?bz9 ?xz9 ?_; (case lz9 => is_list); (case xz9 => first | with_reducible assumption | assumption); (case az9 => omega); (case bz9 => omega); k_whole))
  k_with "m subscriptTail Attribute Subscript Name ref int" => (k_here; (with_reducible show wpAny _ _ (subscriptTail _ _ (Value.ref _) (Value.int _ _)) _ _ _); k_dflt (refine' kb_lst ?lz9 ?az9 ?bz9 ?xz9 ?_; (case lz9 => is_list); (case xz9 => first | with_reducible assumption | assumption); (case az9 => omega); (case bz9 => omega); k_whole))
  k_with "m eval ListComp" => (k_here; first
  | (lct_look; k_dflt (refine LCt.ListComp_T (F₀ := by k_asm) (by with_unfolding_all rfl) (by decide) (by rfl) (by decide) (by rfl) ?_))
  | ((first | lcg_look | lcf_look); k_dflt (refine LCg.ListComp_U (F₀ := by k_asm) (by with_unfolding_all rfl) (by decide) (by rfl) (by decide) (by rfl) ?_)))
  k_with "m exec Assign cons ListComp" => (k_here; first
  | (lct_look; k_dflt (refine LCt.Assign_ListComp_T (F₀ := by k_asm) (by rfl) (by with_unfolding_all rfl) (by with_unfolding_all rfl) (by decide) (by rfl) (by decide) (by rfl) (by rfl) (by rfl) ?_))
  | ((first | lcg_look | lcf_look); k_dflt (refine LCg.Assign_ListComp_U (F₀ := by k_asm) (by rfl) (by with_unfolding_all rfl) (by with_unfolding_all rfl) (by decide) (by rfl) (by decide) (by rfl) (by rfl) (by rfl) ?_)))
  k_with "m call ref" => (k_here; (with_reducible show wpAny _ _ (call (Value.ref 197) [_, _]) _ _ _); k_dflt (refine' ConM.use (card_con _ _ _ _ ?h1z9 ?h2z9) _ _ _ _ _ _ _ _ _ _ _ _ _ _ _ _ _ _ _ _ _ _ _ _ ?Bz9 ?Fz9 ?Xz9 ?Nz9 ?Uz9 ?Cz9 ?Tz9 ?ckz9 ?hdz9 ?huz9 ?_; (case Bz9 => k_asm); (case Fz9 => k_asm); (case Xz9 => k_asm); (case Nz9 => k_asm); (case Uz9 => k_upd); (case Cz9 => assumption); (case Tz9 => k_asm); (case h1z9 => omega); (case h2z9 => omega); (case ckz9 => first | rfl | assumption); (case hdz9 => omega); (case huz9 => omega); k_whole); intro r'9 nx'9 h'9 tk'9 cs'9 n'9 F'9 N'9 C'9 ne'9 P'9; obtain ⟨hn'9, j'9, u'9, hr'9, hj1'9, hj2'9⟩ := P'9; subst hr'9; subst hn'9; (have nr'9 := Apart.mk ne'9); (replace N'9 := news_swap N'9); (try simp only [List.cons_append, List.nil_append] at N'9); clear ne'9; (try k_sweep))
  k_with "m call ref" => (k_here; (with_reducible show wpAny _ _ (call (Value.ref 190) [_]) _ _ _); k_dflt (refine' cards_con _ _ _ _ ?hiz9 ?hzz9 _ _ _ _ _ _ _ _ _ _ _ _ _ _ _ _ _ _ _ _ _ _ ?Bz9 ?Fz9 ?Xz9 ?Nz9 ?Tz9 ?ckz9 ?hdz9 ?huz9 ?hpz9 ?_; (case Bz9 => k_asm); (case Fz9 => k_asm); (case Xz9 => k_asm); (case Nz9 => k_asm); (case Tz9 => k_asm); (case hpz9 => is_list); (case hiz9 => assumption); (case hzz9 => assumption); (case ckz9 => first | rfl | assumption); (case hdz9 => omega); (case huz9 => omega); k_whole); intro r'9 nx'9 h'9 tk'9 F'9 N'9 ne'9 P'9; obtain ⟨lc'9, cs'9, n'9, hr'9, hn'9, C'9⟩ := P'9; subst hr'9; subst hn'9; (have nr'9 := Apart.mk ne'9); (replace N'9 := news_swap N'9); (try simp only [List.cons_append, List.nil_append] at N'9); clear ne'9; (try k_sweep))
  k_with "m call ref" => (k_here; (with_reducible show wpAny _ _ (call (Value.ref 209) [_, _]) _ _ _); k_dflt (refine' ConM.use (array_con _ _ _ _ ?h1z9 ?h2z9) _ _ _ _ _ _ _ _ _ _ _ _ _ _ _ _ _ _ _ _ _ _ _ _ ?Bz9 ?Fz9 ?Xz9 ?Nz9 ?Uz9 ?Cz9 ?Tz9 ?ckz9 ?hdz9 ?huz9 ?_; (case Bz9 => k_asm); (case Fz9 => k_asm); (case Xz9 => k_asm); (case Nz9 => k_asm); (case Uz9 => k_upd); (case Cz9 => assumption); (case Tz9 => k_asm); (case h1z9 => omega); (case h2z9 => omega); (case ckz9 => first | rfl | assumption); (case hdz9 => omega); (case huz9 => omega); k_whole); intro r'9 nx'9 h'9 tk'9 cs'9 n'9 F'9 N'9 C'9 ne'9 P'9; skip; (have nr'9 := Apart.mk ne'9); (replace N'9 := news_swap N'9); (try simp only [List.cons_append, List.nil_append] at N'9); clear ne'9; (try k_sweep))
  k_with "m call ref" => (k_here; (with_reducible show wpAny _ _ (call (Value.ref 204) [_, _]) _ _ _); k_dflt (refine' ConM.use (order_con _ _ _ _ ?h1z9 ?h2z9) _ _ _ _ _ _ _ _ _ _ _ _ _ _ _ _ _ _ _ _ _ _ _ _ ?Bz9 ?Fz9 ?Xz9 ?Nz9 ?Uz9 ?Cz9 ?Tz9 ?ckz9 ?hdz9 ?huz9 ?_; (case Bz9 => k_asm); (case Fz9 => k_asm); (case Xz9 => k_asm); (case Nz9 => k_asm); (case Uz9 => k_upd); (case Cz9 => assumption); (case Tz9 => k_asm); (case h1z9 => omega); (case h2z9 => omega); (case ckz9 => first | rfl | assumption); (case hdz9 => omega); (case huz9 => omega); k_whole); intro r'9 nx'9 h'9 tk'9 cs'9 n'9 F'9 N'9 C'9 ne'9 P'9; obtain ⟨l'9, nn'9, vs'9, fs'9, hr'9, hn'9, hi'9, hp'9⟩ := P'9; subst hr'9; subst hn'9; (have nr'9 := Apart.mk ne'9); (replace N'9 := news_swap N'9); (try simp only [List.cons_append, List.nil_append] at N'9); clear ne'9; (try k_sweep))
  k_with "m call ref" => (k_here; (with_reducible show wpAny _ _ (call (Value.ref 214) [_]) _ _ _); k_dflt (refine' seen_law _ _ _ _ _ _ ?pfz9 _ _ _ _ _ _ _ _ _ _ _ _ _ _ _ _ _ _ _ _ _ _ ?Bz9 ?Fz9 ?Xz9 ?Nz9 ?Tz9 ?ckz9 ?hdz9 ?huz9 ?hpz9 ?_; (case Bz9 => k_asm); (case Fz9 => k_asm); (case Xz9 => k_asm); (case Nz9 => k_asm); (case Tz9 => k_asm); (case hpz9 => (refine' AR.mono ?hsz9 ?xxz9; (case xxz9 => assumption); (case hsz9 => exact (fun a9 o9 h9 => News.get (by k_asm) (by simp only [List.mem_cons, List.mem_append, h9, true_or, or_true]))))); (case pfz9 => assumption); (case ckz9 => first | rfl | assumption); (case hdz9 => omega); (case huz9 => omega); k_whole); intro r'9 nx'9 h'9 tk'9 F'9 N'9 ne'9 P'9; obtain ⟨t'9, hS'9⟩ := P'9; (have hS0'9 := hS'9); obtain ⟨x'9, l1'9, n1'9, l2'9, n2'9, nv'9, hr'9, hm1'9, hm2'9, hm3'9, hm4'9⟩ := hS0'9; subst hr'9; (have nr'9 := Apart.mk ne'9); (replace N'9 := news_swap N'9); (try simp only [List.cons_append, List.nil_append] at N'9); clear ne'9; (try k_sweep))
  k_with "m call ref" => (k_here; (with_reducible show wpAny _ _ (call (Value.ref 183) [_, _]) _ _ _); k_dflt (refine' aperm_law _ _ _ _ _ _ _ _ _ ?pfz9 ?hp0z9 ?hp1z9 _ _ _ _ _ _ _ _ _ _ _ _ _ _ _ _ _ _ _ _ _ _ ?Bz9 ?Fz9 ?Xz9 ?Nz9 ?Tz9 ?ckz9 ?hdz9 ?huz9 ?hpz9 ?_; (case Bz9 => k_asm); (case Fz9 => k_asm); (case Xz9 => k_asm); (case Nz9 => k_asm); (case Tz9 => k_asm); (case hpz9 => refine' ⟨AR.mono ?hsz9 ?xxz9, ?llz9⟩; (case llz9 => is_list); (case xxz9 => assumption); (case hsz9 => exact (fun a9 o9 h9 => News.get (by k_asm) (by simp only [List.mem_cons, List.mem_append, h9, true_or, or_true])))); (case pfz9 => assumption); (case hp0z9 => first | assumption | exact ints10); (case hp1z9 => assumption); (case ckz9 => first | rfl | assumption); (case hdz9 => omega); (case huz9 => omega); k_whole); intro r'9 nx'9 h'9 tk'9 F'9 N'9 ne'9 P'9; skip; (have nr'9 := Apart.mk ne'9); (replace N'9 := news_swap N'9); (try simp only [List.cons_append, List.nil_append] at N'9); clear ne'9; (try k_sweep))
  k_with "m call ref" => (k_here; (with_reducible show wpAny _ _ (call (Value.ref 183) [_, _]) _ _ _); k_dflt (refine' aperm_lawN _ _ _ _ _ _ ?pfz9 _ _ _ _ _ _ _ _ _ _ _ _ _ _ _ _ _ _ _ _ _ _ ?Bz9 ?Fz9 ?Xz9 ?Nz9 ?Tz9 ?ckz9 ?hdz9 ?huz9 ?hpz9 ?_; (case Bz9 => k_asm); (case Fz9 => k_asm); (case Xz9 => k_asm); (case Nz9 => k_asm); (case Tz9 => k_asm); (case hpz9 => (refine' AR.mono ?hsz9 ?xxz9; (case xxz9 => assumption); (case hsz9 => exact (fun a9 o9 h9 => News.get (by k_asm) (by simp only [List.mem_cons, List.mem_append, h9, true_or, or_true]))))); (case pfz9 => assumption); (case ckz9 => first | rfl | assumption); (case hdz9 => omega); (case huz9 => omega); k_whole); intro r'9 nx'9 h'9 tk'9 F'9 N'9 ne'9 P'9; skip; (have nr'9 := Apart.mk ne'9); (replace N'9 := news_swap N'9); (try simp only [List.cons_append, List.nil_append] at N'9); clear ne'9; (try k_sweep))
  k_with "m call ref" => (k_here; (with_reducible show wpAny _ _ (call (Value.ref 164) [_]) _ _ _); k_dflt (refine' trans_law _ _ _ _ _ _ ?pfz9 ?h2z9 _ _ _ _ _ _ _ _ _ _ _ _ _ _ _ _ _ _ _ _ _ _ ?Bz9 ?Fz9 ?Xz9 ?Nz9 ?Tz9 ?ckz9 ?hdz9 ?huz9 ?hpz9 ?_; (case Bz9 => k_asm); (case Fz9 => k_asm); (case Xz9 => k_asm); (case Nz9 => k_asm); (case Tz9 => k_asm); (case hpz9 => (refine' AR.mono ?hsz9 ?xxz9; (case xxz9 => assumption); (case hsz9 => exact (fun a9 o9 h9 => News.get (by k_asm) (by simp only [List.mem_cons, List.mem_append, h9, true_or, or_true]))))); (case pfz9 => assumption); (case h2z9 => first | assumption | rfl); (case ckz9 => first | rfl | assumption); (case hdz9 => omega); (case huz9 => omega); k_whole); intro r'9 nx'9 h'9 tk'9 F'9 N'9 ne'9 P'9; skip; (have nr'9 := Apart.mk ne'9); (replace N'9 := news_swap N'9); (try simp only [List.cons_append, List.nil_append] at N'9); clear ne'9; (try k_sweep))
  k_with "m subscriptTail" => (k_here; (with_reducible show wpAny _ _ (subscriptTail _ _ (Value.ref _) (Value.str _ _)) _ _ _); k_dflt (refine' kb_itemN ?Nz9 ?mz9 ?dz9 ?lz9 ?_; (case Nz9 => k_asm); (case mz9 => k_mem); (case dz9 => assumption); (case lz9 => first | assumption | rfl); k_whole))
  k_with "m compareOp NotEq ref ref" => (k_here; (with_reducible show wpAny _ _ (compareOp CmpOp.NotEq (Value.ref _) (Value.ref _)) _ _ _); k_dflt (refine' lst_ne ?hAz9 ?hBz9 ?Pz9 ?uz9 ?_; (case hAz9 => is_list); (case hBz9 => is_list); (case Pz9 => assumption); (case uz9 => ke_room); k_whole))
  k_with "m compareOp NotEq ref ref" => (k_here; (with_reducible show wpAny _ _ (compareOp CmpOp.NotEq (Value.ref _) (Value.ref _)) _ _ _); k_dflt (refine' seen_ne ?Pz9 ?hAz9 ?hBz9 ?ez9 ?uz9 ?_; (case hAz9 => (refine' SeenIs.mono ?hsz9 ?xxz9; (case xxz9 => assumption); (case hsz9 => exact (fun a9 o9 h9 => News.get (by k_asm) (by simp only [List.mem_cons, List.mem_append, h9, true_or, or_true]))))); (case hBz9 => (refine' SeenIs.mono ?hsz9 ?xxz9; (case xxz9 => assumption); (case hsz9 => exact (fun a9 o9 h9 => News.get (by k_asm) (by simp only [List.mem_cons, List.mem_append, h9, true_or, or_true]))))); (case Pz9 => assumption); (case ez9 => first | assumption | exact ⟨rfl, rfl, rfl⟩); (case uz9 => ke_room); k_whole))
  k_with "m compareOp Eq ref ref" => (k_here; (with_reducible show wpAny _ _ (compareOp CmpOp.Eq (Value.ref _) (Value.ref _)) _ _ _); k_dflt (refine' seen_eq ?Pz9 ?hAz9 ?hBz9 ?ez9 ?uz9 ?_; (case hAz9 => (refine' SeenIs.mono ?hsz9 ?xxz9; (case xxz9 => assumption); (case hsz9 => exact (fun a9 o9 h9 => News.get (by k_asm) (by simp only [List.mem_cons, List.mem_append, h9, true_or, or_true]))))); (case hBz9 => (refine' SeenIs.mono ?hsz9 ?xxz9; (case xxz9 => assumption); (case hsz9 => exact (fun a9 o9 h9 => News.get (by k_asm) (by simp only [List.mem_cons, List.mem_append, h9, true_or, or_true]))))); (case Pz9 => assumption); (case ez9 => first | assumption | exact ⟨rfl, rfl, rfl⟩); (case uz9 => ke_room); k_whole))
  k_with "m k_all" => first | assumption | exact apart_all (by assumption) (by k_mem) | exact off_app (by k_all) (by k_all)
  k_with "m k_mem" => first | with_reducible assumption | with_reducible exact List.mem_cons_self | (with_reducible refine List.mem_cons_of_mem _ ?_; k_mem) | (with_reducible refine List.mem_append_left _ ?_; k_mem) | (with_reducible refine List.mem_append_right _ ?_; k_mem)
  k_with "m execs cons" => (k_here; with_reducible refine Halt.out ?_)
  k_with "m compareOp NotEq ref ref" => (k_here; (with_reducible show wpAny _ _ (compareOp CmpOp.NotEq (Value.ref _) (Value.ref _)) _ _ _); refine Halt.out ?_)
  trivial
set_option maxHeartbeats 4000000 in
theorem law_w3 {w : World} {name qual : Str} {params : Arguments} {body : List Stmt} {scope : Scope} {dV kV doc pm cdv ct oc : Value} {an od : Option Addr} {osl : Array (Option Value)}
    (ho : (hd.heap_39 w.params).lookup 219 = some ⟨oc, od, .func (fnOf name qual params body scope dV kV doc pm an cdv ct), osl⟩)
    (loose : List Str) (mean : ExcName → Option Value) (mg mb : Str → Option Value) (dp un : Nat) (gd : Option (List Code)) (outer : List Env) (A₀ : Around) (base H : Heap) (L' fa : Addr) (cdv' : Value) (s : Shared) (oF oH : Obj) (c lf lg hx l : Addr) (cs : List Value) (n nf ng : Nat) (K : List (Addr × Obj)) (fv gv : List Value) (fs gs : List Int) (v spun : Value) (is ds : List Value) (nm : Option (List (Option (List Value)))) (es : List Int) (th tw : Tok) (Q : Flow → Shared → Prop)
    (B : Below A₀ base outer H) (X : (hd.heap_39 w.params).In H) (T : Top hd.view_39 loose mean mg mb H) (hd' : dp + 40 < recursionLimit) (hu : un + 400 < cLine) (F : Fr H L' s.heap (fun y => List.lookup y [(Str.ofString "spun", spun), (Str.ofString "second", .ref lg), (Str.ofString "v", v), (Str.ofString "wide", .int (es.length : Int) tw), (Str.ofString "cards", .ref c), (Str.ofString "script", .ref l)]))
    (N : News H L' s.heap ((L' + 1 + 1, oF) :: (L' + 1, oH) :: (c, W.listOf cs.toArray n) :: K)) (k1 : ∀ p ∈ K, p.1 ≠ L' + 1 + 1) (k2 : ∀ p ∈ K, p.1 ≠ L' + 1) (k3 : ∀ p ∈ K, p.1 ≠ c) (ca : c ≠ L' + 1 + 1) (cb : c ≠ L' + 1) (hcs : Cards cs) (dF : oF.data = .cell (some (.ref lf))) (dH : oH.data = .cell (some (.ref hx)))
    (hPv : PF is ds nm es) (hAv : AR w (lAt K) v is ds nm) (hheld : SeenIs (lAt K) (.ref hx) (Str.ofString "integer") th is ds nm)
    (hfm : (lf, W.listOf fv.toArray nf) ∈ K) (hgm : (lg, W.listOf gv.toArray ng) ∈ K) (hif : Hold (IntsAre fv fs)) (hig : Hold (IntsAre gv gs)) (hpf : fs.Perm (rangeL es.length)) (hpg : gs.Perm (rangeL es.length))
    (hAs : AR w (lAt K) spun (apI es fs is) (pick ds .none fs) (apN fs nm))
    (hret : ∀ h' tk' m', Fr H L' h' m' → Q (.ret (.bool true)) { s with heap := h', toks := tk' }) :
    wpAny (model PySem.Challenge.rw_pq1314_01.row.prog w) (ktrTop dp un gd qual scope L' fa cdv' (cellsFrom (L' + 1) scope.names []) outer) (execs (body.drop 8) (envX qual scope L' fa cdv' (cellsFrom (L' + 1) scope.names []))) Q (fun _ _ => False) s := by

  have ho0 := ho
  cases ho
  have hVv := hPv.pvs
  have h3 := hPv.hf.1
  have hPs := hPv.turn hpf
  obtain ⟨hz1, hz2⟩ := order_sz hif hpf hPv.hf.1
  have hfl := hif.out.length
  obtain ⟨hx', l1, n1, l2, n2, nv, he, hh1, hh2, hh3, hh4⟩ := id hheld
  cases he
  dsimp only [lAt] at hh1 hh2 hh3
  refine wpAny_execs_cons ?_
  cases nm with
  | none =>
    obtain rfl : nv = .none := hh4
    k_steps
    (rename Fr _ _ _ _ => F2); (rename News _ _ _ _ => N2)
    refine ⟨?_⟩
    exact law_w4 ho0 loose mean mg mb dp un gd outer A₀ base H L' fa cdv' _ oF oH c lf lg hx l cs n nf ng K fv gv fs gs v spun is ds none es th tw Q B X T hd' hu F2 N2 k1 k2 k3 ca cb hcs dF dH hPv hAv hheld hfm hgm hif hig hpf hpg hAs (fun h' tk' m' F => hret h' tk' m' F)
  | some nss =>
    obtain ⟨rows, ⟨lr, nr, rfl, hr1⟩, hr2⟩ := hh4
    dsimp only [lAt] at hr1
    have hrl : rows.length = es.length := by rw [hr2.len]; exact hPv.hn.1
    k_steps
    (rename Fr _ _ _ _ => F2); (rename News _ _ _ _ => N2); (rename SeenNm _ _ (apN fs _) => hsn)
    obtain ⟨rows', ⟨lr', nr', rfl, hr3⟩, hr4⟩ := hsn
    dsimp only [lAt] at hr3
    refine ⟨?_⟩
    obtain ⟨nw0, hnw0, N2⟩ : ∃ nw0, nw0 = _ ∧ News H L' _ nw0 := ⟨_, rfl, N2⟩
    refine LCg.CompSrc.ledger rfl F2 N2 (k := nf) (by rw [hnw0]; exact .tail _ (.tail _ (.tail _ (List.mem_append.mpr (.inl hfm))))) hz1 ?_
    intro g'
    rw [List.size_toArray]
    refine rest_ind fv.length (fun i ys news => Hold (news = nw0 ∧ ys = pick rows .none (fs.take i))) ?_ ?_ fv.length 0 [] _ (by omega) ⟨rfl, rfl⟩
    · rintro i zs news v9 I oI C oC E m₂ h tk E' hi ⟨rfl, rfl⟩ hP hC hx F' N' o ne
      have hv : fv[i]? = some v9 := by simpa using hP
      obtain ⟨k9, t', rfl, hn⟩ := hif.out.at i v9 hv
      have hk := perm_in hpf rfl k9 (List.mem_of_getElem? hn)
      have e1 := take_snoc hn
      have hg : rows[k9.toNat]? = some (rows.getD k9.toNat .none) := getD_some (by omega)
      subst hnw0
      clear F2 N2
      have o0 := o
      simp only [LCg.Off3] at o
      k_steps
      first
      | exact ⟨rfl, by rw [e1, pick_snoc]⟩
      | exact LCg.CompEnd.intro F' N' _ (fun _ h => h) o0 (.inr ⟨_, .tail _ (.tail _ (.tail _ (List.mem_append.mpr (.inl hfm)))), rfl, _, rfl⟩) ⟨rfl, by rw [e1, pick_snoc]⟩
    · rintro zs news ⟨rfl, rfl⟩
      intro D3 h tk F' N' o3'
      subst hnw0
      clear F2 N2
      rw [List.take_of_length_le (by omega)] at N'
      simp only [LCg.Off1] at o3'
      k_steps
      refine ⟨?_⟩
      (rename Fr _ _ _ _ => F2); (rename News _ _ _ _ => N2)
      refine rows_ne (rs := rows') (rs' := pick rows .none fs) (ns := pick nss none fs) (lst_of (N2.get (.tail _ (.tail _ (.tail _ (.tail _ (List.mem_append.mpr (.inr hr3)))))))) (lst_of (n := (pick rows .none fs).length) (N2.get (.head _)))
        (hr4.mono fun a o h => N2.get (.tail _ (.tail _ (.tail _ (.tail _ (List.mem_append.mpr (.inr h))))))) ((hr2.pick (perm_in hpf hPv.hn.1)).mono fun a o h => N2.get (.tail _ (.tail _ (.tail _ (.tail _ (List.mem_append.mpr (.inl h))))))) hPs.pvs.n (show un + 64 < cLine by omega) ?_
      k_steps
      (rename Fr _ _ _ _ => F2); (rename News _ _ _ _ => N2)
      refine ⟨?_⟩
      exact law_w4 ho0 loose mean mg mb dp un gd outer A₀ base H L' fa cdv' _ oF oH c lf lg hx l cs n nf ng K fv gv fs gs v spun is ds (some nss) es th tw Q B X T hd' hu F2 (news_sub N2 sub_w3) k1 k2 k3 ca cb hcs dF dH hPv hAv hheld hfm hgm hif hig hpf hpg hAs (fun h' tk' m' F => hret h' tk' m' F)
end Mine
end
section
open PySem PySem.W PySem.Calls PySem.Spec PyProof.Rows
theorem Mine.devW2 : (PySem.Challenge.rw_pq1314_01.foot = 6) → Mine.hd.heap_39 = Mine.hd.heap_39 := by
  k_fill
  intro _; rfl
namespace Mine
theorem regW2_1 : True := by
  k_with_none
  k_with "m k_ne" => (refine neN ?_; (try dsimp only); first
    | with_reducible assumption
    | exact Ne.symm (by with_reducible assumption)
    | ((repeat (rename _ ∧ _ => q8z9; rcases q8z9 with ⟨_, _⟩)); first
      | with_reducible assumption
      | exact Ne.symm (by with_reducible assumption)
      | exact Nat.ne_of_gt (by with_reducible assumption)
      | exact Nat.ne_of_lt (by with_reducible assumption)))
  k_with "m k_all" => assumption
  k_with "m k_handed" => assumption
  k_with "m k_ne" => (refine neN ?_; (try dsimp only); first | with_reducible assumption | exact Ne.symm (by with_reducible assumption) | ((rename Apart _ _ => q9); first
  | (refine' apart_l q9 ?kaz9 ?kbz9; (case kaz9 => ((repeat (first | with_reducible exact List.mem_cons_self | with_reducible refine List.mem_cons_of_mem _ ?_)); done)); (case kbz9 => ((repeat (first | with_reducible exact List.mem_cons_self | with_reducible refine List.mem_cons_of_mem _ ?_)); done)))
  | (refine' apart_r q9 ?kaz9 ?kbz9; (case kaz9 => ((repeat (first | with_reducible exact List.mem_cons_self | with_reducible refine List.mem_cons_of_mem _ ?_)); done)); (case kbz9 => ((repeat (first | with_reducible exact List.mem_cons_self | with_reducible refine List.mem_cons_of_mem _ ?_)); done)))
  | (clear q9; k_ne)))
  k_with "m k_inst" => (refine' kb_inst ?Fz9 ?h1z9 ?h2z9; (case Fz9 => k_asm); (case h1z9 => assumption); (case h2z9 => assumption))
  k_with "m subscriptTail" => (k_here; (with_reducible show wpAny _ _ (subscriptTail _ _ (Value.ref _) (Value.str _ _)) _ _ _); k_dflt (refine' kb_item ?Fz9 ?oz9 ?dz9 ?lz9 ?_; (case Fz9 => k_asm); (case oz9 => assumption); (case dz9 => assumption); (case lz9 => first | assumption | rfl); k_whole))
  k_with "m compareOp In str ref" => (k_here; k_dflt (refine' kb_in ?Fz9 ?oz9 ?dz9 ?sz9 ?lz9 ?_; (case Fz9 => k_asm); (case oz9 => assumption); (case dz9 => assumption); (case sz9 => assumption); (case lz9 => first | assumption | rfl); k_whole))
  k_with "m compareOp NotIn str ref" => (k_here; k_dflt (refine' kb_notIn ?Fz9 ?oz9 ?dz9 ?sz9 ?lz9 ?_; (case Fz9 => k_asm); (case oz9 => assumption); (case dz9 => assumption); (case sz9 => assumption); (case lz9 => first | assumption | rfl); k_whole))
  k_with "m subscriptTail" => (k_here; (with_reducible show wpAny _ _ (subscriptTail _ _ (Value.ref _) (Value.int _ _)) _ _ _); k_dflt (refine' kb_lst ?lz9 ?az9 ?bz9 ?xz9 ?_; (case lz9 => is_list); (case xz9 => first | with_reducible assumption | assumption); (case az9 => omega); (case bz9 => omega); k_whole))
  k_with "m call builtin:len" => (k_here; (with_reducible show wpAny _ _ (call (Value.builtin "len") [Value.ref _]) _ _ _); k_dflt (refine' kb_len ?lz9 ?zz9 ?_; (case lz9 => is_list); (case zz9 => first | assumption | omega); k_whole))
  k_with "m k_all" => exact apart_all (by assumption) (by k_mem)
  k_with "m mul_fits" => first | exact PySem.IntMulOk.of_right (PySem.intBits_le_64 (by omega) (by omega)) | exact PySem.IntMulOk.of_left (PySem.intBits_le_64 (by omega) (by omega))
  k_with "m call type:range" => (k_here; (with_reducible show wpAny _ _ (call (Value.type _) [Value.int _ _]) _ _ _); k_dflt (refine' range1_rows ?Fz9 ?Nz9 ?_; (case Fz9 => k_asm); (case Nz9 => k_asm)); intro h'9 tk'9 t1'9 t2'9 t3'9 rg'9 F'9 N'9 rk'9; clear rk'9; (try k_sweep))
  k_with "m compareOp NotIn int ref" => (k_here; k_dflt (refine' ints_in ?lz9 ?iz9 ?mz9 ?_; (case lz9 => is_list); (case iz9 => exact Hold.out (by assumption)); (case mz9 => exact AllIn.out (by assumption) _ (by omega) (by omega)); k_whole))
  k_with "m is_list" => first | with_reducible assumption | exact News.isList (by k_asm) (by k_mem) | exact Fr.lst (by assumption) (by assumption)
  k_with "m loadName" => (k_here; k_dflt (refine' kb_ldn ?Fz9 ?vz9 ?_ ?az9 ?bz9; (case Fz9 => k_asm); (case az9 => rfl); (case bz9 => rfl); (case vz9 => rfl); k_whole))
  k_with "m pyIter ref" => (k_here; (with_reducible show wpAny _ _ (pyIter (Value.ref _)) (fun it s₂ => LoopAtV _ _ _ _ _ _ _ _ _ it s₂) _ _); refine Halt.out ?_)
  k_with "m CompSrc" => (refine Halt.out ?_)
  k_with "m CompSrcT" => (refine Halt.out ?_)
  k_with "m binaryOp Mod int int" => (k_here; refine mod_int' (by omega) ?_)
  k_with "m binaryOp FloorDiv int int" => (k_here; refine floordiv_int (by omega) ?_ (Or.inl (PyProof.noPylong_small (by omega))))
  k_with "m k_upd" => first | (refine' Spl.head ?az9; (case az9 => k_all)) | (refine' Spl.tail ?az9 ?bz9; (case az9 => k_ne); (case bz9 => k_upd))
  k_with "m subscriptTail Name Name ref int" => (k_here; (with_reducible show wpAny _ _ (subscriptTail _ _ (Value.ref _) (Value.int _ _)) _ _ _); k_dflt (refine' kb_lst ?lz9 ?az9 ?bz9 ?xz9 ?_; (case lz9 => is_list); (case xz9 => first | with_reducible assumption | assumption); (case az9 => omega); (case bz9 => omega); k_whole))
  k_with "m subscriptTail Name Subscript ref int" => (k_here; (with_reducible show wpAny _ _ (subscriptTail _ _ (Value.ref _) (Value.int _ _)) _ _ _); k_dflt (refine' kb_lst ?lz9 ?az9 ?bz9 ?xz9 ?_; (case lz9 => is_list); (case xz9 => first | with_reducible assumption | assumption); (case az9 => omega); (case bz9 => omega); k_whole))
  k_with "m subscriptTail Attribute Name Name ref int" => (k_here; (with_reducible show wpAny _ _ (subscriptTail _ _ (Value.ref _) (Value.int _ _)) _ _ _); k_dflt (refine' kb_lst ?lz9 ?az9 ?bz9 ?xz9 ?_; (case lz9 => is_list); (case xz9 => first | with_reducible assumption | assumption); (case az9 => omega); (case bz9 => omega); k_whole))
  k_with "m subscriptTail Name Constant ref int" => (k_here; (with_reducible show wpAny _ _ (subscriptTail _ _ (Value.ref _) (Value.int _ _)) _ _ _); k_dflt (refine' kb_lst ?lz9 ?az9 ?bz9 ?xz9 ?_; (case lz9 => is_list); (case xz9 => first | with_reducible assumption | assumption); (case az9 => omega); (case bz9 => omega); k_whole))
  k_with "m subscriptTail Attribute Name BinOp ref int" => (k_here; (with_reducible show wpAny _ _ (subscriptTail _ _ (Value.ref _) (Value.int _ _)) _ _ _); k_dflt (refine' kb_lst ?lz9 ?az9 ?bz9 ?xz9 ?_; (case lz9 => is_list); (case xz9 => first | with_reducible assumption | assumption); (case az9 => omega); (case bz9 => omega); k_whole))
  k_with "m subscriptTail Attribute Subscript Name ref int" => (k_here; (with_reducible show wpAny _ _ (subscriptTail _ _ (Value.ref _) (Value.int _ _)) _ _ _); k_dflt (refine' kb_lst ?lz9 ?az9 ?bz9 ?xz9 ?_; (case lz9 => is_list); (case xz9 => first | with_reducible assumption | assumption); (case az9 => omega); (case bz9 => omega); k_whole))
  k_with "m eval ListComp" => (k_here; first
  | (lct_look; k_dflt (refine LCt.ListComp_T (F₀ := by k_asm) (by with_unfolding_all rfl) (by decide) (by rfl) (by decide) (by rfl) ?_))
  | ((first | lcg_look | lcf_look); k_dflt (refine LCg.ListComp_U (F₀ := by k_asm) (by with_unfolding_all rfl) (by decide) (by rfl) (by decide) (by rfl) ?_)))
  k_with "m exec Assign cons ListComp" => (k_here; first
  | (lct_look; k_dflt (refine LCt.Assign_ListComp_T (F₀ := by k_asm) (by rfl) (by with_unfolding_all rfl) (by with_unfolding_all rfl) (by decide) (by rfl) (by decide) (by rfl) (by rfl) (by rfl) ?_))
  | ((first | lcg_look | lcf_look); k_dflt (refine LCg.Assign_ListComp_U (F₀ := by k_asm) (by rfl) (by with_unfolding_all rfl) (by with_unfolding_all rfl) (by decide) (by rfl) (by decide) (by rfl) (by rfl) (by rfl) ?_)))
  k_with "m call ref" => (k_here; (with_reducible show wpAny _ _ (call (Value.ref 197) [_, _]) _ _ _); k_dflt (refine' ConM.use (card_con _ _ _ _ ?h1z9 ?h2z9) _ _ _ _ _ _ _ _ _ _ _ _ _ _ _ _ _ _ _ _ _ _ _ _ ?Bz9 ?Fz9 ?Xz9 ?Nz9 ?Uz9 ?Cz9 ?Tz9 ?ckz9 ?hdz9 ?huz9 ?_; (case Bz9 => k_asm); (case Fz9 => k_asm); (case Xz9 => k_asm); (case Nz9 => k_asm); (case Uz9 => k_upd); (case Cz9 => assumption); (case Tz9 => k_asm); (case h1z9 => omega); (case h2z9 => omega); (case ckz9 => first | rfl | assumption); (case hdz9 => omega); (case huz9 => omega); k_whole); intro r'9 nx'9 h'9 tk'9 cs'9 n'9 F'9 N'9 C'9 ne'9 P'9; obtain ⟨hn'9, j'9, u'9, hr'9, hj1'9, hj2'9⟩ := P'9; subst hr'9; subst hn'9; (have nr'9 := Apart.mk ne'9); (replace N'9 := news_swap N'9); (try simp only [List.cons_append, List.nil_append] at N'9); clear ne'9; (try k_sweep))
  k_with "m call ref" => (k_here; (with_reducible show wpAny _ _ (call (Value.ref 190) [_]) _ _ _); k_dflt (refine' cards_con _ _ _ _ ?hiz9 ?hzz9 _ _ _ _ _ _ _ _ _ _ _ _ _ _ _ _ _ _ _ _ _ _ ?Bz9 ?Fz9 ?Xz9 ?Nz9 ?Tz9 ?ckz9 ?hdz9 ?huz9 ?hpz9 ?_; (case Bz9 => k_asm); (case Fz9 => k_asm); (case Xz9 => k_asm); (case Nz9 => k_asm); (case Tz9 => k_asm); (case hpz9 => is_list); (case hiz9 => assumption); (case hzz9 => assumption); (case ckz9 => first | rfl | assumption); (case hdz9 => omega); (case huz9 => omega); k_whole); intro r'9 nx'9 h'9 tk'9 F'9 N'9 ne'9 P'9; obtain ⟨lc'9, cs'9, n'9, hr'9, hn'9, C'9⟩ := P'9; subst hr'9; subst hn'9; (have nr'9 := Apart.mk ne'9); (replace N'9 := news_swap N'9); (try simp only [List.cons_append, List.nil_append] at N'9); clear ne'9; (try k_sweep))
  k_with "m call ref" => (k_here; (with_reducible show wpAny _ _ (call (Value.ref 209) [_, _]) _ _ _); k_dflt (refine' ConM.use (array_con _ _ _ _ ?h1z9 ?h2z9) _ _ _ _ _ _ _ _ _ _ _ _ _ _ _ _ _ _ _ _ _ _ _ _ ?Bz9 ?Fz9 ?Xz9 ?Nz9 ?Uz9 ?Cz9 ?Tz9 ?ckz9 ?hdz9 ?huz9 ?_; (case Bz9 => k_asm); (case Fz9 => k_asm); (case Xz9 => k_asm); (case Nz9 => k_asm); (case Uz9 => k_upd); (case Cz9 => assumption); (case Tz9 => k_asm); (case h1z9 => omega); (case h2z9 => omega); (case ckz9 => first | rfl | assumption); (case hdz9 => omega); (case huz9 => omega); k_whole); intro r'9 nx'9 h'9 tk'9 cs'9 n'9 F'9 N'9 C'9 ne'9 P'9; skip; (have nr'9 := Apart.mk ne'9); (replace N'9 := news_swap N'9); (try simp only [List.cons_append, List.nil_append] at N'9); clear ne'9; (try k_sweep))
  k_with "m call ref" => (k_here; (with_reducible show wpAny _ _ (call (Value.ref 204) [_, _]) _ _ _); k_dflt (refine' ConM.use (order_con _ _ _ _ ?h1z9 ?h2z9) _ _ _ _ _ _ _ _ _ _ _ _ _ _ _ _ _ _ _ _ _ _ _ _ ?Bz9 ?Fz9 ?Xz9 ?Nz9 ?Uz9 ?Cz9 ?Tz9 ?ckz9 ?hdz9 ?huz9 ?_; (case Bz9 => k_asm); (case Fz9 => k_asm); (case Xz9 => k_asm); (case Nz9 => k_asm); (case Uz9 => k_upd); (case Cz9 => assumption); (case Tz9 => k_asm); (case h1z9 => omega); (case h2z9 => omega); (case ckz9 => first | rfl | assumption); (case hdz9 => omega); (case huz9 => omega); k_whole); intro r'9 nx'9 h'9 tk'9 cs'9 n'9 F'9 N'9 C'9 ne'9 P'9; obtain ⟨l'9, nn'9, vs'9, fs'9, hr'9, hn'9, hi'9, hp'9⟩ := P'9; subst hr'9; subst hn'9; (have nr'9 := Apart.mk ne'9); (replace N'9 := news_swap N'9); (try simp only [List.cons_append, List.nil_append] at N'9); clear ne'9; (try k_sweep))
  k_with "m call ref" => (k_here; (with_reducible show wpAny _ _ (call (Value.ref 214) [_]) _ _ _); k_dflt (refine' seen_law _ _ _ _ _ _ ?pfz9 _ _ _ _ _ _ _ _ _ _ _ _ _ _ _ _ _ _ _ _ _ _ ?Bz9 ?Fz9 ?Xz9 ?Nz9 ?Tz9 ?ckz9 ?hdz9 ?huz9 ?hpz9 ?_; (case Bz9 => k_asm); (case Fz9 => k_asm); (case Xz9 => k_asm); (case Nz9 => k_asm); (case Tz9 => k_asm); (case hpz9 => (refine' AR.mono ?hsz9 ?xxz9; (case xxz9 => assumption); (case hsz9 => exact (fun a9 o9 h9 => News.get (by k_asm) (by simp only [List.mem_cons, List.mem_append, h9, true_or, or_true]))))); (case pfz9 => assumption); (case ckz9 => first | rfl | assumption); (case hdz9 => omega); (case huz9 => omega); k_whole); intro r'9 nx'9 h'9 tk'9 F'9 N'9 ne'9 P'9; obtain ⟨t'9, hS'9⟩ := P'9; (have hS0'9 := hS'9); obtain ⟨x'9, l1'9, n1'9, l2'9, n2'9, nv'9, hr'9, hm1'9, hm2'9, hm3'9, hm4'9⟩ := hS0'9; subst hr'9; (have nr'9 := Apart.mk ne'9); (replace N'9 := news_swap N'9); (try simp only [List.cons_append, List.nil_append] at N'9); clear ne'9; (try k_sweep))
  k_with "m call ref" => (k_here; (with_reducible show wpAny _ _ (call (Value.ref 183) [_, _]) _ _ _); k_dflt (refine' aperm_law _ _ _ _ _ _ _ _ _ ?pfz9 ?hp0z9 ?hp1z9 _ _ _ _ _ _ _ _ _ _ _ _ _ _ _ _ _ _ _ _ _ _ ?Bz9 ?Fz9 ?Xz9 ?Nz9 ?Tz9 ?ckz9 ?hdz9 ?huz9 ?hpz9 ?_; (case Bz9 => k_asm); (case Fz9 => k_asm); (case Xz9 => k_asm); (case Nz9 => k_asm); (case Tz9 => k_asm); (case hpz9 => refine' ⟨AR.mono ?hsz9 ?xxz9, ?llz9⟩; (case llz9 => is_list); (case xxz9 => assumption); (case hsz9 => exact (fun a9 o9 h9 => News.get (by k_asm) (by simp only [List.mem_cons, List.mem_append, h9, true_or, or_true])))); (case pfz9 => assumption); (case hp0z9 => first | assumption | exact ints10); (case hp1z9 => assumption); (case ckz9 => first | rfl | assumption); (case hdz9 => omega); (case huz9 => omega); k_whole); intro r'9 nx'9 h'9 tk'9 F'9 N'9 ne'9 P'9; skip; (have nr'9 := Apart.mk ne'9); (replace N'9 := news_swap N'9); (try simp only [List.cons_append, List.nil_append] at N'9); clear ne'9; (try k_sweep))
  k_with "m call ref" => (k_here; (with_reducible show wpAny _ _ (call (Value.ref 183) [_, _]) _ _ _); k_dflt (refine' aperm_lawN _ _ _ _ _ _ ?pfz9 _ _ _ _ _ _ _ _ _ _ _ _ _ _ _ _ _ _ _ _ _ _ ?Bz9 ?Fz9 ?Xz9 ?Nz9 ?Tz9 ?ckz9 ?hdz9 ?huz9 ?hpz9 ?_; (case Bz9 => k_asm); (case Fz9 => k_asm); (case Xz9 => k_asm); (case Nz9 => k_asm); (case Tz9 => k_asm); (case hpz9 => (refine' AR.mono ?hsz9 ?xxz9; (case xxz9 => assumption); (case hsz9 => exact (fun a9 o9 h9 => News.get (by k_asm) (by simp only [List.mem_cons, List.mem_append, h9, true_or, or_true]))))); (case pfz9 => assumption); (case ckz9 => first | rfl | assumption); (case hdz9 => omega); (case huz9 => omega); k_whole); intro r'9 nx'9 h'9 tk'9 F'9 N'9 ne'9 P'9; skip; (have nr'9 := Apart.mk ne'9); (replace N'9 := news_swap N'9); (try simp only [List.cons_append, List.nil_append] at N'9); clear ne'9; (try k_sweep))
  k_with "m call ref" => (k_here; (with_reducible show wpAny _ _ (call (Value.ref 164) [_]) _ _ _); k_dflt (refine' trans_law _ _ _ _ _ _ ?pfz9 ?h2z9 _ _ _ _ _ _ _ _ _ _ _ _ _ _ _ _ _ _ _ _ _ _ ?Bz9 ?Fz9 ?Xz9 ?Nz9 ?Tz9 ?ckz9 ?hdz9 ?huz9 ?hpz9 ?_; (case Bz9 => k_asm); (case Fz9 => k_asm); (case Xz9 => k_asm); (case Nz9 => k_asm); (case Tz9 => k_asm); (case hpz9 => (refine' AR.mono ?hsz9 ?xxz9; (case xxz9 => assumption); (case hsz9 => exact (fun a9 o9 h9 => News.get (by k_asm) (by simp only [List.mem_cons, List.mem_append, h9, true_or, or_true]))))); (case pfz9 => assumption); (case h2z9 => first | assumption | rfl); (case ckz9 => first | rfl | assumption); (case hdz9 => omega); (case huz9 => omega); k_whole); intro r'9 nx'9 h'9 tk'9 F'9 N'9 ne'9 P'9; skip; (have nr'9 := Apart.mk ne'9); (replace N'9 := news_swap N'9); (try simp only [List.cons_append, List.nil_append] at N'9); clear ne'9; (try k_sweep))
  k_with "m subscriptTail" => (k_here; (with_reducible show wpAny _ _ (subscriptTail _ _ (Value.ref _) (Value.str _ _)) _ _ _); k_dflt (refine' kb_itemN ?Nz9 ?mz9 ?dz9 ?lz9 ?_; (case Nz9 => k_asm); (case mz9 => k_mem); (case dz9 => assumption); (case lz9 => first | assumption | rfl); k_whole))
  k_with "m compareOp NotEq ref ref" => (k_here; (with_reducible show wpAny _ _ (compareOp CmpOp.NotEq (Value.ref _) (Value.ref _)) _ _ _); k_dflt (refine' lst_ne ?hAz9 ?hBz9 ?Pz9 ?uz9 ?_; (case hAz9 => is_list); (case hBz9 => is_list); (case Pz9 => assumption); (case uz9 => ke_room); k_whole))
  k_with "m compareOp NotEq ref ref" => (k_here; (with_reducible show wpAny _ _ (compareOp CmpOp.NotEq (Value.ref _) (Value.ref _)) _ _ _); k_dflt (refine' seen_ne ?Pz9 ?hAz9 ?hBz9 ?ez9 ?uz9 ?_; (case hAz9 => (refine' SeenIs.mono ?hsz9 ?xxz9; (case xxz9 => assumption); (case hsz9 => exact (fun a9 o9 h9 => News.get (by k_asm) (by simp only [List.mem_cons, List.mem_append, h9, true_or, or_true]))))); (case hBz9 => (refine' SeenIs.mono ?hsz9 ?xxz9; (case xxz9 => assumption); (case hsz9 => exact (fun a9 o9 h9 => News.get (by k_asm) (by simp only [List.mem_cons, List.mem_append, h9, true_or, or_true]))))); (case Pz9 => assumption); (case ez9 => first | assumption | exact ⟨rfl, rfl, rfl⟩); (case uz9 => ke_room); k_whole))
  k_with "m compareOp Eq ref ref" => (k_here; (with_reducible show wpAny _ _ (compareOp CmpOp.Eq (Value.ref _) (Value.ref _)) _ _ _); k_dflt (refine' seen_eq ?Pz9 ?hAz9 ?hBz9 ?ez9 ?uz9 ?_; (case hAz9 => (refine' SeenIs.mono ?hsz9 ?xxz9; (case xxz9 => assumption); (case hsz9 => exact (fun a9 o9 h9 => News.get (by k_asm) (by simp only [List.mem_cons, List.mem_append, h9, true_or, or_true]))))); (case hBz9 => (refine' SeenIs.mono ?hsz9 ?xxz9; (case xxz9 => assumption); (case hsz9 => exact (fun a9 o9 h9 => News.get (by k_asm) (by simp only [List.mem_cons, List.mem_append, h9, true_or, or_true]))))); (case Pz9 => assumption); (case ez9 => first | assumption | exact ⟨rfl, rfl, rfl⟩); (case uz9 => ke_room); k_whole))
  k_with "m k_all" => first | assumption | exact apart_all (by assumption) (by k_mem) | exact off_app (by k_all) (by k_all)
  k_with "m k_mem" => first | with_reducible assumption | with_reducible exact List.mem_cons_self | (with_reducible refine List.mem_cons_of_mem _ ?_; k_mem) | (with_reducible refine List.mem_append_left _ ?_; k_mem) | (with_reducible refine List.mem_append_right _ ?_; k_mem)
  k_with "m execs cons" => (k_here; with_reducible refine Halt.out ?_)
  trivial
set_option maxHeartbeats 4000000 in
theorem law_w2 {w : World} {name qual : Str} {params : Arguments} {body : List Stmt} {scope : Scope} {dV kV doc pm cdv ct oc : Value} {an od : Option Addr} {osl : Array (Option Value)}
    (ho : (hd.heap_39 w.params).lookup 219 = some ⟨oc, od, .func (fnOf name qual params body scope dV kV doc pm an cdv ct), osl⟩)
    (loose : List Str) (mean : ExcName → Option Value) (mg mb : Str → Option Value) (dp un : Nat) (gd : Option (List Code)) (outer : List Env) (A₀ : Around) (base H : Heap) (L' fa : Addr) (cdv' : Value) (s : Shared) (oF oH : Obj) (c lf lg hx l : Addr) (cs : List Value) (n nf ng : Nat) (K : List (Addr × Obj)) (fv gv : List Value) (fs gs : List Int) (v spun : Value) (is ds : List Value) (nm : Option (List (Option (List Value)))) (es : List Int) (th tw : Tok) (Q : Flow → Shared → Prop)
    (B : Below A₀ base outer H) (X : (hd.heap_39 w.params).In H) (T : Top hd.view_39 loose mean mg mb H) (hd' : dp + 40 < recursionLimit) (hu : un + 400 < cLine) (F : Fr H L' s.heap (fun y => List.lookup y [(Str.ofString "spun", spun), (Str.ofString "second", .ref lg), (Str.ofString "v", v), (Str.ofString "wide", .int (es.length : Int) tw), (Str.ofString "cards", .ref c), (Str.ofString "script", .ref l)]))
    (N : News H L' s.heap ((L' + 1 + 1, oF) :: (L' + 1, oH) :: (c, W.listOf cs.toArray n) :: K)) (k1 : ∀ p ∈ K, p.1 ≠ L' + 1 + 1) (k2 : ∀ p ∈ K, p.1 ≠ L' + 1) (k3 : ∀ p ∈ K, p.1 ≠ c) (ca : c ≠ L' + 1 + 1) (cb : c ≠ L' + 1) (hcs : Cards cs) (dF : oF.data = .cell (some (.ref lf))) (dH : oH.data = .cell (some (.ref hx)))
    (hPv : PF is ds nm es) (hAv : AR w (lAt K) v is ds nm) (hheld : SeenIs (lAt K) (.ref hx) (Str.ofString "integer") th is ds nm)
    (hfm : (lf, W.listOf fv.toArray nf) ∈ K) (hgm : (lg, W.listOf gv.toArray ng) ∈ K) (hif : Hold (IntsAre fv fs)) (hig : Hold (IntsAre gv gs)) (hpf : fs.Perm (rangeL es.length)) (hpg : gs.Perm (rangeL es.length))
    (hAs : AR w (lAt K) spun (apI es fs is) (pick ds .none fs) (apN fs nm))
    (hret : ∀ h' tk' m', Fr H L' h' m' → Q (.ret (.bool true)) { s with heap := h', toks := tk' }) :
    wpAny (model PySem.Challenge.rw_pq1314_01.row.prog w) (ktrTop dp un gd qual scope L' fa cdv' (cellsFrom (L' + 1) scope.names []) outer) (execs (body.drop 7) (envX qual scope L' fa cdv' (cellsFrom (L' + 1) scope.names []))) Q (fun _ _ => False) s := by

  have ho0 := ho
  cases ho
  have hVv := hPv.pvs
  have h3 := hPv.hf.1
  have hPs := hPv.turn hpf
  have hie := ints_pick hPv.hd.out (perm_in hpf rfl)
  have hpv := pv_ints hie
  obtain ⟨hz1, hz2⟩ := order_sz hif hpf hPv.hf.1
  have hdl := hPv.dlen
  obtain ⟨ivs, dls, hArr⟩ := id hAs
  obtain ⟨ts, avs, dvs, ts2, kvs, rs, a1, a2, a3, a4, a5, a6, a7, a8, a9⟩ := hArr.open
  clear hArr a2 a7 a8 a9
  obtain ⟨xs, dxs, u1, u2, u3, u4, u5, rfl, q1, q2⟩ := a1
  obtain ⟨ad, oo, rfl, q3, q4, q5⟩ := a3
  obtain ⟨ys, dys, w1, w2, w3, w4, w5, rfl, q6, q7⟩ := a5
  obtain ⟨ld, nld, rfl, q8⟩ := a6
  dsimp only [lAt] at q1 q2 q3 q6 q7 q8
  obtain ⟨hx', l1, n1, l2, n2, nv, he, hh1, hh2, hh3, hh4⟩ := id hheld
  cases he
  dsimp only [lAt] at hh1 hh2 hh3
  refine wpAny_execs_cons ?_
  k_steps
  refine ⟨?_⟩
  obtain ⟨nw0, hnw0, N⟩ : ∃ nw0, nw0 = _ ∧ News H L' _ nw0 := ⟨_, rfl, N⟩
  refine LCg.CompSrc.ledger rfl F N (k := nf) (by rw [hnw0]; exact .tail _ (.tail _ (.tail _ hfm))) hz1 ?_
  intro g'
  rw [List.size_toArray]
  have hfl := hif.out.length
  refine rest_ind fv.length (fun i ys news => Hold (news = nw0 ∧ ys = pick ds .none (fs.take i))) ?_ ?_ fv.length 0 [] _ (by omega) ⟨rfl, rfl⟩
  · rintro i zs news v9 I oI C oC E m₂ h tk E' hi ⟨rfl, rfl⟩ hP hC hx F' N' o ne
    have hv : fv[i]? = some v9 := by simpa using hP
    obtain ⟨k9, t', rfl, hn⟩ := hif.out.at i v9 hv
    have hk := perm_in hpf rfl k9 (List.mem_of_getElem? hn)
    have e1 := take_snoc hn
    have hg : ds[k9.toNat]? = some (ds.getD k9.toNat .none) := getD_some (by omega)
    subst hnw0
    clear F N
    have o0 := o
    simp only [LCg.Off3] at o
    k_steps
    first
    | exact ⟨rfl, by rw [e1, pick_snoc]⟩
    | exact LCg.CompEnd.intro F' N' _ (fun _ h => h) o0 (.inr ⟨_, .tail _ (.tail _ (.tail _ hfm)), rfl, _, rfl⟩) ⟨rfl, by rw [e1, pick_snoc]⟩
  · rintro zs news ⟨rfl, rfl⟩
    intro D3 h tk F' N' o3'
    subst hnw0
    clear F N
    rw [List.take_of_length_le (by omega)] at N'
    simp only [LCg.Off1] at o3'
    k_steps
    (rename Fr _ _ _ _ => F2); (rename News _ _ _ _ => N2)
    refine ⟨?_⟩
    exact law_w3 ho0 loose mean mg mb dp un gd outer A₀ base H L' fa cdv' _ oF oH c lf lg hx l cs n nf ng K fv gv fs gs v (.ref xs) is ds nm es th tw Q B X T hd' hu F2 (news_tail N2) k1 k2 k3 ca cb hcs dF dH hPv hAv hheld hfm hgm hif hig hpf hpg hAs (fun h' tk' m' F => hret h' tk' m' F)
end Mine
end
section
open PySem PySem.W PySem.Calls PySem.Spec PyProof.Rows
theorem Mine.devL1 : (PySem.Challenge.rw_pq1314_01.foot = 6) → Mine.hd.heap_39 = Mine.hd.heap_39 := by
  k_fill
  intro _; rfl
namespace Mine
theorem regL1_1 : True := by
  k_with_none
  k_with "m k_ne" => (refine neN ?_; (try dsimp only); first
    | with_reducible assumption
    | exact Ne.symm (by with_reducible assumption)
    | ((repeat (rename _ ∧ _ => q8z9; rcases q8z9 with ⟨_, _⟩)); first
      | with_reducible assumption
      | exact Ne.symm (by with_reducible assumption)
      | exact Nat.ne_of_gt (by with_reducible assumption)
      | exact Nat.ne_of_lt (by with_reducible assumption)))
  k_with "m k_all" => assumption
  k_with "m k_handed" => assumption
  k_with "m k_ne" => (refine neN ?_; (try dsimp only); first | with_reducible assumption | exact Ne.symm (by with_reducible assumption) | ((rename Apart _ _ => q9); first
  | (refine' apart_l q9 ?kaz9 ?kbz9; (case kaz9 => ((repeat (first | with_reducible exact List.mem_cons_self | with_reducible refine List.mem_cons_of_mem _ ?_)); done)); (case kbz9 => ((repeat (first | with_reducible exact List.mem_cons_self | with_reducible refine List.mem_cons_of_mem _ ?_)); done)))
  | (refine' apart_r q9 ?kaz9 ?kbz9; (case kaz9 => ((repeat (first | with_reducible exact List.mem_cons_self | with_reducible refine List.mem_cons_of_mem _ ?_)); done)); (case kbz9 => ((repeat (first | with_reducible exact List.mem_cons_self | with_reducible refine List.mem_cons_of_mem _ ?_)); done)))
  | (clear q9; k_ne)))
  k_with "m k_inst" => (refine' kb_inst ?Fz9 ?h1z9 ?h2z9; (case Fz9 => k_asm); (case h1z9 => assumption); (case h2z9 => assumption))
  k_with "m subscriptTail" => (k_here; (with_reducible show wpAny _ _ (subscriptTail _ _ (Value.ref _) (Value.str _ _)) _ _ _); k_dflt (refine' kb_item ?Fz9 ?oz9 ?dz9 ?lz9 ?_; (case Fz9 => k_asm); (case oz9 => assumption); (case dz9 => assumption); (case lz9 => first | assumption | rfl); k_whole))
  k_with "m compareOp In str ref" => (k_here; k_dflt (refine' kb_in ?Fz9 ?oz9 ?dz9 ?sz9 ?lz9 ?_; (case Fz9 => k_asm); (case oz9 => assumption); (case dz9 => assumption); (case sz9 => assumption); (case lz9 => first | assumption | rfl); k_whole))
  k_with "m compareOp NotIn str ref" => (k_here; k_dflt (refine' kb_notIn ?Fz9 ?oz9 ?dz9 ?sz9 ?lz9 ?_; (case Fz9 => k_asm); (case oz9 => assumption); (case dz9 => assumption); (case sz9 => assumption); (case lz9 => first | assumption | rfl); k_whole))
  k_with "m subscriptTail" => (k_here; (with_reducible show wpAny _ _ (subscriptTail _ _ (Value.ref _) (Value.int _ _)) _ _ _); k_dflt (refine' kb_lst ?lz9 ?az9 ?bz9 ?xz9 ?_; (case lz9 => is_list); (case xz9 => first | with_reducible assumption | assumption); (case az9 => omega); (case bz9 => omega); k_whole))
  k_with "m call builtin:len" => (k_here; (with_reducible show wpAny _ _ (call (Value.builtin "len") [Value.ref _]) _ _ _); k_dflt (refine' kb_len ?lz9 ?zz9 ?_; (case lz9 => is_list); (case zz9 => first | assumption | omega); k_whole))
  k_with "m k_all" => exact apart_all (by assumption) (by k_mem)
  k_with "m mul_fits" => first | exact PySem.IntMulOk.of_right (PySem.intBits_le_64 (by omega) (by omega)) | exact PySem.IntMulOk.of_left (PySem.intBits_le_64 (by omega) (by omega))
  k_with "m call type:range" => (k_here; (with_reducible show wpAny _ _ (call (Value.type _) [Value.int _ _]) _ _ _); k_dflt (refine' range1_rows ?Fz9 ?Nz9 ?_; (case Fz9 => k_asm); (case Nz9 => k_asm)); intro h'9 tk'9 t1'9 t2'9 t3'9 rg'9 F'9 N'9 rk'9; clear rk'9; (try k_sweep))
  k_with "m compareOp NotIn int ref" => (k_here; k_dflt (refine' ints_in ?lz9 ?iz9 ?mz9 ?_; (case lz9 => is_list); (case iz9 => exact Hold.out (by assumption)); (case mz9 => exact AllIn.out (by assumption) _ (by omega) (by omega)); k_whole))
  k_with "m is_list" => first | with_reducible assumption | exact News.isList (by k_asm) (by k_mem) | exact Fr.lst (by assumption) (by assumption)
  k_with "m loadName" => (k_here; k_dflt (refine' kb_ldn ?Fz9 ?vz9 ?_ ?az9 ?bz9; (case Fz9 => k_asm); (case az9 => rfl); (case bz9 => rfl); (case vz9 => rfl); k_whole))
  k_with "m pyIter ref" => (k_here; (with_reducible show wpAny _ _ (pyIter (Value.ref _)) (fun it s₂ => LoopAtV _ _ _ _ _ _ _ _ _ it s₂) _ _); refine Halt.out ?_)
  k_with "m CompSrc" => (refine Halt.out ?_)
  k_with "m CompSrcT" => (refine Halt.out ?_)
  k_with "m binaryOp Mod int int" => (k_here; refine mod_int' (by omega) ?_)
  k_with "m binaryOp FloorDiv int int" => (k_here; refine floordiv_int (by omega) ?_ (Or.inl (PyProof.noPylong_small (by omega))))
  k_with "m k_upd" => first | (refine' Spl.head ?az9; (case az9 => k_all)) | (refine' Spl.tail ?az9 ?bz9; (case az9 => k_ne); (case bz9 => k_upd))
  k_with "m subscriptTail Name Name ref int" => (k_here; (with_reducible show wpAny _ _ (subscriptTail _ _ (Value.ref _) (Value.int _ _)) _ _ _); k_dflt (refine' kb_lst ?lz9 ?az9 ?bz9 ?xz9 ?_; (case lz9 => is_list); (case xz9 => first | with_reducible assumption | assumption); (case az9 => omega); (case bz9 => omega); k_whole))
  k_with "m subscriptTail Name Subscript ref int" => (k_here; (with_reducible show wpAny _ _ (subscriptTail _ _ (Value.ref _) (Value.int _ _)) _ _ _); k_dflt (refine' kb_lst ?lz9 ?az9 ?bz9 ?xz9 ?_; (case lz9 => is_list); (case xz9 => first | with_reducible assumption | assumption); (case az9 => omega); (case bz9 => omega); k_whole))
  k_with "m subscriptTail Attribute Name Name ref int" => (k_here; (with_reducible show wpAny _ _ (subscriptTail _ _ (Value.ref _) (Value.int _ _)) _ _ _); k_dflt (refine' kb_lst ?lz9 ?az9 ?bz9 ?xz9 ?_; (case lz9 => is_list); (case xz9 => first | with_reducible assumption | assumption); (case az9 => omega); (case bz9 => omega); k_whole))
  k_with "m subscriptTail Name Constant ref int" => (k_here; (with_reducible show wpAny _ _ (subscriptTail _ _ (Value.ref _) (Value.int _ _)) _ _ _); k_dflt (refine' kb_lst ?lz9 ?az9 ?bz9 ?xz9 ?_; (case lz9 => is_list); (case xz9 => first | with_reducible assumption | assumption); (case az9 => omega); (case bz9 => omega); k_whole))
  k_with "m subscriptTail Attribute Name BinOp ref int" => (k_here; (with_reducible show wpAny _ _ (subscriptTail _ _ (Value.ref _) (Value.int _ _)) _ _ _); k_dflt (refine' kb_lst ?lz9 ?az9 ?bz9 ?xz9 ?_; (case lz9 => is_list); (case xz9 => first | with_reducible assumption | assumption); (case az9 => omega); (case bz9 => omega); k_whole))
  k_with "m subscriptTail Attribute Subscript Name ref int" => (k_here; (with_reducible show wpAny _ _ (subscriptTail _ _ (Value.ref _) (Value.int _ _)) _ _ _); k_dflt (refine' kb_lst ?lz9 ?az9 ?bz9 ?xz9 ?_; (case lz9 => is_list); (case xz9 => first | with_reducible assumption | assumption); (case az9 => omega); (case bz9 => omega); k_whole))
  k_with "m eval ListComp" => (k_here; first
  | (lct_look; k_dflt (refine LCt.ListComp_T (F₀ := by k_asm) (by with_unfolding_all rfl) (by decide) (by rfl) (by decide) (by rfl) ?_))
  | ((first | lcg_look | lcf_look); k_dflt (refine LCg.ListComp_U (F₀ := by k_asm) (by with_unfolding_all rfl) (by decide) (by rfl) (by decide) (by rfl) ?_)))
  k_with "m exec Assign cons ListComp" => (k_here; first
  | (lct_look; k_dflt (refine LCt.Assign_ListComp_T (F₀ := by k_asm) (by rfl) (by with_unfolding_all rfl) (by with_unfolding_all rfl) (by decide) (by rfl) (by decide) (by rfl) (by rfl) (by rfl) ?_))
  | ((first | lcg_look | lcf_look); k_dflt (refine LCg.Assign_ListComp_U (F₀ := by k_asm) (by rfl) (by with_unfolding_all rfl) (by with_unfolding_all rfl) (by decide) (by rfl) (by decide) (by rfl) (by rfl) (by rfl) ?_)))
  k_with "m call ref" => (k_here; (with_reducible show wpAny _ _ (call (Value.ref 197) [_, _]) _ _ _); k_dflt (refine' ConM.use (card_con _ _ _ _ ?h1z9 ?h2z9) _ _ _ _ _ _ _ _ _ _ _ _ _ _ _ _ _ _ _ _ _ _ _ _ ?Bz9 ?Fz9 ?Xz9 ?Nz9 ?Uz9 ?Cz9 ?Tz9 ?ckz9 ?hdz9 ?huz9 ?_; (case Bz9 => k_asm); (case Fz9 => k_asm); (case Xz9 => k_asm); (case Nz9 => k_asm); (case Uz9 => k_upd); (case Cz9 => assumption); (case Tz9 => k_asm); (case h1z9 => omega); (case h2z9 => omega); (case ckz9 => first | rfl | assumption); (case hdz9 => omega); (case huz9 => omega); k_whole); intro r'9 nx'9 h'9 tk'9 cs'9 n'9 F'9 N'9 C'9 ne'9 P'9; obtain ⟨hn'9, j'9, u'9, hr'9, hj1'9, hj2'9⟩ := P'9; subst hr'9; subst hn'9; (have nr'9 := Apart.mk ne'9); (replace N'9 := news_swap N'9); (try simp only [List.cons_append, List.nil_append] at N'9); clear ne'9; (try k_sweep))
  k_with "m call ref" => (k_here; (with_reducible show wpAny _ _ (call (Value.ref 190) [_]) _ _ _); k_dflt (refine' cards_con _ _ _ _ ?hiz9 ?hzz9 _ _ _ _ _ _ _ _ _ _ _ _ _ _ _ _ _ _ _ _ _ _ ?Bz9 ?Fz9 ?Xz9 ?Nz9 ?Tz9 ?ckz9 ?hdz9 ?huz9 ?hpz9 ?_; (case Bz9 => k_asm); (case Fz9 => k_asm); (case Xz9 => k_asm); (case Nz9 => k_asm); (case Tz9 => k_asm); (case hpz9 => is_list); (case hiz9 => assumption); (case hzz9 => assumption); (case ckz9 => first | rfl | assumption); (case hdz9 => omega); (case huz9 => omega); k_whole); intro r'9 nx'9 h'9 tk'9 F'9 N'9 ne'9 P'9; obtain ⟨lc'9, cs'9, n'9, hr'9, hn'9, C'9⟩ := P'9; subst hr'9; subst hn'9; (have nr'9 := Apart.mk ne'9); (replace N'9 := news_swap N'9); (try simp only [List.cons_append, List.nil_append] at N'9); clear ne'9; (try k_sweep))
  k_with "m call ref" => (k_here; (with_reducible show wpAny _ _ (call (Value.ref 209) [_, _]) _ _ _); k_dflt (refine' ConM.use (array_con _ _ _ _ ?h1z9 ?h2z9) _ _ _ _ _ _ _ _ _ _ _ _ _ _ _ _ _ _ _ _ _ _ _ _ ?Bz9 ?Fz9 ?Xz9 ?Nz9 ?Uz9 ?Cz9 ?Tz9 ?ckz9 ?hdz9 ?huz9 ?_; (case Bz9 => k_asm); (case Fz9 => k_asm); (case Xz9 => k_asm); (case Nz9 => k_asm); (case Uz9 => k_upd); (case Cz9 => assumption); (case Tz9 => k_asm); (case h1z9 => omega); (case h2z9 => omega); (case ckz9 => first | rfl | assumption); (case hdz9 => omega); (case huz9 => omega); k_whole); intro r'9 nx'9 h'9 tk'9 cs'9 n'9 F'9 N'9 C'9 ne'9 P'9; skip; (have nr'9 := Apart.mk ne'9); (replace N'9 := news_swap N'9); (try simp only [List.cons_append, List.nil_append] at N'9); clear ne'9; (try k_sweep))
  k_with "m call ref" => (k_here; (with_reducible show wpAny _ _ (call (Value.ref 204) [_, _]) _ _ _); k_dflt (refine' ConM.use (order_con _ _ _ _ ?h1z9 ?h2z9) _ _ _ _ _ _ _ _ _ _ _ _ _ _ _ _ _ _ _ _ _ _ _ _ ?Bz9 ?Fz9 ?Xz9 ?Nz9 ?Uz9 ?Cz9 ?Tz9 ?ckz9 ?hdz9 ?huz9 ?_; (case Bz9 => k_asm); (case Fz9 => k_asm); (case Xz9 => k_asm); (case Nz9 => k_asm); (case Uz9 => k_upd); (case Cz9 => assumption); (case Tz9 => k_asm); (case h1z9 => omega); (case h2z9 => omega); (case ckz9 => first | rfl | assumption); (case hdz9 => omega); (case huz9 => omega); k_whole); intro r'9 nx'9 h'9 tk'9 cs'9 n'9 F'9 N'9 C'9 ne'9 P'9; obtain ⟨l'9, nn'9, vs'9, fs'9, hr'9, hn'9, hi'9, hp'9⟩ := P'9; subst hr'9; subst hn'9; (have nr'9 := Apart.mk ne'9); (replace N'9 := news_swap N'9); (try simp only [List.cons_append, List.nil_append] at N'9); clear ne'9; (try k_sweep))
  k_with "m call ref" => (k_here; (with_reducible show wpAny _ _ (call (Value.ref 214) [_]) _ _ _); k_dflt (refine' seen_law _ _ _ _ _ _ ?pfz9 _ _ _ _ _ _ _ _ _ _ _ _ _ _ _ _ _ _ _ _ _ _ ?Bz9 ?Fz9 ?Xz9 ?Nz9 ?Tz9 ?ckz9 ?hdz9 ?huz9 ?hpz9 ?_; (case Bz9 => k_asm); (case Fz9 => k_asm); (case Xz9 => k_asm); (case Nz9 => k_asm); (case Tz9 => k_asm); (case hpz9 => (refine' AR.mono ?hsz9 ?xxz9; (case xxz9 => assumption); (case hsz9 => exact (fun a9 o9 h9 => News.get (by k_asm) (by simp only [List.mem_cons, List.mem_append, h9, true_or, or_true]))))); (case pfz9 => assumption); (case ckz9 => first | rfl | assumption); (case hdz9 => omega); (case huz9 => omega); k_whole); intro r'9 nx'9 h'9 tk'9 F'9 N'9 ne'9 P'9; obtain ⟨t'9, hS'9⟩ := P'9; (have hS0'9 := hS'9); obtain ⟨x'9, l1'9, n1'9, l2'9, n2'9, nv'9, hr'9, hm1'9, hm2'9, hm3'9, hm4'9⟩ := hS0'9; subst hr'9; (have nr'9 := Apart.mk ne'9); (replace N'9 := news_swap N'9); (try simp only [List.cons_append, List.nil_append] at N'9); clear ne'9; (try k_sweep))
  k_with "m call ref" => (k_here; (with_reducible show wpAny _ _ (call (Value.ref 183) [_, _]) _ _ _); k_dflt (refine' aperm_law _ _ _ _ _ _ _ _ _ ?pfz9 ?hp0z9 ?hp1z9 _ _ _ _ _ _ _ _ _ _ _ _ _ _ _ _ _ _ _ _ _ _ ?Bz9 ?Fz9 ?Xz9 ?Nz9 ?Tz9 ?ckz9 ?hdz9 ?huz9 ?hpz9 ?_; (case Bz9 => k_asm); (case Fz9 => k_asm); (case Xz9 => k_asm); (case Nz9 => k_asm); (case Tz9 => k_asm); (case hpz9 => refine' ⟨AR.mono ?hsz9 ?xxz9, ?llz9⟩; (case llz9 => is_list); (case xxz9 => assumption); (case hsz9 => exact (fun a9 o9 h9 => News.get (by k_asm) (by simp only [List.mem_cons, List.mem_append, h9, true_or, or_true])))); (case pfz9 => assumption); (case hp0z9 => first | assumption | exact ints10); (case hp1z9 => assumption); (case ckz9 => first | rfl | assumption); (case hdz9 => omega); (case huz9 => omega); k_whole); intro r'9 nx'9 h'9 tk'9 F'9 N'9 ne'9 P'9; skip; (have nr'9 := Apart.mk ne'9); (replace N'9 := news_swap N'9); (try simp only [List.cons_append, List.nil_append] at N'9); clear ne'9; (try k_sweep))
  k_with "m call ref" => (k_here; (with_reducible show wpAny _ _ (call (Value.ref 183) [_, _]) _ _ _); k_dflt (refine' aperm_lawN _ _ _ _ _ _ ?pfz9 _ _ _ _ _ _ _ _ _ _ _ _ _ _ _ _ _ _ _ _ _ _ ?Bz9 ?Fz9 ?Xz9 ?Nz9 ?Tz9 ?ckz9 ?hdz9 ?huz9 ?hpz9 ?_; (case Bz9 => k_asm); (case Fz9 => k_asm); (case Xz9 => k_asm); (case Nz9 => k_asm); (case Tz9 => k_asm); (case hpz9 => (refine' AR.mono ?hsz9 ?xxz9; (case xxz9 => assumption); (case hsz9 => exact (fun a9 o9 h9 => News.get (by k_asm) (by simp only [List.mem_cons, List.mem_append, h9, true_or, or_true]))))); (case pfz9 => assumption); (case ckz9 => first | rfl | assumption); (case hdz9 => omega); (case huz9 => omega); k_whole); intro r'9 nx'9 h'9 tk'9 F'9 N'9 ne'9 P'9; skip; (have nr'9 := Apart.mk ne'9); (replace N'9 := news_swap N'9); (try simp only [List.cons_append, List.nil_append] at N'9); clear ne'9; (try k_sweep))
  k_with "m call ref" => (k_here; (with_reducible show wpAny _ _ (call (Value.ref 164) [_]) _ _ _); k_dflt (refine' trans_law _ _ _ _ _ _ ?pfz9 ?h2z9 _ _ _ _ _ _ _ _ _ _ _ _ _ _ _ _ _ _ _ _ _ _ ?Bz9 ?Fz9 ?Xz9 ?Nz9 ?Tz9 ?ckz9 ?hdz9 ?huz9 ?hpz9 ?_; (case Bz9 => k_asm); (case Fz9 => k_asm); (case Xz9 => k_asm); (case Nz9 => k_asm); (case Tz9 => k_asm); (case hpz9 => (refine' AR.mono ?hsz9 ?xxz9; (case xxz9 => assumption); (case hsz9 => exact (fun a9 o9 h9 => News.get (by k_asm) (by simp only [List.mem_cons, List.mem_append, h9, true_or, or_true]))))); (case pfz9 => assumption); (case h2z9 => first | assumption | rfl); (case ckz9 => first | rfl | assumption); (case hdz9 => omega); (case huz9 => omega); k_whole); intro r'9 nx'9 h'9 tk'9 F'9 N'9 ne'9 P'9; skip; (have nr'9 := Apart.mk ne'9); (replace N'9 := news_swap N'9); (try simp only [List.cons_append, List.nil_append] at N'9); clear ne'9; (try k_sweep))
  k_with "m compareOp NotEq ref ref" => (k_here; (with_reducible show wpAny _ _ (compareOp CmpOp.NotEq (Value.ref _) (Value.ref _)) _ _ _); k_dflt (refine' seen_ne ?Pz9 ?hAz9 ?hBz9 ?ez9 ?uz9 ?_; (case hAz9 => (refine' SeenIs.mono ?hsz9 ?xxz9; (case xxz9 => assumption); (case hsz9 => exact (fun a9 o9 h9 => News.get (by k_asm) (by simp only [List.mem_cons, List.mem_append, h9, true_or, or_true]))))); (case hBz9 => (refine' SeenIs.mono ?hsz9 ?xxz9; (case xxz9 => assumption); (case hsz9 => exact (fun a9 o9 h9 => News.get (by k_asm) (by simp only [List.mem_cons, List.mem_append, h9, true_or, or_true]))))); (case Pz9 => assumption); (case ez9 => first | assumption | exact ⟨rfl, rfl, rfl⟩); (case uz9 => ke_room); k_whole))
  k_with "m compareOp Eq ref ref" => (k_here; (with_reducible show wpAny _ _ (compareOp CmpOp.Eq (Value.ref _) (Value.ref _)) _ _ _); k_dflt (refine' seen_eq ?Pz9 ?hAz9 ?hBz9 ?ez9 ?uz9 ?_; (case hAz9 => (refine' SeenIs.mono ?hsz9 ?xxz9; (case xxz9 => assumption); (case hsz9 => exact (fun a9 o9 h9 => News.get (by k_asm) (by simp only [List.mem_cons, List.mem_append, h9, true_or, or_true]))))); (case hBz9 => (refine' SeenIs.mono ?hsz9 ?xxz9; (case xxz9 => assumption); (case hsz9 => exact (fun a9 o9 h9 => News.get (by k_asm) (by simp only [List.mem_cons, List.mem_append, h9, true_or, or_true]))))); (case Pz9 => assumption); (case ez9 => first | assumption | exact ⟨rfl, rfl, rfl⟩); (case uz9 => ke_room); k_whole))
  k_with "m k_all" => first | assumption | exact apart_all (by assumption) (by k_mem) | exact off_app (by k_all) (by k_all)
  k_with "m k_mem" => first | with_reducible assumption | with_reducible exact List.mem_cons_self | (with_reducible refine List.mem_cons_of_mem _ ?_; k_mem) | (with_reducible refine List.mem_append_left _ ?_; k_mem) | (with_reducible refine List.mem_append_right _ ?_; k_mem)
  k_with "m execs cons" => (k_here; with_reducible refine Halt.out ?_)
  trivial
set_option maxHeartbeats 4000000 in
theorem law_walk {w : World} {name qual : Str} {params : Arguments} {body : List Stmt} {scope : Scope} {dV kV doc pm cdv ct oc : Value} {an od : Option Addr} {osl : Array (Option Value)}
    (ho : (hd.heap_39 w.params).lookup 219 = some ⟨oc, od, .func (fnOf name qual params body scope dV kV doc pm an cdv ct), osl⟩)
    (loose : List Str) (mean : ExcName → Option Value) (mg mb : Str → Option Value) (dp un : Nat) (gd : Option (List Code)) (outer : List Env) (A₀ : Around) (base H : Heap) (L' fa : Addr) (cdv' : Value) (s : Shared) (o1 o2 : Obj) (l : Addr) (vs : List Value) (ns : List Int) (Q : Flow → Shared → Prop)
    (B : Below A₀ base outer H) (F : Fr H L' s.heap (fun y => List.lookup y [(Str.ofString "script", .ref l)])) (X : (hd.heap_39 w.params).In H) (N : News H L' s.heap [(L' + 1 + 1, o1), (L' + 1, o2)]) (d1 : o1.data = .cell none) (d2 : o2.data = .cell none)
    (T : Top hd.view_39 loose mean mg mb H) (hd' : dp + 40 < recursionLimit) (hu : un + 400 < cLine) (hp : H.IsList l vs.toArray) (hi : Hold (IntsAre vs ns)) (hz : vs.length ≤ 63)
    (hret : ∀ h' tk' m', Fr H L' h' m' → Q (.ret (.bool true)) { s with heap := h', toks := tk' }) :
    wpAny (model PySem.Challenge.rw_pq1314_01.row.prog w) (ktrTop dp un gd qual scope L' fa cdv' (cellsFrom (L' + 1) scope.names []) outer) (execs body (envX qual scope L' fa cdv' (cellsFrom (L' + 1) scope.names []))) Q (fun _ _ => False) s := by
  have ho0 := ho
  cases ho
  refine wpAny_execs_cons ?_
  k_steps
  refine ⟨?_⟩
  refine wpAny_execs_cons ?_
  k_steps
  (rename Fr _ _ _ _ => F2); (rename News _ _ _ _ => N2); (rename 0 ≤ (_ : Int) => hj0); (rename (_ : Int) < 3 => hj1); (rename Apart _ _ => q9; clear q9)
  refine ⟨?_⟩
  obtain ⟨wide, hwide⟩ : ∃ k : Nat, 1 + _ = (k : Int) := ⟨_, (Int.toNat_of_nonneg (Int.le_trans hj0 (Int.le_add_of_nonneg_left (by decide)))).symm⟩
  rw [hwide] at F2
  have hw1 : 1 ≤ wide := by omega
  have hw2 : wide ≤ 3 := by omega
  clear hwide hj0 hj1
  refine wpAny_execs_cons ?_
  k_steps
  (rename Fr _ _ _ _ => F2); (rename News _ _ _ _ => N2); (rename ArrOut _ _ _ _ => hout); (rename Cards _ => hcs); (rename Value => v); (rename Apart [_, _, _] _ => q9)
  refine ⟨?_⟩
  obtain ⟨c, hc, N2⟩ : ∃ c : Addr, c = _ ∧ News H L' _ ((L' + 1 + 1, o1) :: (L' + 1, o2) :: (c, _) :: _) := ⟨_, rfl, N2⟩
  subst hc
  obtain ⟨K, hK, N2⟩ : ∃ K, K = _ ∧ News H L' _ ((L' + 1 + 1, o1) :: (L' + 1, o2) :: (c, _) :: K) := ⟨_, rfl, N2⟩
  subst hK
  have k1 : ∀ p ∈ K, p.1 ≠ L' + 1 + 1 := fun p hp => Ne.symm (q9.out _ (.head _) p hp)
  have k2 : ∀ p ∈ K, p.1 ≠ L' + 1 := fun p hp => Ne.symm (q9.out _ (.tail _ (.head _)) p hp)
  have k3 : ∀ p ∈ K, p.1 ≠ c := fun p hp => Ne.symm (q9.out _ (.tail _ (.tail _ (.head _))) p hp)
  clear q9
  (rename Apart _ _ => q9)
  have ca : c ≠ L' + 1 + 1 := Ne.symm (q9.out _ (.head _) _ (.head _))
  have cb : c ≠ L' + 1 := Ne.symm (q9.out _ (.tail _ (.head _)) _ (.head _))
  clear q9
  obtain ⟨iv, dl, is, ds, nm, es, hA, hds, hf, hel, hprod, hints, hnm⟩ := hout
  have hAv : AR w (lAt K) v is ds nm := ⟨_, _, hA⟩
  have hPv : PF is ds nm es := ⟨hds, hf, by omega, hprod, hints, by rw [hel]; exact hnm⟩
  have hVv := hPv.pvs
  subst hel
  clear hA hds hf hprod hints hnm
  refine wpAny_execs_cons ?_
  k_steps
  (rename Fr _ _ _ _ => F2); (rename News _ _ _ _ => N2)
  refine ⟨?_⟩
  refine wpAny_execs_cons ?_
  k_steps
  (rename Hold (IntsAre _ _) => hif); (rename List.Perm _ _ => hpf); obtain ⟨hzf, hzf2⟩ := order_sz hif hpf hw2; (rename SeenIs _ _ _ _ _ _ _ => hheld)
  refine ⟨?_⟩
  refine wpAny_execs_cons ?_
  k_steps
  (rename Hold (IntsAre _ _) => his); (rename List.Perm _ _ => hps); obtain ⟨hzs, hzs2⟩ := order_sz his hps hw2
  refine ⟨?_⟩
  refine wpAny_execs_cons ?_
  k_steps
  (rename Fr _ _ _ _ => F9); (rename News _ _ _ _ => N9); (rename AR _ (lAt _) _ (apI _ _ _) _ _ => hAs); (rename Cards _ => hcs9); (rename Apart _ _ => q9)
  (rename _ = Data.cell (some _) => dF); revert dF; (rename _ = Data.cell (some _) => dH); intro dF
  simp only [lookup_if] at F9
  obtain ⟨K2, hK2, N9⟩ : ∃ K2, K2 = _ ∧ News H L' _ (_ :: (L' + 1 + 1, _) :: (L' + 1, _) :: (c, _) :: K2) := ⟨_, rfl, N9⟩
  refine ⟨?_⟩
  refine' law_w2 ho0 loose mean mg mb dp un gd outer A₀ base H L' fa cdv' _ _ _ c _ _ _ l _ _ _ _ K2 _ _ _ _ v _ is ds nm es _ _ Q B X T hd' hu F9 (news_tail N9) ?m1 ?m2 ?m3 ca cb hcs9 dF dH hPv (hAv.mono ?s1) (hheld.mono ?s2) ?f1 ?f2 hif his hpf hps (hAs.mono ?s3) (fun h' tk' m' F => hret h' tk' m' F)
  case m1 => subst hK2; first | k_all | fail
  case m2 => subst hK2; first | k_all | fail
  case m3 => subst hK2; first | k_all | fail
  case s1 => subst hK2; exact fun a9 o9 h9 => by dsimp only [lAt] at h9 ⊢; simp only [List.mem_append, h9, true_or, or_true]
  case s2 => subst hK2; exact fun a9 o9 h9 => by dsimp only [lAt] at h9 ⊢; simp only [List.mem_append, h9, true_or, or_true]
  case s3 => subst hK2; exact fun a9 o9 h9 => by dsimp only [lAt] at h9 ⊢; simp only [List.mem_append, h9, true_or, or_true]
  case f1 => subst hK2; first | k_mem | fail
  case f2 => subst hK2; first | k_mem | fail
end Mine
end
theorem Mine.regEnd : True := by
  k_with_none
  trivial
section
open PySem PySem.W PySem.Calls PySem.Spec PyProof.Rows
namespace Mine
theorem fr_one {h₀ h : Heap} {L : Addr} {k : Str} {v : Value} (F : Fr h₀ L h (fun y => if y = k then some v else none)) : Fr h₀ L h (fun y => List.lookup y [(k, v)]) := by
  rw [show (fun y => if y = k then some v else none) = fun y => List.lookup y [(k, v)] from funext fun y => lookup_if y _ _ []] at F
  exact F
set_option maxHeartbeats 4000000 in
theorem law0 : PySem.Challenge.rw_pq1314_01.Holds := top (by
  delta hd
  dsimp only
  k_go0
  (all_goals try k_fold)
  (rename News _ _ _ _ => N); (rename Fr _ _ _ _ => F); (rename Below _ _ _ _ => B); (rename Frag.In _ _ => X); (rename Top _ _ _ _ _ _ => T); (rename IntsAre _ _ => hi); (rename Heap.IsList _ _ _ => hl); (rename _ = Data.cell _ => d2); revert d2; (rename _ = Data.cell _ => d1); intro d2
  have hz := hi.length
  have hr := fr_one (k := Str.ofString "script") F
  refine wpAny_mono (law_walk (by k_is) _ _ _ _ (1 + claimMargin + 1) 7 (some []) [] callerA _ _ _ _ _ _ _ _ _ _ _ _ B hr X N d1 d2 T (by decide) (by decide) hl ⟨hi⟩ (by omega) (fun h' tk' m' F' => ?_)) (fun _ _ x => x) (fun _ _ x => x.elim)
  show GoodW _ _ _ _ _ (.ok (.ret (.bool true))) _
  first
  | wrow_close
  | exact goodW_bool F' (by assumption) (raisesW_false (by wrow_none_raised)) (by rfl)
  | exact goodW_bool F' (by assumption) (fun _ => rfl) (by rfl)
  | exact goodW_bool F' (by assumption) (raisesW_false (by wrow_none_raised)) rfl)
end Mine
end
theorem PySem.Challenge.cw_pq1314_01_holds : PySem.Challenge.rw_pq1314_01.Holds := by
  exact Mine.law0
