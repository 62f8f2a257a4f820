import PyProof.Rows.All
import Wide.All
import OpenK.AllK
import Wide.FinOn
import PySem.Challenge.RW_qd0055_01
set_option Elab.async false
set_option compiler.extract_closed false

section
open PySem PySem.W PyProof.Rows
set_option maxRecDepth 100000
set_option maxHeartbeats 8000000
namespace Mine
/- the head, made small: the written part of the heap comes from the kit (mk.heap_1); the top is run by two checks of the kernel, one a way of the world's one question -/
section
local macro_rules | `(tactic| o_head $H) => `(tactic| (have hk := $H; assumption))
theorem mk : PySem.Challenge.rw_qd0055_01.row.Holds → PySem.Challenge.rw_qd0055_01.row.Holds := fun h => by
  k_head
end
noncomputable def view : Program := { PySem.Challenge.pw_qd0055_01 with main := { PySem.Challenge.pw_qd0055_01.main with body := [0,2,3,4,5,6,7,9,10,11,13,14,15,16,18,19,20,21,22,23,24,25,26,27].filterMap fun i => PySem.Challenge.pw_qd0055_01.main.body[i]? } }
noncomputable def kAddrs : List Addr := [2, 3, 15, 17, 18, 20, 21, 22, 30, 31, 33, 34, 36, 37, 38, 40, 41, 43, 44, 45, 47, 48, 50, 51, 52, 53, 54, 55, 56, 59, 61, 62, 64, 65, 66, 68, 69, 71, 72, 73, 76, 77, 85, 87, 88, 90, 91, 92, 94, 95, 97, 98, 99, 101, 102, 104, 105, 106, 108, 109, 111, 112, 113, 116, 117, 118, 120, 121, 123, 124, 125, 127, 128, 130, 131, 132, 134, 135, 137, 138, 139, 140, 141, 142, 143, 146, 153, 155, 156, 158, 159, 160, 162, 163, 165, 166, 167, 169, 170, 172, 173, 174, 175, 176, 179, 181, 182, 184, 185, 186, 188, 189, 191, 192, 193, 195, 196, 198, 199, 200, 202, 203, 205, 206, 207, 209, 210, 212, 213, 214, 216, 217, 219, 220, 221, 223, 224, 226, 227, 228, 231, 232, 233, 236, 237, 238, 240, 241, 243, 244, 245, 248, 249, 250, 252, 253, 255, 256, 257, 259, 260, 262, 263, 264, 266, 267, 269, 270]
noncomputable abbrev loose : List PySem.Str := [Str.ofString "PLAIN_ESCAPES"]
noncomputable abbrev recs : WRecords := RowW.records (PySem.Challenge.rw_qd0055_01.row.toRowW)
theorem kE (P : Params) : kAddrs = (mk.heap_1 P).map (·.1) := by kernel_rfl
noncomputable def xtG (v : Program) (rs : WRecords) (s : Shared) : Bool := xlAt v [] s && recOk rs s
noncomputable def hlX (p v : Program) (rs : WRecords) (ls : List PySem.Str) (ks : List Addr) (w : World) (b : Bool) := (fencedOpening treeTable p w 3638).map (fun s₀ => (topFrom treeTable p (w.withFollow "special-get-raises" b) 3638 s₀).map fun s => (openSeen v ls (importedModules p.main.body) (xtG v rs) true s, ks.map s.heap.get?))
lay_quick Mine.hlX
theorem hlF (w : World) : PySem.W.Fast.tw17682983930191402802 PySem.Challenge.pw_qd0055_01 view recs loose kAddrs w false = some (some ((openGood view loose, (mk.heap_1 (w.withFollow "special-get-raises" false).params).map fun p => some p.2))) := by kernel_rfl
theorem hlT (w : World) : PySem.W.Fast.tw17682983930191402802 PySem.Challenge.pw_qd0055_01 view recs loose kAddrs w true = some (some ((openGood view loose, (mk.heap_1 (w.withFollow "special-get-raises" true).params).map fun p => some p.2))) := by kernel_rfl
theorem map_both {α β γ : Type} {x : Option α} {f : α → β} {g : α → γ} {u : β} {v : γ} (h : x.map f = some u) (k : x.map g = some v) : x.map (fun s => (f s, g s)) = some (u, v) := by
  cases x with
  | none => cases h
  | some a => cases h; cases k; rfl
theorem hlE (w : World) (b : Bool) : hlX PySem.Challenge.pw_qd0055_01 view recs loose kAddrs w b = PySem.W.Fast.tw17682983930191402802 PySem.Challenge.pw_qd0055_01 view recs loose kAddrs w b := by
  rw [PySem.W.Fast.te17682983930191402802]
theorem hl : LeftO PySem.Challenge.pw_qd0055_01 view loose (xtG view recs) (kHook mk.heap_1 kAddrs kE).obs (kHook mk.heap_1 kAddrs kE).val 3638 :=
  LeftO.of_split "special-get-raises" fun w => map_both ((hlE w false).trans (hlF w)) ((hlE w true).trans (hlT w))
theorem saidF : PySem.W.Fast.tw9446332074065402090 PySem.Challenge.rw_qd0055_01 = true := by kernel_rfl
theorem said : OpenLaw.wellSaid PySem.Challenge.rw_qd0055_01 = true := (congrFun PySem.W.Fast.te9446332074065402090 _).trans saidF
end Mine
end

section
open PySem PySem.W PySem.Calls PySem.Spec PyProof.Rows
local macro_rules | `(tactic| k_room) => `(tactic| ((try simp only [depth_under_make, depth_under_kw, depth_in1, depth_deeper, depth_caller]); (try dsimp only [ktrTop]); omega))
local macro_rules | `(tactic| walk_at "ite") => `(tactic| (k_closed; k_dflt (first | refine ite_pos (by decide +kernel) ?_ | refine ite_neg (by decide +kernel) ?_)))
local macro_rules | `(tactic| k_mem) => `(tactic| (focus ((repeat (first | exact List.Mem.head _ | assumption | refine List.Mem.tail _ ?_)); done)))
set_option hygiene false in
local macro_rules | `(tactic| walk_at "#u") => `(tactic| ((try simp only [units_in1, units_deeper, Around.mark_units]); (try dsimp only [ktrTop]); omega))
local macro_rules | `(tactic| walk_at "#n") => `(tactic| exact News.isList (by k_asm) (by k_mem))
local macro_rules | `(tactic| walk_at "#g") => `(tactic| (intro r' h' tk' F' N' hk' hp'; obtain ⟨v', hv'⟩ := hp'; subst hv'))
local macro_rules | `(tactic| walk_at "#gd") => `(tactic| (intro r' h' tk' o' F' N' hp' hr'; obtain ⟨d', v', hv', hd1', hd2'⟩ := hr'; subst hv'; (try dsimp only at N')))
local macro_rules | `(tactic| walk_at "#gr") => `(tactic| (intro r' h' tk' F' N' hnew' hp'; obtain ⟨R', e', vs', hr', hR0', hR1', hT'⟩ := hp'; subst hr'; (replace N' := (hnew' _ _ hR0' hR1').1); (have hRn' := (hnew' _ _ hR0' hR1').2); clear hnew' hR0' hR1'))
local macro_rules | `(tactic| walk_at "#lc") => `(tactic| (intro D' c' h' F' N' l1; (try k_lt l1)))
local macro_rules | `(tactic| walk_at "#lm") => `(tactic| (intro D' h' ls' _ _ F' N' l1; (try k_lt l1)))
local macro_rules | `(tactic| walk_at "#g0") => `(tactic| (intro r' h' tk' F' N' hk' hp'; subst hp'))
local macro_rules | `(tactic| walk_at "#l") => `(tactic| (intro D' h' F' N' l1; (try k_lt l1)))
local macro_rules | `(tactic| walk_at "#f") => `(tactic| (k_here; (rename Fr _ _ _ _ => lF'); (with_unfolding_all refine' For_invVF lF' ?k1 ?k2 ?_; (case k1 => exact rfl); (case k2 => exact rfl); k_whole)))
local macro_rules | `(tactic| walk_at "#r") => `(tactic| ((with_reducible show wpAny _ _ (call _ [_]) _ _ _); (rename Fr _ _ _ _ => F'); (rename News _ _ _ _ => N'); (with_unfolding_all refine range1_rows F' N' ?_); intro _ _ _ _ _ _ _ _ _))
set_option hygiene false in
local macro_rules | `(tactic| walk_at "#x") => `(tactic| ((simp only [Array.size_push, List.size_toArray, List.length_append, List.length_reverse, List.length_cons, List.length_nil, List.length_take, List.toList_toArray]); rw [sizeLine_eq]; omega))

section
open PySem PySem.W PySem.Calls PySem.Spec PyProof.Rows
set_option maxRecDepth 100000
namespace Mine

/-- the end of a walked body -/
noncomputable def End (P : Value → Shared → Prop) (v : Value) (s' : Shared) : Prop := P v s'

/-- a contract of a def of the text: hide are the addresses that it may change -/
noncomputable def Calls (w : World) (f : Addr) (hide : List Addr) (vs : List Value) (dd uu : Nat) (Pre : Heap → Prop) (Post : Heap → Heap → Value → Prop) : Prop :=
  ∀ (p : Program) (loose : List Str) (mean : ExcName → Option Value) (mg mb : Str → Option Value)
    (dp un : Nat) (gd : Option (List Code)) (cn : Str) (cs : Scope) (L a : Addr) (ccd : Value) (cl : List (Str × Addr)) (outer : List Env) (A₀ : Around) (base h₀ : Heap) (m : Str → Option Value) (s : Shared)
    (Q E : Value → Shared → Prop),
    Below A₀ base outer h₀ → Fr h₀ L s.heap m → (mk.heap_1 w.params).In h₀ → Top p loose mean mg mb h₀ → cs.kind = .function →
    dp + dd < recursionLimit → un + uu < cLine → (∀ b ∈ hide, b ≠ L ∧ h₀.get? b = none) → Pre s.heap →
    (∀ r h' tk', (∀ b o, b ∉ hide → s.heap.get? b = some o → h'.get? b = some o) → Post s.heap h' r → Q r { s with heap := h', toks := tk' }) →
    wpAny (model PySem.Challenge.rw_qd0055_01.row.prog w) (ktrTop dp un gd cn cs L a ccd cl outer) (call (.ref f) vs) Q E s

theorem enterH {prog : Program} {w : World} {A : Around} {s : Shared} {L : Addr} {m : Str → Option Value} {h₀ base : Heap} {A₀ : Around} {K : Frag} {p : Program} {loose : List Str} {mean : ExcName → Option Value} {mg mb : Str → Option Value}
    {env : Env} {outer : List Env} {Q E : Value → Shared → Prop} {name qual : Str} {params : Arguments} {body : List Stmt} {scope : Scope} {dV kV doc pm cdv ct oc : Value} {an od : Option Addr} {osl : Array (Option Value)} {f : Addr} {vs : List Value} {binds : List (Str × Value)}
    (hide : List (Addr × Obj))
    (B : Below A₀ base outer h₀) (F : Fr h₀ L s.heap m) (X₀ : K.In h₀) (N : News h₀ L s.heap hide) (T : Top p loose mean mg mb h₀) (hA : A.frames = some (env :: outer)) (hf : env.frame = some L) (hke : env.scope.kind = .function)
    (ho : K.lookup f = some ⟨oc, od, .func (fnOf name qual params body scope dV kV doc pm an cdv ct), osl⟩) (hcd : codeIn K cdv qual = true) (hroom : A.depth < recursionLimit)
    (hbind : BindsTo s (fnOf name qual params body scope dV kV doc pm an cdv ct) ⟨vs, []⟩ binds) (hloc : ∀ y ∈ binds, scope.names.lookup y.1 = some .local)
    (h : ∀ g L' h₁ tk, Fr g L' h₁ (fun y => binds.reverse.lookup y) → News g L' h₁ hide → Below A base (env :: outer) g → K.In g → Top p loose mean mg mb g → (∀ b o, b ∉ hide.map (·.1) → s.heap.get? b = some o → g.get? b = some o) → (∀ q ∈ hide, q.1 < L') →
      wpAny (model prog w) (A.deeper (envOf qual scope L' f cdv)) (execs body (envOf qual scope L' f cdv))
        (fun fl s' => End Q (match fl with | .ret v => v | _ => .none) s')
        (fun _ _ => False) { s with heap := h₁, toks := tk })
    (hco : scope.isCoroutine = false) (hgen : scope.isGenerator = false) (hk : scope.kind = .function)
    (hcell : ∀ x ∈ scope.names, x.2 ≠ .cell) :
    wpAny (model prog w) A (call (.ref f) vs) Q E s := by
  obtain ⟨_, BG, st, _⟩ := groundX (R := fun _ _ => True) B F N hA hf hke
  have XG := X₀.keeps F.keep
  have st' : ∀ b o, h₀.get? b = some o → (hideAll s.heap (hide.map (fun x : Addr × Obj => x.1))).get? b = some o := fun b o e => st b o e
  refine wpAny_call (codeAny_call_def (fd := fnOf name qual params body scope dV kV doc pm an cdv ct) (body := body) (binds := binds) hroom (XG _ _ ho) rfl (T.nolimit.keeps F.keep) (codeRec_of XG hcd) rfl hbind hcell hloc (fun h₁ hns hk₁ => ?_) hco hgen hk)
  refine wpAny_mono (h (hideAll s.heap (hide.map (fun x : Addr × Obj => x.1))) s.heap.objs.size h₁ _ ⟨hns, fun b o e => hk₁ b o (of_hideAll _ e), Nat.le_of_eq (hideAll_size _ _)⟩
    (fun q hq => ⟨hk₁ _ _ (N q hq).1, Nat.ne_of_lt (Heap.lt_size (N q hq).1), hideAll_none _ (List.mem_map_of_mem hq)⟩) BG (X₀.keeps st') (T.keeps st') (fun b o hb e => hideAll_get _ e hb) (fun q hq => Heap.lt_size (N q hq).1)) (fun fl s' hl => ?_) fun _ _ x => x.elim
  exact hl


theorem enterHC {prog : Program} {w : World} {A : Around} {s : Shared} {L : Addr} {m : Str → Option Value} {h₀ base : Heap} {A₀ : Around} {K : Frag} {p : Program} {loose : List Str} {mean : ExcName → Option Value} {mg mb : Str → Option Value}
    {env : Env} {outer : List Env} {Q E : Value → Shared → Prop} {name qual : Str} {params : Arguments} {body : List Stmt} {scope : Scope} {dV kV doc pm cdv ct oc : Value} {an od : Option Addr} {osl : Array (Option Value)} {f : Addr} {vs : List Value} {binds : List (Str × Value)}
    (hide : List (Addr × Obj))
    (B : Below A₀ base outer h₀) (F : Fr h₀ L s.heap m) (X₀ : K.In h₀) (N : News h₀ L s.heap hide) (T : Top p loose mean mg mb h₀) (hA : A.frames = some (env :: outer)) (hf : env.frame = some L) (hke : env.scope.kind = .function)
    (ho : K.lookup f = some ⟨oc, od, .func (fnOf name qual params body scope dV kV doc pm an cdv ct), osl⟩) (hcd : codeIn K cdv qual = true) (hroom : A.depth < recursionLimit)
    (hbind : BindsTo s (fnOf name qual params body scope dV kV doc pm an cdv ct) ⟨vs, []⟩ binds) (hkind : (binds.all fun y => scope.names.lookup y.1 == some .local || scope.names.lookup y.1 == some .cell) = true)
    (hnd : ((cellsFrom 0 scope.names []).map (·.1)).Nodup)
    (h : ∀ g L' h₁ tk cells, Fr g L' h₁ (bindL (envOfC qual scope L' f cdv).kindOf binds fun _ => none) → News g L' h₁ (cells ++ hide) →
      CellsAre (bindC (envOfC qual scope L' f cdv).kindOf binds fun _ => none) (cellsFrom (L' + 1) scope.names []) cells → Below A base (env :: outer) g → K.In g → Top p loose mean mg mb g → (∀ b o, b ∉ hide.map (·.1) → s.heap.get? b = some o → g.get? b = some o) → (∀ q ∈ hide, q.1 < L') →
      wpAny (model prog w) (A.deeper (envOfC qual scope L' f cdv)) (execs body (envOfC qual scope L' f cdv))
        (fun fl s' => End Q (match fl with | .ret v => v | _ => .none) s')
        (fun _ _ => False) { s with heap := h₁, toks := tk })
    (hco : scope.isCoroutine = false) (hgen : scope.isGenerator = false) (hk : scope.kind = .function) :
    wpAny (model prog w) A (call (.ref f) vs) Q E s := by
  obtain ⟨_, BG, st, _⟩ := groundX (R := fun _ _ => True) B F N hA hf hke
  have XG := X₀.keeps F.keep
  have st' : ∀ b o, h₀.get? b = some o → (hideAll s.heap (hide.map (fun x : Addr × Obj => x.1))).get? b = some o := fun b o e => st b o e
  refine wpAny_call (codeAny_call_function (fd := fnOf name qual params body scope dV kV doc pm an cdv ct) hroom (XG _ _ ho) rfl hco hgen rfl (codeRec_of XG hcd) (hbind _ _ _ _ ?_))
  refine wpAny_newFunctionEnv_cells hk (kindsX hkind _) fun env' he s' x => ?_
  subst he
  refine ⟨(T.nolimit.keeps F.keep).keeps x.toInCall.keep, codeAny_func ?_⟩
  obtain ⟨h₁, tk, rfl, _⟩ := x.done
  have hk₁ := x.toInCall.keep
  obtain ⟨cells, NC, Y⟩ := Cl.news (h₀ := s.heap) (Nat.le_refl _) fun n c hm => ⟨x.cell n c (lookup_of_mem_nodup (cellsFrom_names scope.names 0 (s.heap.objs.size + 1) [] [] rfl ▸ hnd) hm), x.above n c hm⟩
  refine wpAny_mono (h (hideAll s.heap (hide.map (fun x : Addr × Obj => x.1))) s.heap.objs.size h₁ tk cells ⟨x.toInCall.ns, fun b o e => hk₁ b o (of_hideAll _ e), Nat.le_of_eq (hideAll_size _ _)⟩ (fun q hq => ?_) Y BG (X₀.keeps st') (T.keeps st') (fun b o hb e => hideAll_get _ e hb) (fun q hq => Heap.lt_size (N q hq).1)) (fun fl s' hl => ?_) fun _ _ x => x.elim
  · rcases List.mem_append.mp hq with hq | hq
    · refine ⟨(NC q hq).1, (NC q hq).2.1, ?_⟩
      cases z : (hideAll s.heap (hide.map (fun x : Addr × Obj => x.1))).get? q.1 with
      | none => rfl
      | some o => have := of_hideAll _ z; rw [(NC q hq).2.2] at this; cases this
    · exact ⟨hk₁ _ _ (N q hq).1, Nat.ne_of_lt (Heap.lt_size (N q hq).1), hideAll_none _ (List.mem_map_of_mem hq)⟩
  · exact hl


section
variable {w : World} {f : Addr} {hide : List Addr} {vs : List Value} {dd uu : Nat} {Pre : Heap → Prop} {Post : Heap → Heap → Value → Prop}
  {p : Program} {loose : List Str} {mean : ExcName → Option Value} {mg mb : Str → Option Value}
  {dp un : Nat} {gd : Option (List Code)} {cn : Str} {cs : Scope} {L a : Addr} {ccd : Value} {cl : List (Str × Addr)} {outer : List Env} {A₀ : Around} {base h₀ : Heap} {m : Str → Option Value} {s : Shared}
  {Q E : Value → Shared → Prop} {news : List (Addr × Obj)}

theorem Calls.use0 (C : Calls w f [] vs dd uu Pre Post) (B : Below A₀ base outer h₀) (F : Fr h₀ L s.heap m) (X : (mk.heap_1 w.params).In h₀) (N : News h₀ L s.heap news) (T : Top p loose mean mg mb h₀) (hk : cs.kind = .function)
    (hd' : dp + dd < recursionLimit) (hu : un + uu < cLine) (hp : Pre s.heap)
    (ret : ∀ r h' tk', Fr h₀ L h' m → News h₀ L h' news → (∀ b o, s.heap.get? b = some o → h'.get? b = some o) → Post s.heap h' r → Q r { s with heap := h', toks := tk' }) :
    wpAny (model PySem.Challenge.rw_qd0055_01.row.prog w) (ktrTop dp un gd cn cs L a ccd cl outer) (call (.ref f) vs) Q E s :=
  C _ _ _ _ _ _ _ _ _ _ _ _ _ _ _ _ _ _ _ _ _ _ B F X T hk hd' hu (fun _ h => nomatch h) hp fun r h' tk' hg hpost =>
    have hg' : ∀ b o, s.heap.get? b = some o → h'.get? b = some o := fun b o e => hg b o (fun h => nomatch h) e
    ret r h' tk' (F.after hg') (N.grown hg') hg' hpost

/-- the pen stands at the head of the ledger, the rest apart from it -/
theorem Calls.useP {P : Addr} {o : Obj} (C : Calls w f [P] vs dd uu Pre Post) (B : Below A₀ base outer h₀) (F : Fr h₀ L s.heap m) (X : (mk.heap_1 w.params).In h₀) (hm : (P, o) ∈ news) (N : News h₀ L s.heap news) (T : Top p loose mean mg mb h₀) (hk : cs.kind = .function)
    (hd' : dp + dd < recursionLimit) (hu : un + uu < cLine) (hp : Pre s.heap)
    (ret : ∀ r h' tk', Fr h₀ L h' m → (∀ q ∈ news, q.1 ≠ P → h'.get? q.1 = some q.2 ∧ q.1 ≠ L ∧ h₀.get? q.1 = none) → P ≠ L → h₀.get? P = none → (∀ b o, b ≠ P → s.heap.get? b = some o → h'.get? b = some o) → Post s.heap h' r → Q r { s with heap := h', toks := tk' }) :
    wpAny (model PySem.Challenge.rw_qd0055_01.row.prog w) (ktrTop dp un gd cn cs L a ccd cl outer) (call (.ref f) vs) Q E s := by
  have hP := (N _ hm).2
  refine C _ _ _ _ _ _ _ _ _ _ _ _ _ _ _ _ _ _ _ _ _ _ B F X T hk hd' hu (fun b h => by rw [List.mem_singleton.mp h]; exact hP) hp fun r h' tk' hg hpost => ?_
  have hg' : ∀ b o, b ≠ P → s.heap.get? b = some o → h'.get? b = some o := fun b o hb e => hg b o (fun h => hb (List.mem_singleton.mp h)) e
  refine ret r h' tk' ⟨?_, fun b o e => hg' b o (fun q => ?_) (F.keep b o e), F.above⟩ (fun q hq hne => ⟨hg' _ _ hne (N q hq).1, (N q hq).2⟩) hP.1 hP.2 hg' hpost
  · obtain ⟨oL, es, ep, hL, r⟩ := F.ns
    exact ⟨oL, es, ep, hg' _ _ (Ne.symm hP.1) hL, r⟩
  · rw [q, hP.2] at e; cases e
end
end Mine
end

def Mine.kW : Lean.MacroM (Lean.TSyntax `tactic) := `(tactic| ((case k1 => k_asm); (case k2 => k_asm); (case k3 => k_asm); (case k4 => k_asm); (case k5 => k_asm); (case k6 => first | rfl | assumption); (case k7 => first | k_room | decide +kernel); (case k8 => first | walk_at "#u" | decide +kernel)))
def Mine.u0 (t p : Lean.Term) (u : Lean.TSyntax `tactic) : Lean.MacroM (Lean.TSyntax `tactic) := do `(tactic| k_dflt (refine' Mine.Calls.use0 $t ?k1 ?k2 ?k3 ?k4 ?k5 ?k6 ?k7 ?k8 $p ?_; $u:tactic; $(← Mine.kW)))

section
open PySem PySem.W PySem.Calls PySem.Spec PyProof.Rows PyProof.Rows.LCg
set_option maxRecDepth 100000
namespace Mine
section
variable {prog : Program} {w : World} {A : Around} {E : Value → Shared → Prop} {s : Shared} {h₀ : Heap} {L : Addr} {m : Str → Option Value} {env : Env}

noncomputable def SignOf (y : Str) (i : Nat) (v : Value) : Prop := ∃ t, v = .str ⟨#[y.cps.getD i 0]⟩ t

noncomputable def TextSrc (prog : Program) (w : World) (A : Around) (h₀ : Heap) (L : Addr) (m : Str → Option Value) (env : Env) (elt : Expr) (x : Str) (scope : Scope) (cl : List (Str × Addr)) (Fin : Shared → List Value → List (Addr × Obj) → Prop) (xv : Value) (s₁ : Shared) : Prop :=
  ∃ y t news, xv = .str y t ∧ A.handled = none ∧ Fr h₀ L s₁.heap m ∧ News h₀ L s₁.heap news ∧ y.cps.all (· < 128) = true ∧ y.cps.size ≤ sizeLine ∧
    ∀ s₂ : Shared, (∃ h, s₂ = { s₁ with heap := h }) → CompRest prog w A h₀ L m env elt x scope cl s₂ (fun _ => True) (SignOf y) (Fin s₂) y.cps.size 0 [] news

theorem TextSrc.intro {elt : Expr} {x : Str} {scope : Scope} {cl : List (Str × Addr)} {Fin : Shared → List Value → List (Addr × Obj) → Prop} {y : Str} {t : Tok} {news : List (Addr × Obj)} {s₁ : Shared}
    (hh : A.handled = none) (F : Fr h₀ L s₁.heap m) (N : News h₀ L s₁.heap news) (ha : y.cps.all (· < 128) = true) (hsz : y.cps.size ≤ sizeLine)
    (h : ∀ g, CompRest prog w A h₀ L m env elt x scope cl { s₁ with heap := g } (fun _ => True) (SignOf y) (Fin { s₁ with heap := g }) y.cps.size 0 [] news) :
    TextSrc prog w A h₀ L m env elt x scope cl Fin (.str y t) s₁ := ⟨y, t, news, rfl, hh, F, N, ha, hsz, fun _ ⟨g, e⟩ => e ▸ h g⟩

theorem walks_text {I : Addr} (hh : A.handled = none) (y : Str) (t : Tok) : Walks prog w A I [I] [I] y.cps.size (SignOf y) (fun i h => h.IsStrIter I "str_ascii_iterator" y t i) :=
  let W : Walks prog w A I [I] [I] y.cps.size (SignAt y) (fun i h => h.IsStrIter I "str_ascii_iterator" y t i) := Walks.strAscii hh I y t
  { sub := W.sub, frame := W.frame, done := W.done, self := W.self,
    item := fun i s Q E hi st hQ => W.item i s Q E hi st fun v h' tk hP => hQ v h' tk (by
      obtain ⟨c, u, hc, rfl⟩ := hP
      refine ⟨u, ?_⟩
      have : y.cps.getD i 0 = c := by rw [Array.getD_eq_getD_getElem?, hc]; rfl
      rw [this]) }

theorem ListComp_S {elt iter : Expr} {x : Str} {px : Pos} {scope : Scope} {cl : List (Str × Addr)} {pos : Pos} {Q : Value → Shared → Prop} (F₀ : Fr h₀ L s.heap m)
    (hclos : closureFor scope env = pure cl) (hcell : ∀ y ∈ scope.names, y.2 ≠ .cell) (hkind : scope.kind = .function)
    (hnames : ∀ y ∈ scope.names, y.2 = .local → scope.names.lookup y.1 = some .local) (hx : scope.names.lookup x = some .local)
    (h : wpAny (model prog w) A (eval iter env) (TextSrc prog w A h₀ L m env elt x scope cl (fun s₂ => FinE h₀ L m s₂ Q)) E s)
    (hs : ∀ x, foldedSetIterable iter env x = pure x := by intro _; rfl) :
    wpAny (model prog w) A (eval (.ListComp elt [⟨.Name x px, iter, [], 0⟩] scope pos) env) Q E s := by
  rw [eval_ListComp]
  refine wpAny_comprehension_free (use := none) rfl hs hclos hkind hnames (wpAny_mono h (fun xv s₁ h₁ => ?_) fun _ _ e => e)
  obtain ⟨y, t, news, rfl, hh, F, N, ha, hsz, R⟩ := h₁
  refine wpAny_pyIter_ascii ha ?_
  have up : ∀ (o' : Obj), ∀ b o, s₁.heap.get? b = some o → (s₁.heap.push o').get? b = some o := fun o' b o e => Heap.get?_push_of_some _ e
  refine block_U (walks_text hh y t) hsz (fun i h st => by obtain ⟨o, e, _⟩ := st; exact ⟨o, e⟩) (fun i h h' o nw st e e' _ _ _ => by obtain ⟨o', q, r⟩ := st; rw [e] at q; cases q; exact ⟨o, e', r⟩) hcell hkind hx ⟨_, Heap.get?_push_size _ rfl, rfl, rfl⟩ (fun b hb => ?_)
    (F.keeps (up _)) (N.grown (up _)) (Nat.ne_of_lt F.ns.lt) (next_is_new F) (fun p hp => Nat.ne_of_lt (Heap.lt_size (N p hp).1)) trivial (R _ ⟨_, rfl⟩) ?_
  · rw [List.mem_singleton.mp hb]
    show s₁.heap.objs.size < (s₁.heap.push _).objs.size
    rw [Heap.size_push]; exact Nat.lt_succ_self _
  · intro D C h' tk m' ys news' F' N' o1 hn hC₀ hD₀ hCL hDL hCD offC fin
    refine ⟨m', hn, fun h'' hs'' => fin D h'' tk (F'.change hs'' hCL hC₀) (fun p hp => ?_) o1⟩
    refine ⟨hs''.extBut _ _ ?_ (N' p hp).1, (N' p hp).2⟩
    rcases List.mem_cons.mp hp with rfl | hp
    · exact Ne.symm hCD
    · exact offC p hp
end
end Mine
end

set_option hygiene false in
local macro_rules | `(tactic| walk_at "#cs") => `(tactic| (k_here; (with_reducible show wpAny _ _ (eval (Expr.ListComp _ [⟨_, Expr.Name (Str.ofString "text") _, _, _⟩] _ _) _) _ _ _); k_dflt (refine Mine.ListComp_S (F₀ := by k_asm) (by with_unfolding_all rfl) (by decide) (by rfl) (by decide) (by rfl) ?_)))

section
open PySem PySem.W PySem.Calls PySem.Spec PyProof.Rows PyProof.Rows.LCg
set_option maxRecDepth 100000
namespace Mine
noncomputable def Stop (P : Prop) : Prop := P
theorem stop_of {P : Prop} (h : Stop P) : P := h
section
variable {prog : Program} {w : World} {A : Around} {E : Value → Shared → Prop} {s : Shared} {h₀ : Heap} {L : Addr} {m : Str → Option Value} {env : Env}
theorem comp_inv {elt : Expr} {x : Str} {scope : Scope} {cl : List (Str × Addr)} {S : List (Addr × Obj) → Prop} {P : Nat → Value → Prop} {Fin : List Value → List (Addr × Obj) → Prop}
    (J : Nat → List Value → List (Addr × Obj) → Prop) (n : Nat)
    (turn : ∀ i ys news v I oI C oC D m₂ h tk (E' : Value → Shared → Prop), i < n → J i ys news → P i v → NsObj oC m₂ → m₂ x = some v → Fr h₀ L h m → News h₀ L h ((I, oI) :: (C, oC) :: (D, lst ys) :: news) → Off3 I C D news → ((@Ne Nat I C) ∧ (@Ne Nat I D) ∧ (@Ne Nat C D)) →
      wpAny (model prog w) A (eval elt (compEnvC scope cl C env)) (CompEnd h₀ L m { s with heap := h, toks := tk } I oI C oC D (lst ys) S (fun y news' => J (i + 1) (ys ++ [y]) news')) E' { s with heap := h, toks := tk })
    (fin : ∀ ys news, J n ys news → Fin ys news) : ∀ k i ys news, i + k = n → J i ys news → CompRest prog w A h₀ L m env elt x scope cl s S P Fin k i ys news
  | 0, i, ys, news, e, hJ => by
    have e' : i = n := by omega
    subst e'
    exact CompRest.zero (fin ys news hJ)
  | k + 1, i, ys, news, e, hJ => by
    refine CompRest.succ fun v I oI C oC D m₂ h tk E' hP hC hx F N off ne => ?_
    refine wpAny_mono (turn i ys news v I oI C oC D m₂ h tk E' (by omega) hJ hP hC hx F N off ne) (fun y s₂ p => ?_) fun _ _ e => e
    obtain ⟨h', tk', news', e', F', N', off', hS', r⟩ := p
    exact ⟨h', tk', news', e', F', N', off', hS', comp_inv J n turn fin k (i + 1) (ys ++ [y]) news' (by omega) r⟩
end
noncomputable def tot (l : List Str) : Nat := (l.map (·.length)).sum
theorem tot_cons (x : Str) (l : List Str) : tot (x :: l) = x.length + tot l := by simp [tot]
theorem tot_append (a b : List Str) : tot (a ++ b) = tot a + tot b := by simp [tot]
theorem strs_snoc {pv : List Value} {ps : List Str} (h : StrsAre pv ps) (x : Str) (t : Tok) : StrsAre (pv ++ [.str x t]) (ps ++ [x]) := by
  induction h with
  | nil => exact .cons _ _ .nil
  | cons _ _ _ ih => exact .cons _ _ ih
section
variable {prog : Program} {w : World} {A : Around} {E : Value → Shared → Prop} {s : Shared} {Q : Value → Shared → Prop}
theorem joinS {D : Addr} {x : Str} {t : Tok} {items : List Value} {ys : List Str} (hl : s.heap.IsList D items.toArray) (hi : StrsAre items ys) (hok : tot ys + ys.length * x.length ≤ 16777216)
    (h : ∀ t' k, Q (.str (Str.join x ys) t') { s with toks := k }) : wpAny (model prog w) A (call (.builtin "str.join") [.str x t, .ref D]) Q E s :=
  join_list hl hi hok fun t' k => by rw [eq_of_beq (join_plain_closes x ys)]; exact h t' k
theorem addS {x y : Str} {t u : Tok} (hs : x.length + y.length ≤ 16777216) (h : ∀ t' k, Q (.str (x ++ y) t') { s with toks := k }) : wpAny (model prog w) A (binaryOp .Add (.str x t) (.str y u)) Q E s := KOpn.add hs fun t' k _ => h t' k
end
/-- a sign's text, all the signs' texts joined -/
theorem join_signs (g : Nat → List Nat) : ∀ cs : List Nat, Str.join (Str.ofString "") (cs.map fun c => (⟨(g c).toArray⟩ : Str)) = ⟨(cs.flatMap g).toArray⟩
  | [] => rfl
  | c :: r => by
    have ih := join_signs g r
    have e : Str.ofString "" = (⟨#[]⟩ : Str) := by decide +kernel
    rw [e] at ih ⊢
    rw [List.map_cons, join_nil_cons, ih, List.flatMap_cons]
    apply Str.ext'
    rw [Str.cps_append]
    simp
theorem tot_signs (g : Nat → List Nat) (k : Nat) (hg : ∀ c, (g c).length ≤ k) : ∀ cs : List Nat, tot (cs.map fun c => (⟨(g c).toArray⟩ : Str)) ≤ cs.length * k
  | [] => Nat.zero_le _
  | c :: r => by
    have ih := tot_signs g k hg r
    have h1 : (⟨(g c).toArray⟩ : Str).length ≤ k := by show (g c).toArray.size ≤ k; simpa using hg c
    rw [List.map_cons, tot_cons, List.length_cons, Nat.add_mul, Nat.one_mul]
    omega
end Mine
end

local macro_rules | `(tactic| walk_at "#s") => `(tactic| (k_here; refine Mine.stop_of ?_))

section
open PySem PySem.W PySem.Calls PySem.Spec PyProof.Rows
set_option maxRecDepth 100000
namespace Mine
noncomputable def signTab : List (Nat × Str) := [(97, Str.ofString "\""), (34, Str.ofString "\""), (98, Str.ofString "\""), (92, Str.ofString "\""), (120, Str.ofString "\""), (10, Str.ofString "\""), (32, Str.ofString "\""), (121, Str.ofString "\""), (9, Str.ofString "\""), (110, Str.ofString "\""), (111, Str.ofString "\""), (101, Str.ofString "\""), (49, Str.ofString " "), (50, Str.ofString " "), (120, Str.ofString " "), (32, Str.ofString " "), (121, Str.ofString " "), (92, Str.ofString " "), (98, Str.ofString " ")]
noncomputable def signOut (c e : Nat) : List Nat := if c = 10 then [92, 110] else if c = 9 then [92, 116] else if c = e ∨ c = 92 then [92, c] else [c]
noncomputable def escS (x z : Str) : Str := ⟨(x.cps.toList.flatMap fun c => signOut c (z.cps.getD 0 0)).toArray⟩
/-- a sign that stands as it is -/
noncomputable def Plain (c : Nat) (z : Str) : Prop := 32 ≤ c ∧ c ≤ 126 ∧ c ≠ 92 ∧ (z = Str.ofString "\"" ∧ c ≠ 34 ∨ z = Str.ofString " " ∧ c ≠ 32)
theorem sign_cases : ∀ p ∈ signTab, (p = (10, Str.ofString "\"") ∨ p = (9, Str.ofString "\"") ∨ p = (34, Str.ofString "\"") ∨ p = (92, Str.ofString "\"") ∨ p = (92, Str.ofString " ") ∨ p = (32, Str.ofString " ")) ∨ (32 ≤ p.1 ∧ p.1 ≤ 126 ∧ p.1 ≠ 92 ∧ (p.2 = Str.ofString "\"" ∧ p.1 ≠ 34 ∨ p.2 = Str.ofString " " ∧ p.1 ≠ 32)) := by decide +kernel
theorem in_no {c : Nat} {z : Str} (h : Plain c z) : (!(Builtin.Str.occurrences z ⟨#[c]⟩ 0 z.length 1).isEmpty) = false := by
  have a1 : ∀ c, c < 127 → c ≠ 34 → (!(Builtin.Str.occurrences (Str.ofString "\"") ⟨#[c]⟩ 0 (Str.ofString "\"").length 1).isEmpty) = false := by decide +kernel
  have a2 : ∀ c, c < 127 → c ≠ 32 → (!(Builtin.Str.occurrences (Str.ofString " ") ⟨#[c]⟩ 0 (Str.ofString " ").length 1).isEmpty) = false := by decide +kernel
  obtain ⟨_, h2, _, h⟩ := h
  rcases h with ⟨rfl, h⟩ | ⟨rfl, h⟩
  · exact a1 c (by omega) h
  · exact a2 c (by omega) h
theorem ne_sign {c d : Nat} (h : c ≠ d) : ((⟨#[c]⟩ : Str) == ⟨#[d]⟩) = false := by
  simp [h]
section
variable {prog : Program} {w : World} {A : Around} {E : Value → Shared → Prop} {s : Shared} {t u : Tok} {Q : Value → Shared → Prop} {c : Nat} {z : Str}
theorem eqP (d : Nat) {y : Str} (hy : y = ⟨#[d]⟩) (h : c ≠ d) (k : Q (.bool false) s) : wpAny (model prog w) A (compareOp .Eq (.str ⟨#[c]⟩ t) (.str y u)) Q E s :=
  eq_str (by subst hy; rw [ne_sign h]; exact k)
theorem eqP1 (h : Plain c z) (k : Q (.bool false) s) : wpAny (model prog w) A (compareOp .Eq (.str ⟨#[c]⟩ t) (.str (Str.ofString "\n") u)) Q E s := eqP 10 (by decide +kernel) (by have := h.1; omega) k
theorem eqP2 (h : Plain c z) (k : Q (.bool false) s) : wpAny (model prog w) A (compareOp .Eq (.str ⟨#[c]⟩ t) (.str (Str.ofString "\t") u)) Q E s := eqP 9 (by decide +kernel) (by have := h.1; omega) k
theorem eqP3 (h : Plain c z) (k : Q (.bool false) s) : wpAny (model prog w) A (compareOp .Eq (.str ⟨#[c]⟩ t) (.str (Str.ofString "\\") u)) Q E s := eqP 92 (by decide +kernel) h.2.2.1 k
theorem inP (h : Plain c z) (k : Q (.bool false) s) : wpAny (model prog w) A (compareOp .In (.str ⟨#[c]⟩ t) (.str z u)) Q E s := in_str (by rw [in_no h]; exact k)
theorem ordP (k : Q (.int (c : Int) s.toks) { s with toks := s.toks + 1 }) : wpAny (model prog w) A (call (.builtin "ord") [.str ⟨#[c]⟩ t]) Q E s := ord_of_one rfl k
theorem ltP (h : Plain c z) (k : Q (.bool false) s) : wpAny (model prog w) A (compareOp .Lt (.int (c : Int) t) (.int 32 u)) Q E s := lt_int (by have := h.1; rw [decide_eq_false (by omega)]; exact k)
theorem gtP (h : Plain c z) (k : Q (.bool false) s) : wpAny (model prog w) A (compareOp .Gt (.int (c : Int) t) (.int 126 u)) Q E s := gt_int (by have := h.2.1; rw [decide_eq_false (by omega)]; exact k)
end
local macro_rules | `(tactic| walk_at "call builtin:ord") => `(tactic| (refine ord_of_one (by decide +kernel) ?_))
local macro_rules | `(tactic| walk_at "call builtin:ord") => `(tactic| (with_reducible refine ordP ?_))
set_option hygiene false in
local macro_rules | `(tactic| walk_at "compareOp Eq str str") => `(tactic| first | (with_reducible refine eqP1 (by assumption) ?_) | (with_reducible refine eqP2 (by assumption) ?_) | (with_reducible refine eqP3 (by assumption) ?_))
local macro_rules | `(tactic| walk_at "compareOp In str str") => `(tactic| (with_reducible refine inP (by assumption) ?_))
local macro_rules | `(tactic| walk_at "compareOp Lt int int") => `(tactic| (with_reducible refine ltP (by assumption) ?_))
local macro_rules | `(tactic| walk_at "compareOp Gt int int") => `(tactic| (with_reducible refine gtP (by assumption) ?_))

set_option maxHeartbeats 40000000 in
theorem sign_ok (w : World) (c : Nat) (z : Str) (t u : Tok) (hm : (c, z) ∈ signTab) :
    Calls w 72 [] [.str ⟨#[c]⟩ t, .str z u] 3 10 (fun _ => True) (fun _ _ r => ∃ v, r = .str ⟨(signOut c (z.cps.getD 0 0)).toArray⟩ v) := by
  w_top off
  unfold Calls
  k_fill
  intro p loose mean mg mb dp un gd cn cs L a ccd cl outer A₀ base h₀ m s Q E B F X T hk0 hdp hun hhide hpre hret
  have N : News h₀ L s.heap [] := News.nil
  k_dflt (refine' enterH [] ?k1 ?k2 ?k3 ?k4 ?k5 ?kA ?kF ?kK ?k6 ?k7 ?k8 ?k9 ?kB ?_ ?c2 ?c3 ?c4 ?c5; (case kA => exact rfl); (case kF => exact rfl); (case kK => assumption); (case k1 => k_asm); (case k2 => k_asm); (case k3 => k_asm); (case k4 => k_asm); (case k5 => k_asm); (case k6 => k_is); (case k7 => k_is); (case k8 => (dsimp only [ktrTop]; omega)); (case k9 => exact BindsTo.of_eq rfl); (case c5 => decide); (case kB => exact locs rfl); (case c2 => exact rfl); (case c3 => exact rfl); (case c4 => exact rfl))
  k_whole
  intro g L' h' tk F' N' B' X' T' hg hlt
  clear N F X T B
  (try dsimp only)
  (try k_fold)
  rcases sign_cases _ hm with hc | hP
  · clear hm
    simp only [Prod.mk.injEq] at hc
    rcases hc with ⟨rfl, rfl⟩ | ⟨rfl, rfl⟩ | ⟨rfl, rfl⟩ | ⟨rfl, rfl⟩ | ⟨rfl, rfl⟩ | ⟨rfl, rfl⟩
    all_goals (
      k_steps
      exact hret _ _ _ (fun b o hb e => Fr.keep (by assumption) b o (hg b o hb e)) ⟨_, congrArg (Value.str · _) (by decide +kernel)⟩)
  · replace hP : Plain c z := hP
    clear hm
    k_steps
    refine hret _ _ _ (fun b o hb e => Fr.keep (by assumption) b o (hg b o hb e)) ⟨_, congrArg (Value.str · _) ?_⟩
    have : signOut c (z.cps.getD 0 0) = [c] := by
      obtain ⟨h1, _, h2, h3⟩ := hP
      unfold signOut
      rw [if_neg (by omega), if_neg (by omega), if_neg]
      rcases h3 with ⟨rfl, h3⟩ | ⟨rfl, h3⟩
      · exact fun h => h.elim (fun h => h3 h) h2
      · exact fun h => h.elim (fun h => h3 h) h2
    rw [this]
end Mine
end

section
open PySem PySem.W PySem.Calls PySem.Spec PyProof.Rows PyProof.Rows.LCg
set_option maxRecDepth 100000
namespace Mine
noncomputable def textTab : List (Str × Str) := [(Str.ofString "", Str.ofString "\""), (Str.ofString "a\"b", Str.ofString "\""), (Str.ofString "\\", Str.ofString "\""), (Str.ofString "x\n y\t", Str.ofString "\""), (Str.ofString "none", Str.ofString "\""), (Str.ofString "x", Str.ofString "\""), (Str.ofString "12", Str.ofString " "), (Str.ofString "x y\\", Str.ofString " "), (Str.ofString "", Str.ofString " "), (Str.ofString "b", Str.ofString " ")]
theorem text_facts {x z : Str} (hm : (x, z) ∈ textTab) : (∀ c ∈ x.cps.toList, (c, z) ∈ signTab) ∧ x.cps.all (· < 128) = true ∧ x.cps.size ≤ 20 := by
  simp only [textTab, List.mem_cons, Prod.mk.injEq, List.not_mem_nil, or_false] at hm
  rcases hm with ⟨rfl, rfl⟩ | ⟨rfl, rfl⟩ | ⟨rfl, rfl⟩ | ⟨rfl, rfl⟩ | ⟨rfl, rfl⟩ | ⟨rfl, rfl⟩ | ⟨rfl, rfl⟩ | ⟨rfl, rfl⟩ | ⟨rfl, rfl⟩ | ⟨rfl, rfl⟩ <;> exact ⟨by decide +kernel, by decide +kernel, by decide +kernel⟩
theorem signOut_len (c e : Nat) : (signOut c e).length ≤ 2 := by
  unfold signOut
  split
  · decide
  · split
    · decide
    · split
      · exact Nat.le_refl 2
      · exact Nat.le_succ 1
theorem em_len : (Str.ofString "").length = 0 := by decide +kernel
/-- between the turns of a comprehension over a text's signs -/
noncomputable def JT (g : Nat → List Nat) (news₀ : List (Addr × Obj)) (cs : List Nat) (i : Nat) (ys : List Value) (news : List (Addr × Obj)) : Prop := news = news₀ ∧ StrsAre ys ((cs.take i).map fun c => (⟨(g c).toArray⟩ : Str))
local macro_rules | `(tactic| walk_at "eval ListComp") => `(tactic| walk_at "#cs")
local macro_rules | `(tactic| walk_at "TextSrc") => `(tactic| walk_at "#s")
local macro_rules | `(tactic| walk_at "CompEnd") => `(tactic| walk_at "#s")
set_option hygiene false in
local macro_rules | `(tactic| walk_at "call builtin:str.join") => `(tactic| (k_here; k_dflt (refine joinS (by walk_at "#n") (by assumption) ?_ ?_; (simp only [List.length_map, em_len]; omega)); intro _ _))
local macro_rules | `(tactic| walk_at "call ref") => do `(tactic| (k_here; $(← Mine.u0 (← `(sign_ok _ _ _ _ _ ?hm)) (← `(trivial)) (← `(tactic| ((case hm => assumption))))); walk_at "#g"))

set_option maxHeartbeats 40000000 in
theorem esc_ok (w : World) (x z : Str) (t u : Tok) (hm : (x, z) ∈ textTab) :
    Calls w 77 [] [.str x t, .str z u] 5 20 (fun _ => True) (fun _ _ r => ∃ v, r = .str (escS x z) v) := by
  w_top off
  unfold Calls
  k_fill
  intro p loose mean mg mb dp un gd cn cs L a ccd cl outer A₀ base h₀ m s Q E B F X T hk0 hdp hun hhide hpre hret
  have N : News h₀ L s.heap [] := News.nil
  obtain ⟨hall, hasc, hsz⟩ := text_facts hm
  k_dflt (refine' enterHC [] ?k1 ?k2 ?k3 ?k4 ?k5 ?kA ?kF ?kK ?k6 ?k7 ?k8 ?k9 ?kB ?kD ?_ ?c2 ?c3 ?c4; (case kA => exact rfl); (case kF => exact rfl); (case kK => assumption); (case k1 => k_asm); (case k2 => k_asm); (case k3 => k_asm); (case k4 => k_asm); (case k5 => k_asm); (case k6 => k_is); (case k7 => k_is); (case k8 => (dsimp only [ktrTop]; omega)); (case k9 => exact BindsTo.of_eq rfl); (case kB => exact rfl); (case kD => decide +kernel); (case c2 => exact rfl); (case c3 => exact rfl); (case c4 => exact rfl))
  k_whole
  intro g L' h' tk cells F' N' Y' B' X' T' hg hlt
  clear N F X T B
  k_cells Y'
  (try simp only [List.cons_append, List.nil_append] at N')
  (try dsimp only)
  (try k_fold)
  k_steps
  unfold Stop
  rename News _ _ _ _ => N1
  rename Fr _ _ _ _ => F1
  refine TextSrc.intro (by rfl) F1 N1 hasc (Nat.le_trans hsz (by decide)) fun g' => ?_
  refine comp_inv (JT (fun c => signOut c (z.cps.getD 0 0)) _ x.cps.toList) x.cps.size ?turn ?fin _ 0 [] _ (Nat.zero_add _) ⟨rfl, .nil⟩
  case turn =>
    clear N1 F1
    rintro i ys news v I oI C oC D m₂ h tk E' hi ⟨rfl, hys⟩ ⟨tv, rfl⟩ hC hx F2 N2 off ne
    have hg1 : x.cps.toList[i]? = some (x.cps.getD i 0) := by
      rw [Array.getElem?_toList, Array.getElem?_eq_getElem hi, Array.getD_eq_getD_getElem?, Array.getElem?_eq_getElem hi]; rfl
    have hs := hall _ (List.mem_of_getElem? hg1)
    generalize x.cps.getD i 0 = c at *
    k_steps
    unfold Stop
    rename News _ _ _ _ => N3
    exact CompEnd.intro (by assumption) N3 _ (fun p hp => hp) off trivial ⟨rfl, by rw [List.take_add_one, hg1, List.map_append]; exact strs_snoc hys _ _⟩
  case fin =>
    clear N1 F1
    rintro ys news ⟨rfl, hys⟩
    have e : x.cps.toList.take x.cps.size = x.cps.toList := List.take_of_length_le (by simp)
    rw [e] at hys
    have hb := tot_signs (fun c => signOut c (z.cps.getD 0 0)) 2 (fun c => signOut_len c _) x.cps.toList
    have hb2 : x.cps.toList.length = x.cps.size := by simp
    k_steps
    exact hret _ _ _ (fun b o hb e => Fr.keep (by assumption) b o (hg b o hb e)) ⟨_, congrArg (Value.str · _) (join_signs (fun c => signOut c (z.cps.getD 0 0)) x.cps.toList)⟩
end Mine
end

section
open PySem PySem.W PySem.Calls PySem.Spec PyProof.Rows
set_option maxRecDepth 100000
namespace Mine
local macro_rules | `(tactic| walk_at "call ref") => do `(tactic| (k_here; $(← Mine.u0 (← `(esc_ok _ _ _ _ _ ?hm)) (← `(trivial)) (← `(tactic| ((case hm => first | assumption | decide +kernel))))); walk_at "#g"))

inductive Lf where
  | int (i : Int)
  | txt (x : Str)
  | none
noncomputable def Lf.ok : Lf → Prop
  | .int i => -(10 ^ 9) ≤ i ∧ i ≤ 10 ^ 9
  | .txt x => (x, Str.ofString "\"") ∈ textTab
  | .none => True
noncomputable def Lf.show : Lf → Str
  | .int i => Str.ofString (toString i)
  | .txt x => Str.ofString "\"" ++ escS x (Str.ofString "\"") ++ Str.ofString "\""
  | .none => Str.ofString "none"
theorem esc_len {x z : Str} (hm : (x, z) ∈ textTab) : (escS x z).length ≤ 16 := by
  simp only [textTab, List.mem_cons, Prod.mk.injEq, List.not_mem_nil, or_false] at hm
  rcases hm with ⟨rfl, rfl⟩ | ⟨rfl, rfl⟩ | ⟨rfl, rfl⟩ | ⟨rfl, rfl⟩ | ⟨rfl, rfl⟩ | ⟨rfl, rfl⟩ | ⟨rfl, rfl⟩ | ⟨rfl, rfl⟩ | ⟨rfl, rfl⟩ | ⟨rfl, rfl⟩ <;> decide +kernel
inductive IsLf : Value → Lf → Prop where
  | int {i t} : IsLf (.int i t) (.int i)
  | txt {x t} : IsLf (.str x t) (.txt x)
  | none : IsLf .none .none

set_option maxHeartbeats 40000000 in
theorem plain_ok (w : World) (v : Value) (l : Lf) (hv : IsLf v l) (hl : l.ok) :
    Calls w 192 [] [v] 7 30 (fun _ => True) (fun _ _ r => ∃ t, r = .str l.show t) := by
  w_top off
  unfold Calls
  k_fill
  intro p loose mean mg mb dp un gd cn cs L a ccd cl outer A₀ base h₀ m s Q E B F X T hk0 hdp hun hhide hpre hret
  have N : News h₀ L s.heap [] := News.nil
  cases hv
  all_goals (
    k_dflt (refine' enterH [] ?k1 ?k2 ?k3 ?k4 ?k5 ?kA ?kF ?kK ?k6 ?k7 ?k8 ?k9 ?kB ?_ ?c2 ?c3 ?c4 ?c5; (case kA => exact rfl); (case kF => exact rfl); (case kK => assumption); (case k1 => k_asm); (case k2 => k_asm); (case k3 => k_asm); (case k4 => k_asm); (case k5 => k_asm); (case k6 => k_is); (case k7 => k_is); (case k8 => (dsimp only [ktrTop]; omega)); (case k9 => exact BindsTo.of_eq rfl); (case c5 => decide); (case kB => exact locs rfl); (case c2 => exact rfl); (case c3 => exact rfl); (case c4 => exact rfl))
    k_whole
    intro g L' h' tk F' N' B' X' T' hg hlt
    clear N F X T B
    (try dsimp only)
    (try k_fold)
    simp only [Lf.ok] at hl
    try have hlen := esc_len hl
    k_steps
    exact hret _ _ _ (fun b o hb e => Fr.keep (by assumption) b o (hg b o hb e)) ⟨_, rfl⟩)
  
end Mine
end

section
open PySem PySem.W PySem.Calls PySem.Spec PyProof.Rows
set_option maxRecDepth 100000
namespace Mine

theorem ne_empty {prog : Program} {w : World} {A : Around} {E : Value → Shared → Prop} {s : Shared} {l b : Addr} {items : Array Value} {Q : Value → Shared → Prop} (hl : s.heap.IsList l items) (hb : s.heap.IsList b #[]) (hu : A.units < cLine)
    (h : Q (.bool (decide (items.size ≠ 0))) s) : wpAny (model prog w) A (compareOp .NotEq (.ref l) (.ref b)) Q E s := by
  by_cases hz : items.size = 0
  · have : items = #[] := Array.eq_empty_of_size_eq_zero hz
    subst this
    refine cmp_ofNotEq (PySem.SeqAt.RcNeAt.lists (e := fun _ => true) hl hb rfl hu (fun j h1 => by simp at h1) prog w E Q ?_)
    simpa using h
  · refine cmp_ofNotEq (PySem.SeqAt.RcNeAt.lists_lengths hl hb ?_ hu prog w E Q ?_)
    · simpa using hz
    · simpa [hz] using h

theorem ne_snoc {prog : Program} {w : World} {A : Around} {E : Value → Shared → Prop} {s : Shared} {l b : Addr} {vs : List Value} {x : Value} {Q : Value → Shared → Prop} (hl : s.heap.IsList l (vs ++ [x]).toArray) (hb : s.heap.IsList b ([] : List Value).toArray) (hu : A.units < cLine)
    (h : Q (.bool true) s) : wpAny (model prog w) A (compareOp .NotEq (.ref l) (.ref b)) Q E s := ne_empty hl hb hu (by simpa using h)
theorem ne_nil {prog : Program} {w : World} {A : Around} {E : Value → Shared → Prop} {s : Shared} {l b : Addr} {Q : Value → Shared → Prop} (hl : s.heap.IsList l ([] : List Value).toArray) (hb : s.heap.IsList b ([] : List Value).toArray) (hu : A.units < cLine)
    (h : Q (.bool false) s) : wpAny (model prog w) A (compareOp .NotEq (.ref l) (.ref b)) Q E s := ne_empty hl hb hu (by simpa using h)

theorem pop_snoc {prog : Program} {w : World} {A : Around} {E : Value → Shared → Prop} {s : Shared} {h₀ : Heap} {L D : Addr} {m : Str → Option Value} {news news' : List (Addr × Obj)} {n : Nat} {p : List Value} {y : Value} {Q : Value → Shared → Prop} (F : Fr h₀ L s.heap m) (N : News h₀ L s.heap news)
    (U : Upd D (W.listOf (p ++ [y]).toArray n) (W.listOf p.toArray (n + 1)) news news') (hz : p.length + 1 ≤ sizeLine) (h : ∀ h', Fr h₀ L h' m → News h₀ L h' news' → Q y { s with heap := h' }) : wpAny (model prog w) A (call (.builtin "list.pop") [.ref D]) Q E s :=
  kl_pop F N (kpa_last y p) U (by simpa using hz) h

inductive V where
  | lf (l : Lf)
  | s0 (t : Bool)
  | s1 (t : Bool) (a : V)
  | s2 (t : Bool) (a b : V)
  | s3 (t : Bool) (a b c : V)
noncomputable def cat (l : List Str) : Str := Str.join ⟨#[]⟩ l
theorem cat_nil : cat [] = ⟨#[]⟩ := rfl
theorem cat_cons (x : Str) (r : List Str) : cat (x :: r) = x ++ cat r := join_nil_cons x r
theorem str_app_empty (x : Str) : x ++ (⟨#[]⟩ : Str) = x := by
  apply Str.ext'
  rw [Str.cps_append]; simp
theorem cat_one (x : Str) : cat [x] = x := rfl
theorem cat_append (a b : List Str) : cat (a ++ b) = cat a ++ cat b := by
  induction a with
  | nil => rw [List.nil_append, cat_nil]; exact (Str.empty_append _).symm
  | cons x r ih => rw [List.cons_append, cat_cons, cat_cons, ih, Str.append_assoc]
theorem cat_len (a : List Str) : (cat a).length = (a.map (·.length)).sum := by
  induction a with
  | nil => rfl
  | cons x r ih => rw [cat_cons, Str.length_append, ih]; rfl
noncomputable def V.show : V → Str
  | .lf l => l.show
  | .s0 _ => cat [Str.ofString "[", Str.ofString "]"]
  | .s1 _ a => cat [Str.ofString "[", a.show, Str.ofString "]"]
  | .s2 _ a b => cat [Str.ofString "[", a.show, Str.ofString ", ", b.show, Str.ofString "]"]
  | .s3 _ a b c => cat [Str.ofString "[", a.show, Str.ofString ", ", b.show, Str.ofString ", ", c.show, Str.ofString "]"]
noncomputable def V.wt : V → Nat
  | .lf _ => 1
  | .s0 _ => 2
  | .s1 _ a => 3 + a.wt
  | .s2 _ a b => 4 + a.wt + b.wt
  | .s3 _ a b c => 5 + a.wt + b.wt + c.wt
theorem V.wt_pos : ∀ d : V, 1 ≤ d.wt
  | .lf _ => Nat.le_refl _
  | .s0 _ => by simp [V.wt]
  | .s1 _ _ => by simp only [V.wt]; omega
  | .s2 _ _ _ => by simp only [V.wt]; omega
  | .s3 _ _ _ _ => by simp only [V.wt]; omega

noncomputable def IsSq (h : Heap) (t : Bool) (a : Addr) (its : Array Value) : Prop := if t then IsTup h a its else h.IsList a its

inductive DatH (h : Heap) : Value → V → Prop where
  | lf {v l} : IsLf v l → l.ok → DatH h v (.lf l)
  | s0 {t a} : IsSq h t a #[] → DatH h (.ref a) (.s0 t)
  | s1 {t a v d} : IsSq h t a #[v] → DatH h v d → DatH h (.ref a) (.s1 t d)
  | s2 {t a v d v2 d2} : IsSq h t a #[v, v2] → DatH h v d → DatH h v2 d2 → DatH h (.ref a) (.s2 t d d2)
  | s3 {t a v d v2 d2 v3 d3} : IsSq h t a #[v, v2, v3] → DatH h v d → DatH h v2 d2 → DatH h v3 d3 → DatH h (.ref a) (.s3 t d d2 d3)

theorem IsSq.keeps {h h' : Heap} {t a its} (x : IsSq h t a its) (k : ∀ b o, h.get? b = some o → h'.get? b = some o) : IsSq h' t a its := by
  unfold IsSq at *
  cases t with
  | true => exact IsTup.keeps x k
  | false => obtain ⟨o, e, r⟩ := x; exact ⟨o, k _ _ e, r⟩
theorem DatH.keeps {h h' : Heap} {v d} (x : DatH h v d) (k : ∀ b o, h.get? b = some o → h'.get? b = some o) : DatH h' v d := by
  induction x with
  | lf a b => exact .lf a b
  | s0 a => exact .s0 (a.keeps k)
  | s1 a _ i => exact .s1 (a.keeps k) i
  | s2 a _ _ i j => exact .s2 (a.keeps k) i j
  | s3 a _ _ _ i j l => exact .s3 (a.keeps k) i j l

inductive It where
  | val (d : V)
  | txt (x : Str)
noncomputable def It.out : It → Str
  | .val d => d.show
  | .txt x => x
noncomputable def It.wt : It → Nat
  | .val d => d.wt
  | .txt _ => 1
noncomputable abbrev tupO (vs : Array Value) : Obj := { cls := .type "tuple", data := .seq vs }
inductive Stk (g : Heap) (tl : List (Addr × Obj)) : List Value → List It → Prop where
  | nil : Stk g tl [] []
  | val {T v d rv its} : (T, tupO #[v, .bool true]) ∈ tl → DatH g v d → Stk g tl rv its → Stk g tl (.ref T :: rv) (.val d :: its)
  | txt {T x t rv its} : (T, tupO #[.str x t, .bool false]) ∈ tl → Stk g tl rv its → Stk g tl (.ref T :: rv) (.txt x :: its)
theorem Stk.mono {g tl tl' rv its} (x : Stk g tl rv its) (h : ∀ p ∈ tl, p ∈ tl') : Stk g tl' rv its := by
  induction x with
  | nil => exact .nil
  | val a b _ i => exact .val (h _ a) b i
  | txt a _ i => exact .txt (h _ a) i
noncomputable def wts (its : List It) : Nat := (its.map It.wt).sum
theorem Stk.len {g tl rv its} (x : Stk g tl rv its) : rv.length ≤ wts its := by
  induction x with
  | nil => exact Nat.le_refl _
  | @val T v d rv its a b _ i => have := d.wt_pos; simp only [wts, List.map_cons, List.sum_cons, List.length_cons, It.wt] at *; omega
  | txt a _ i => simp only [wts, List.map_cons, List.sum_cons, List.length_cons, It.wt] at *; omega

/-- between the turns of show_value's loop -/
noncomputable def JV (g : Heap) (D : Str) (n : Nat) (m : Str → Option Value) (news : List (Addr × Obj)) : Prop :=
  ∃ (LN P1 : Addr) (eL eP : Nat) (rv pv : List Value) (its : List It) (ps : List Str) (tl : List (Addr × Obj)),
    m (Str.ofString "line") = some (.ref LN) ∧ m (Str.ofString "pieces") = some (.ref P1) ∧
    news = (LN, W.listOf rv.reverse.toArray eL) :: (P1, W.listOf pv.toArray eP) :: tl ∧
    Stk g tl rv its ∧ StrsAre pv ps ∧ cat ps ++ cat (its.map It.out) = D ∧ n = wts its ∧ pv.length + n ≤ 1000000 ∧ (@Ne Nat P1 LN) ∧ (∀ p ∈ tl, p.1 ≠ LN) ∧ (∀ p ∈ tl, p.1 ≠ P1)

theorem StrsAre.len {pv : List Value} {ps : List Str} (h : StrsAre pv ps) : pv.length = ps.length := by
  induction h with
  | nil => rfl
  | cons _ _ _ ih => simp [ih]
theorem JV.start {g h : Heap} {L LN P1 T : Addr} {m : Str → Option Value} {v : Value} {d : V} {eL eP : Nat} (_F : Fr g L h m) (N : News g L h [(LN, W.listOf #[.ref T] eL), (T, tupO #[v, .bool true]), (P1, W.listOf #[] eP)])
    (h1 : m (Str.ofString "line") = some (.ref LN)) (h2 : m (Str.ofString "pieces") = some (.ref P1)) (hd : DatH g v d) (hsz : d.wt ≤ 1000000) (h3 : P1 ≠ LN) (h4 : T ≠ LN) (h5 : T ≠ P1) : ∃ news, News g L h news ∧ JV g d.show d.wt m news := by
  refine ⟨(LN, W.listOf #[.ref T] eL) :: (P1, W.listOf #[] eP) :: [(T, tupO #[v, .bool true])], fun q hq => N q (by simp at hq ⊢; rcases hq with h | h | h <;> simp [h]), LN, P1, eL, eP, [.ref T], [], [.val d], [], _, h1, h2, rfl, .val (List.mem_singleton.mpr rfl) hd .nil, .nil, ?_, rfl, by simpa using hsz, h3, ?_, ?_⟩
  · show cat [] ++ cat [d.show] = d.show
    rw [cat_one]; exact Str.empty_append _
  · intro p hp; rw [List.mem_singleton.mp hp]; exact h4
  · intro p hp; rw [List.mem_singleton.mp hp]; exact h5


theorem JV.turn {g h' : Heap} {L LN P1 : Addr} {D : Str} {n eL eP tk : Nat} {m' : Str → Option Value} {news' tl : List (Addr × Obj)} {rv pv : List Value} {its : List It} {ps : List Str} {s : Shared} (F : Fr g L h' m') (N : News g L h' news')
    (hm1 : m' (Str.ofString "line") = some (.ref LN)) (hm2 : m' (Str.ofString "pieces") = some (.ref P1))
    (hLN : (LN, W.listOf rv.reverse.toArray eL) ∈ news') (hP1 : (P1, W.listOf pv.toArray eP) ∈ news') (htl : ∀ p ∈ tl, p ∈ news')
    (hS : Stk g tl rv its) (hP : StrsAre pv ps) (hD : cat ps ++ cat (its.map It.out) = D) (hn : wts its < n) (hlen : pv.length + wts its ≤ 1000000) (hne : @Ne Nat P1 LN) (hl1 : ∀ p ∈ tl, p.1 ≠ LN) (hl2 : ∀ p ∈ tl, p.1 ≠ P1) :
    WhileStep g L s (JV g D) n .next { s with heap := h', toks := tk } :=
  WhileStep.intro (news₂ := (LN, W.listOf rv.reverse.toArray eL) :: (P1, W.listOf pv.toArray eP) :: tl) F (fun p hp => by
    rcases List.mem_cons.mp hp with rfl | hp
    · exact N _ hLN
    rcases List.mem_cons.mp hp with rfl | hp
    · exact N _ hP1
    exact N _ (htl _ hp)) hn ⟨LN, P1, eL, eP, rv, pv, its, ps, tl, hm1, hm2, rfl, hS, hP, hD, rfl, hlen, hne, hl1, hl2⟩
theorem kitAt_base {g h : Heap} {L a : Addr} {m : Str → Option Value} {its : Array Value} (F : Fr g L h m) (x : g.IsList a its) : KitAt a "list" h := let ⟨o, e, c, _⟩ := x; ⟨o, F.keep _ _ e, c⟩
theorem kitAt_baseT {g h : Heap} {L a : Addr} {m : Str → Option Value} {its : Array Value} (F : Fr g L h m) (x : IsTup g a its) : KitAt a "tuple" h := let ⟨o, e, c, _⟩ := x; ⟨o, F.keep _ _ e, c⟩
theorem tjoin_cat (l : List Str) : Txt.join (Str.ofString "") l = cat l := eq_of_beq (join_plain_closes (Str.ofString "") l)
theorem unr_cut {h₀ h' : Heap} {L I : Addr} {it : Obj} {rest : (Str → Option Value) → List (Addr × Obj) → Prop} {s₁ : Shared} {tk : Nat} {m' : Str → Option Value} {pre post : List (Addr × Obj)} (F : Fr h₀ L h' m') (N : News h₀ L h' (pre ++ (I, it) :: post))
    (h1 : ∀ p ∈ pre, p.1 ≠ I) (h2 : ∀ p ∈ post, p.1 ≠ I) (r : rest m' (pre ++ post)) : UnrEnd h₀ L s₁ I it rest { s₁ with heap := h', toks := tk } :=
  UnrEnd.intro F N (pre ++ post) (fun p hp => by
    rcases List.mem_cons.mp hp with rfl | hp
    · exact List.mem_append.mpr (.inr (.head _))
    · rcases List.mem_append.mp hp with hp | hp
      · exact List.mem_append.mpr (.inl hp)
      · exact List.mem_append.mpr (.inr (.tail _ hp))) (fun p hp => (List.mem_append.mp hp).elim (h1 p) (h2 p)) r
section
variable {prog : Program} {w : World} {A : Around} {E : Value → Shared → Prop} {s : Shared} {g : Heap} {L : Addr} {m : Str → Option Value} {t : Bool} {a : Addr} {its : Array Value} {Q : Value → Shared → Prop} {K : Frag}
theorem IsSq.typed (x : IsSq g t a its) (F : Fr g L s.heap m) : IsSq s.heap t a its := x.keeps F.keep
theorem sq_len {n : Int} (F : Fr g L s.heap m) (x : IsSq g t a its) (hn : (its.size : Int) = n) (hf : n < 2 ^ 63) (h : Q (.int n (s.toks + 1)) { s with toks := s.toks + 1 + 1 }) :
    wpAny (model prog w) A (call (.builtin "len") [.ref a]) Q E s := by
  subst hn
  have y := x.typed F
  cases t with
  | true => exact len_tuple (by simpa [IsSq] using y) hf h
  | false => exact PyProof.Rows.len_list (by simpa [IsSq] using y) hf h
theorem sq_item {value slice : Expr} {l : List Value} {k : Int} {u : Tok} {v : Value} (F : Fr g L s.heap m) (x : IsSq g t a l.toArray) (h0 : 0 ≤ k) (hf : k < 2 ^ 63) (hx : l[k.toNat]? = some v) (h : Q v s)
    (hs : subscripted slice false (.ref a) (.int k u) = operate [.ref a, .int k u] (getItem (.ref a) (.int k u)) := by with_unfolding_all rfl) :
    wpAny (model prog w) A (subscriptTail value slice (.ref a) (.int k u)) Q E s := by
  have y := x.typed F
  cases t with
  | true =>
    have y' : IsTup s.heap a l.toArray := by simpa [IsSq] using y
    have hlt : k.toNat < l.length := by
      rcases Nat.lt_or_ge k.toNat l.length with q | q
      · exact q
      · rw [List.getElem?_eq_none q] at hx; cases hx
    refine item_tupleT y' (by omega) hf (j := k.toNat) ?_ hx h hs
    unfold seqIndex?
    have h1 : ¬ k < 0 := by omega
    have h2 : ¬ (k < 0 ∨ k ≥ (l.length : Int)) := by omega
    simp [h1]
    omega
  | false =>
    have y' : s.heap.IsList a l.toArray := by simpa [IsSq] using y
    exact tail_any y'.typeIs slot_list_getitem.lookup (wpAny_getItem_list y' h0 hf (by simpa using hx) h) hs
theorem sq_isi {tp : Addr} {dd : Option Addr} {cs : List Value} {n : Nat} {sl : Array (Option Value)} (F : Fr g L s.heap m) (X : K.In s.heap) (x : IsSq g t a its) (htp : s.heap.get? tp = some ⟨.type "tuple", dd, .seq cs.toArray n, sl⟩)
    (e1 : kitAny K (.type "list") cs = some true) (e2 : kitAny K (.type "tuple") cs = some true) (h : ∀ tk, Q (.bool true) { s with toks := tk }) : wpAny (model prog w) A (call (.builtin "isinstance") [.ref a, .ref tp]) Q E s := by
  have y := x.typed F
  cases t with
  | true =>
    have y' : IsTup s.heap a its := by simpa [IsSq] using y
    exact kia_tup kitx_tuple X (let ⟨o, e, c, _⟩ := y'; ⟨o, e, c⟩) htp e2 (by intro q; cases q) h
  | false =>
    have y' : s.heap.IsList a its := by simpa [IsSq] using y
    exact kia_tup kitx_list X (let ⟨o, e, c, _⟩ := y'; ⟨o, e, c⟩) htp e1 (by intro q; cases q) h
end
theorem news_ne {g h : Heap} {L a b : Addr} {o o' : Obj} {news : List (Addr × Obj)} (N : News g L h news) (h1 : (a, o) ∈ news) (h2 : (b, o') ∈ news) (hc : o.cls ≠ o'.cls) : a ≠ b := by
  intro e
  subst e
  have := (N _ h1).1.symm.trans (N _ h2).1
  exact hc (congrArg Obj.cls (Option.some.inj this))
end Mine
end

set_option hygiene false in
local macro_rules | `(tactic| walk_at "#ne") => `(tactic| (k_here; (with_reducible show wpAny _ _ (compareOp CmpOp.NotEq (Value.ref _) (Value.ref _)) _ _ _); k_dflt (first | refine Mine.ne_snoc (by walk_at "#n") (by walk_at "#n") (by walk_at "#u") ?_ | refine Mine.ne_nil (by walk_at "#n") (by walk_at "#n") (by walk_at "#u") ?_)))
local macro_rules | `(tactic| walk_at "#pop") => `(tactic| (k_here; k_dflt (refine' Mine.pop_snoc ?F ?N ?U ?z ?_; (case F => k_asm); (case N => k_asm); (case U => k_upd); (case z => ((simp only [List.length_reverse]); rw [sizeLine_eq]; omega))); kl_rest))
local macro_rules | `(tactic| walk_at "#app") => `(tactic| (k_here; (with_reducible show wpAny _ _ (call (Value.builtin _) [Value.ref _, _]) _ _ _); k_dflt (refine' append_K ?F ?N ?U ?_ ?z; (case F => k_asm); (case N => k_asm); (case U => k_upd); (case z => walk_at "#x")); kl_rest))

section
open PySem PySem.W PySem.Calls PySem.Spec PyProof.Rows
set_option maxRecDepth 100000
namespace Mine
section
variable {prog : Program} {w : World} {A : Around} {E : Value → Shared → Prop} {s : Shared} {env : Env} {h₀ : Heap} {x : Str} {body : List Stmt} {Q : Flow → Shared → Prop}
/-- a for over a range of any length and step, its body keeping an invariant -/
theorem loop_step {r : Addr} {a₀ b₀ c : Int} {t₀ u₀ v₀ : Tok} {n : Nat} {m₀ : Str → Option Value} {news : List (Addr × Obj)} (J : Nat → (Str → Option Value) → List (Addr × Obj) → Prop)
    (hh : A.handled = none) (hr : IsRange s.heap r a₀ b₀ c t₀ u₀ v₀) (hsmall : Builtin.Range.small a₀ b₀ c = true) (hn : Builtin.Range.rangeSize a₀ b₀ c = (n : Int)) (F : Fr h₀ env.locals s.heap m₀) (N : News h₀ env.locals s.heap news) (hJ : J 0 m₀ news)
    (turn : ∀ i t m₁ nx h tk I oI, i < n → J i m₁ nx → (∀ p ∈ nx, p.1 ≠ I) → Fr h₀ env.locals h (fun y => if y = x then some (.int (a₀ + (i : Int) * c) t) else m₁ y) → News h₀ env.locals h ((I, oI) :: nx) →
      wpAny (model prog w) A (execs body env) (UnrPost h₀ env.locals { s with heap := h, toks := tk } I oI (J (i + 1)) Q) E { s with heap := h, toks := tk })
    (done : ∀ m₁ nx h tk, J n m₁ nx → Fr h₀ env.locals h m₁ → News h₀ env.locals h nx → Q .next { s with heap := h, toks := tk }) :
    wpAny (model prog w) A (pyIter (.ref r)) (fun it s₂ => LoopAtV prog w A h₀ env x body Q E it s₂) E s := by
  refine wpAny_pyIter_range hr hsmall ?_
  have W : Walks prog w A s.heap.objs.size [s.heap.objs.size] [s.heap.objs.size] n (fun i v => i < n ∧ ∃ t, v = .int (a₀ + i * c) t)
      (fun i h => IsRangeIter h s.heap.objs.size (a₀ + (i : Nat) * c) ((n : Int) - (i : Nat)) c) := (Walks.range hh _ a₀ c n).bound
  have hnew := next_is_new F
  refine ⟨_, _, _, n, _, _, m₀, news, J, rfl, W, ?_, ?_, ?_, (by show IsRangeIter _ _ _ _ _; rw [hn]; simpa using Heap.get?_push_size _ rfl), F.push _, (fun p hp => ⟨Heap.get?_push_of_some _ (N p hp).1, (N p hp).2⟩), hJ, ?_, ?_⟩
  · intro hm
    exact absurd F.ns.lt ((List.mem_singleton.mp hm) ▸ Nat.lt_irrefl _)
  · intro b hb
    rw [List.mem_singleton.mp hb]
    exact hnew
  · intro p hp hI
    exact absurd (Heap.lt_size (N p hp).1) ((List.mem_singleton.mp hI) ▸ Nat.lt_irrefl _)
  · rintro i v m₁ news₁ s₁ own ⟨hh', tk', rfl⟩ hin ⟨_, t, rfl⟩ hJ₁ hoff hown hget hall hst F₁ N₁
    have hst' : hh'.get? s.heap.objs.size = some (krsIt (a₀ + ((i + 1 : Nat) : Int) * c) ((n : Int) - ((i + 1 : Nat) : Int)) c) := hst
    have hmem := hall s.heap.objs.size (List.mem_singleton.mpr rfl) hnew _ hst'
    have N₂ : News h₀ env.locals hh' ((s.heap.objs.size, krsIt (a₀ + ((i + 1 : Nat) : Int) * c) ((n : Int) - ((i + 1 : Nat) : Int)) c) :: news₁) := fun p hp => by
      rcases List.mem_cons.mp hp with rfl | hp
      · exact N₁ _ (List.mem_append_left _ hmem)
      · exact N₁ _ (List.mem_append_right _ hp)
    have hoff' : ∀ p ∈ news₁, p.1 ≠ s.heap.objs.size := fun p hp e => hoff p hp (List.mem_singleton.mpr e)
    refine wpAny_mono (turn i t m₁ news₁ hh' tk' _ _ hin hJ₁ hoff' F₁ N₂) (fun f s₂ p => ?_) fun _ _ e => e
    have fin : UnrEnd h₀ env.locals { s with heap := hh', toks := tk' } s.heap.objs.size (krsIt (a₀ + ((i + 1 : Nat) : Int) * c) ((n : Int) - ((i + 1 : Nat) : Int)) c) (J (i + 1)) s₂ →
        LoopStepU h₀ env.locals [s.heap.objs.size] own (J (i + 1)) { s with heap := hh', toks := tk' } .next s₂ := by
      rintro ⟨h', tk, m', news', e, F', N', ho, r⟩
      refine ⟨rfl, h', tk, m', news', e, F', fun p hp => ?_, fun p hp hI => ho p hp (List.mem_singleton.mp hI), r⟩
      rcases List.mem_append.mp hp with hp | hp
      · have h1 : p.1 = s.heap.objs.size := List.mem_singleton.mp (hown p hp)
        have h2 : hh'.get? p.1 = some p.2 := hget p hp
        have h3 : p = (s.heap.objs.size, krsIt (a₀ + ((i + 1 : Nat) : Int) * c) ((n : Int) - ((i + 1 : Nat) : Int)) c) := by
          rw [h1, hst'] at h2
          exact Prod.ext h1 (Option.some.inj h2).symm
        rw [h3]; exact N' _ (List.mem_cons_self ..)
      · exact N' _ (List.mem_cons_of_mem _ hp)
    cases f with
    | ret v => exact .ret p
    | brk => exact .brk p
    | next => exact .next (fin p)
    | cont => exact .cont (fin p)
  · rintro h' tk m' news' F' N' _ hJ'
    exact done m' news' h' tk hJ' F' N'
end
inductive Dats (h : Heap) : List Value → List V → Prop where
  | nil : Dats h [] []
  | cons {v d vs ds} : DatH h v d → Dats h vs ds → Dats h (v :: vs) (d :: ds)
theorem Dats.len {h vs ds} (x : Dats h vs ds) : vs.length = ds.length := by
  induction x with
  | nil => rfl
  | cons _ _ i => simp [i]
theorem Dats.get {h : Heap} : ∀ {vs : List Value} {ds : List V} (_ : Dats h vs ds) (i : Nat), i < ds.length → ∃ v d, vs[i]? = some v ∧ ds[i]? = some d ∧ DatH h v d
  | _, _, .nil, _, e => by simp at e
  | _, _, .cons a _, 0, _ => ⟨_, _, rfl, rfl, a⟩
  | _, _, .cons _ b, i + 1, e => by simp only [List.getElem?_cons_succ]; exact b.get i (by simpa using e)
noncomputable def V.kids : V → List V
  | .lf _ => []
  | .s0 _ => []
  | .s1 _ a => [a]
  | .s2 _ a b => [a, b]
  | .s3 _ a b c => [a, b, c]
/-- what lies on the stack behind a first child; all the children -/
noncomputable def sepW : List V → List It
  | [] => []
  | k :: r => .txt (Str.ofString ", ") :: .val k :: sepW r
noncomputable def allW : List V → List It
  | [] => []
  | k :: r => .val k :: sepW r
noncomputable def stW (ks : List V) (i : Nat) : List It := if i = ks.length then allW ks else sepW (ks.drop (ks.length - i))
theorem stW_mid {ks : List V} {i : Nat} {d : V} (h : i + 1 < ks.length) (hd : ks[ks.length - 1 - i]? = some d) : stW ks (i + 1) = .txt (Str.ofString ", ") :: .val d :: stW ks i := by
  unfold stW
  rw [if_neg (by omega), if_neg (by omega)]
  have e : ks.drop (ks.length - (i + 1)) = d :: ks.drop (ks.length - i) := by
    have h1 : ks.length - (i + 1) = ks.length - 1 - i := by omega
    have h2 : ks.length - i = ks.length - 1 - i + 1 := by omega
    rw [h1, h2]
    have hlt : ks.length - 1 - i < ks.length := by omega
    rw [List.drop_eq_getElem_cons hlt]
    rw [List.getElem?_eq_getElem hlt] at hd
    rw [Option.some.inj hd]
  rw [e]; rfl
theorem stW_last {ks : List V} {i : Nat} {d : V} (h : i + 1 = ks.length) (hd : ks[ks.length - 1 - i]? = some d) : stW ks (i + 1) = .val d :: stW ks i := by
  unfold stW
  rw [if_pos h, if_neg (by omega)]
  have h1 : ks.length - 1 - i = 0 := by omega
  rw [h1] at hd
  cases ks with
  | nil => simp at hd
  | cons k r =>
    simp at hd; subst hd
    have : (k :: r).length - i = 1 := by simp at h ⊢; omega
    rw [this]; rfl
theorem stW_zero (ks : List V) : stW ks 0 = [] := by
  unfold stW
  cases ks with
  | nil => rfl
  | cons k r => rw [if_neg (by simp)]; simp [sepW]
theorem stW_all (ks : List V) : stW ks ks.length = allW ks := by unfold stW; rw [if_pos rfl]
/-- a list or tuple with what it holds -/
theorem DatH.seq {h v d} (z : DatH h v d) : (∃ l, IsLf v l ∧ l.ok ∧ d = .lf l) ∨ ∃ t a its, v = .ref a ∧ IsSq h t a (List.toArray its) ∧ Dats h its d.kids ∧ d.kids.length ≤ 3 ∧
    d.show = Str.ofString "[" ++ cat ((allW d.kids).map It.out) ++ Str.ofString "]" ∧ wts (allW d.kids) + 2 ≤ d.wt := by
  cases z with
  | lf a b => exact .inl ⟨_, a, b, rfl⟩
  | s0 a => exact .inr ⟨_, _, [], rfl, a, .nil, by simp [V.kids], by simp only [V.show, V.kids, allW, List.map_nil, cat_nil, cat_cons, cat_one, str_app_empty], by simp [V.kids, allW, wts, V.wt]⟩
  | s1 a b => exact .inr ⟨_, _, [_], rfl, a, .cons b .nil, by simp [V.kids], by simp only [V.show, V.kids, allW, sepW, List.map_cons, List.map_nil, It.out, cat_cons, cat_one, cat_nil, str_app_empty, Str.append_assoc], by simp [V.kids, allW, sepW, wts, V.wt, It.wt]; omega⟩
  | s2 a b c => exact .inr ⟨_, _, [_, _], rfl, a, .cons b (.cons c .nil), by simp [V.kids], by simp only [V.show, V.kids, allW, sepW, List.map_cons, List.map_nil, It.out, cat_cons, cat_one, cat_nil, str_app_empty, Str.append_assoc], by simp [V.kids, allW, sepW, wts, V.wt, It.wt]; omega⟩
  | s3 a b c d => exact .inr ⟨_, _, [_, _, _], rfl, a, .cons b (.cons c (.cons d .nil)), by simp [V.kids], by simp only [V.show, V.kids, allW, sepW, List.map_cons, List.map_nil, It.out, cat_cons, cat_one, cat_nil, str_app_empty, Str.append_assoc], by simp [V.kids, allW, sepW, wts, V.wt, It.wt]; omega⟩
theorem down_facts {n : Nat} (h : n ≤ 3) : Builtin.Range.small ((n : Int) - 1) (-1) (-1) = true ∧ Builtin.Range.rangeSize ((n : Int) - 1) (-1) (-1) = (n : Int) := by
  have : n = 0 ∨ n = 1 ∨ n = 2 ∨ n = 3 := by omega
  rcases this with rfl | rfl | rfl | rfl <;> exact ⟨by first | decide | rfl, by first | rfl | decide⟩
local macro_rules | `(tactic| walk_at "exec While Compare cons nil") => `(tactic| walk_at "#s")
local macro_rules | `(tactic| k_all) => `(tactic| assumption)
local macro_rules | `(tactic| walk_at "compareOp NotEq ref ref") => `(tactic| walk_at "#ne")
set_option hygiene false in
local macro_rules | `(tactic| walk_at "call builtin:str.join") => `(tactic| (k_here; k_dflt (refine join_list (by walk_at "#n") (by k_asm) (by k_asm) ?_); intro _ _))
local macro_rules | `(tactic| walk_at "call builtin:list.pop") => `(tactic| walk_at "#pop")
local macro_rules | `(tactic| walk_at "call builtin:list.append") => `(tactic| walk_at "#app")
local macro_rules | `(tactic| walk_at "call ref") => do `(tactic| (k_here; $(← Mine.u0 (← `(plain_ok _ _ _ ?h1 ?h2)) (← `(trivial)) (← `(tactic| ((case h1 => first | exact IsLf.int | exact IsLf.txt | exact IsLf.none); (case h2 => k_asm))))); walk_at "#g"))
local macro_rules | `(tactic| walk_at "call type:range") => `(tactic| ((with_reducible show wpAny _ _ (call _ [_, _, _]) _ _ _); (rename Fr _ _ _ _ => F'); (rename News _ _ _ _ => N'); (with_unfolding_all refine range3_rows F' N' (by decide) ?_); intro _ _ _ _ _ _ _ _ _))
local macro_rules | `(tactic| walk_at "call builtin:isinstance") => `(tactic| (k_here; (with_reducible show wpAny _ _ (call _ [Value.ref _, Value.ref _]) _ _ _); k_dflt (refine' sq_isi ?F ?X ?x ?p ?e1 ?e2 ?_; (case F => k_asm); (case x => k_asm); (case X => k_in); (case p => kit_tp); (case e1 => kit_is); (case e2 => kit_is); k_whole; intro _)))
local macro_rules | `(tactic| walk_at "pyIter ref") => `(tactic| walk_at "#s")
local macro_rules | `(tactic| walk_at "UnrEnd") => `(tactic| walk_at "#s")
set_option hygiene false in
local macro_rules | `(tactic| walk_at "call builtin:len") => `(tactic| (k_here; (with_reducible show wpAny _ _ (call _ [Value.ref _]) _ _ _); k_dflt (refine sq_len (by k_asm) (by k_asm) rfl ?_ ?_; (simp only [List.size_toArray]; omega))))
set_option hygiene false in
local macro_rules | `(tactic| walk_at "subscriptTail") => `(tactic| (k_here; (with_reducible show wpAny _ _ (subscriptTail _ _ (Value.ref _) (Value.int _ _)) _ _ _); k_dflt (refine sq_item (by k_asm) (by k_asm) (by omega) (by omega) (by assumption) ?_)))
local macro_rules | `(tactic| walk_at "exec For Name Call cons nil") => `(tactic| walk_at "#f")
/-- between the turns of the inner loop -/
noncomputable def JI (g : Heap) (LN P1 : Addr) (ar : Addr) (ps : List Str) (ks : List V) (its : List It) (i : Nat) (m : Str → Option Value) (nx : List (Addr × Obj)) : Prop :=
  ∃ eL eP rv pv tl, m (Str.ofString "line") = some (.ref LN) ∧ m (Str.ofString "pieces") = some (.ref P1) ∧ m (Str.ofString "part") = some (.ref ar) ∧
    nx = (LN, W.listOf (List.reverse rv).toArray eL) :: (P1, W.listOf (List.toArray pv) eP) :: tl ∧ StrsAre pv ps ∧ Stk g tl rv (stW ks i ++ its) ∧ (∀ p ∈ tl, p.1 ≠ LN) ∧ (∀ p ∈ tl, p.1 ≠ P1)
theorem JI.start {g h : Heap} {L LN P1 ar Z : Addr} {m : Str → Option Value} {ps : List Str} {ks : List V} {its : List It} {X Y : Addr × Obj} {uz ub : Tok} {eL eP : Nat} {rv pv : List Value} {tl : List (Addr × Obj)} (_F : Fr g L h m)
    (N : News g L h ((Z, tupO #[Value.str (Str.ofString "]") uz, Value.bool false]) :: X :: Y :: (LN, W.listOf (rv.reverse ++ [Value.ref Z]).toArray eL) :: (P1, W.listOf (pv ++ [Value.str (Str.ofString "[") ub]).toArray eP) :: tl))
    (m1 : m (Str.ofString "line") = some (.ref LN)) (m2 : m (Str.ofString "pieces") = some (.ref P1)) (m3 : m (Str.ofString "part") = some (.ref ar)) (hP : StrsAre pv ps) (hS : Stk g tl rv its) (hZ1 : Z ≠ LN) (hZ2 : Z ≠ P1) (hl1 : ∀ p ∈ tl, p.1 ≠ LN) (hl2 : ∀ p ∈ tl, p.1 ≠ P1) :
    ∃ nx, News g L h nx ∧ JI g LN P1 ar (ps ++ [Str.ofString "["]) ks (.txt (Str.ofString "]") :: its) 0 m nx := by
  refine ⟨(LN, W.listOf (Value.ref Z :: rv).reverse.toArray eL) :: (P1, W.listOf (pv ++ [Value.str (Str.ofString "[") ub]).toArray eP) :: (Z, tupO #[Value.str (Str.ofString "]") uz, Value.bool false]) :: tl, fun p hp => ?_, eL, eP, _, _, _, m1, m2, m3, rfl, strs_snoc hP _ _, ?_, ?_, ?_⟩
  · rw [List.reverse_cons] at hp
    refine N p ?_
    simp only [List.mem_cons] at hp ⊢
    rcases hp with hp | hp | hp | hp <;> simp [hp]
  · rw [stW_zero]
    exact .txt (.head _) (hS.mono fun p hp => .tail _ hp)
  · intro p hp
    rcases List.mem_cons.mp hp with rfl | hp
    · exact hZ1
    · exact hl1 p hp
  · intro p hp
    rcases List.mem_cons.mp hp with rfl | hp
    · exact hZ2
    · exact hl2 p hp
theorem JI.mid {g h' : Heap} {L LN P1 ar I T1 S1 : Addr} {oI : Obj} {s₁ : Shared} {tk : Nat} {m' : Str → Option Value} {ps : List Str} {ks : List V} {its : List It} {us : Tok} {eL eP i : Nat} {rv pv : List Value} {tl : List (Addr × Obj)} {v : Value} {d : V} (F : Fr g L h' m')
    (N : News g L h' ((S1, tupO #[Value.str (Str.ofString ", ") us, Value.bool false]) :: (T1, tupO #[v, Value.bool true]) :: (I, oI) :: (LN, W.listOf (rv.reverse ++ [Value.ref T1] ++ [Value.ref S1]).toArray eL) :: (P1, W.listOf pv.toArray eP) :: tl))
    (m1 : m' (Str.ofString "line") = some (.ref LN)) (m2 : m' (Str.ofString "pieces") = some (.ref P1)) (m3 : m' (Str.ofString "part") = some (.ref ar)) (hP : StrsAre pv ps) (hS : Stk g tl rv (stW ks i ++ its)) (hd : DatH g v d) (hi : i + 1 < ks.length) (hk : ks[ks.length - 1 - i]? = some d)
    (hl1 : ∀ p ∈ tl, p.1 ≠ LN) (hl2 : ∀ p ∈ tl, p.1 ≠ P1) (c1 : LN ≠ I) (c2 : P1 ≠ I) (c3 : ∀ p ∈ tl, p.1 ≠ I) (a1 : S1 ≠ LN) (a2 : S1 ≠ P1) (a3 : S1 ≠ I) (b1 : T1 ≠ LN) (b2 : T1 ≠ P1) (b3 : T1 ≠ I) :
    UnrEnd g L s₁ I oI (JI g LN P1 ar ps ks its (i + 1)) { s₁ with heap := h', toks := tk } := by
  refine UnrEnd.intro F N ((LN, W.listOf (Value.ref S1 :: Value.ref T1 :: rv).reverse.toArray eL) :: (P1, W.listOf pv.toArray eP) :: (S1, tupO #[Value.str (Str.ofString ", ") us, Value.bool false]) :: (T1, tupO #[v, Value.bool true]) :: tl) (fun p hp => ?_) (fun p hp => ?_)
    ⟨eL, eP, _, _, _, m1, m2, m3, rfl, hP, ?_, ?_, ?_⟩
  · rw [List.reverse_cons, List.reverse_cons] at hp
    simp only [List.mem_cons] at hp ⊢
    rcases hp with hp | hp | hp | hp | hp | hp <;> simp [hp]
  · simp only [List.mem_cons] at hp
    rcases hp with rfl | rfl | rfl | rfl | hp
    · exact c1
    · exact c2
    · exact a3
    · exact b3
    · exact c3 p hp
  · rw [stW_mid hi hk]
    exact .txt (.head _) (.val (.tail _ (.head _)) hd (hS.mono fun p hp => .tail _ (.tail _ hp)))
  · intro p hp
    simp only [List.mem_cons] at hp
    rcases hp with rfl | rfl | hp
    · exact a1
    · exact b1
    · exact hl1 p hp
  · intro p hp
    simp only [List.mem_cons] at hp
    rcases hp with rfl | rfl | hp
    · exact a2
    · exact b2
    · exact hl2 p hp
theorem JI.last {g h' : Heap} {L LN P1 ar I T1 : Addr} {oI : Obj} {s₁ : Shared} {tk : Nat} {m' : Str → Option Value} {ps : List Str} {ks : List V} {its : List It} {eL eP i : Nat} {rv pv : List Value} {tl : List (Addr × Obj)} {v : Value} {d : V} (F : Fr g L h' m')
    (N : News g L h' ((T1, tupO #[v, Value.bool true]) :: (I, oI) :: (LN, W.listOf (rv.reverse ++ [Value.ref T1]).toArray eL) :: (P1, W.listOf pv.toArray eP) :: tl))
    (m1 : m' (Str.ofString "line") = some (.ref LN)) (m2 : m' (Str.ofString "pieces") = some (.ref P1)) (m3 : m' (Str.ofString "part") = some (.ref ar)) (hP : StrsAre pv ps) (hS : Stk g tl rv (stW ks i ++ its)) (hd : DatH g v d) (hi : i + 1 = ks.length) (hk : ks[ks.length - 1 - i]? = some d)
    (hl1 : ∀ p ∈ tl, p.1 ≠ LN) (hl2 : ∀ p ∈ tl, p.1 ≠ P1) (c1 : LN ≠ I) (c2 : P1 ≠ I) (c3 : ∀ p ∈ tl, p.1 ≠ I) (b1 : T1 ≠ LN) (b2 : T1 ≠ P1) (b3 : T1 ≠ I) :
    UnrEnd g L s₁ I oI (JI g LN P1 ar ps ks its (i + 1)) { s₁ with heap := h', toks := tk } := by
  refine UnrEnd.intro F N ((LN, W.listOf (Value.ref T1 :: rv).reverse.toArray eL) :: (P1, W.listOf pv.toArray eP) :: (T1, tupO #[v, Value.bool true]) :: tl) (fun p hp => ?_) (fun p hp => ?_)
    ⟨eL, eP, _, _, _, m1, m2, m3, rfl, hP, ?_, ?_, ?_⟩
  · rw [List.reverse_cons] at hp
    simp only [List.mem_cons] at hp ⊢
    rcases hp with hp | hp | hp | hp | hp <;> simp [hp]
  · simp only [List.mem_cons] at hp
    rcases hp with rfl | rfl | rfl | hp
    · exact c1
    · exact c2
    · exact b3
    · exact c3 p hp
  · rw [stW_last hi hk]
    exact .val (.head _) hd (hS.mono fun p hp => .tail _ hp)
  · intro p hp
    rcases List.mem_cons.mp hp with rfl | hp
    · exact b1
    · exact hl1 p hp
  · intro p hp
    rcases List.mem_cons.mp hp with rfl | hp
    · exact b2
    · exact hl2 p hp
theorem map_tri {m : Str → Option Value} {a b c : Str} {va vb vc : Value} (h1 : m a = some va) (h2 : m b = some vb) (h3 : m c = some vc) : m = fun y => if y = a then some va else if y = b then some vb else if y = c then some vc else m y := by
  funext y
  by_cases q : y = a
  · rw [if_pos q, q, h1]
  rw [if_neg q]; by_cases q : y = b
  · rw [if_pos q, q, h2]
  rw [if_neg q]; by_cases q : y = c
  · rw [if_pos q, q, h3]
  rw [if_neg q]
theorem wts_le {ks : List V} (i : Nat) (h : i ≤ ks.length) : wts (stW ks i) ≤ wts (allW ks) := by
  have key : ∀ (l : List V) (j : Nat), wts (sepW (l.drop j)) ≤ wts (sepW l) := by
    intro l
    induction l with
    | nil => intro j; simp [sepW]
    | cons k r ih =>
      intro j
      cases j with
      | zero => exact Nat.le_refl _
      | succ j =>
        have := ih j
        simp only [List.drop_succ_cons, sepW, wts, List.map_cons, List.sum_cons, It.wt] at this ⊢
        omega
  unfold stW
  split
  · exact Nat.le_refl _
  · cases ks with
    | nil => simp at *; omega
    | cons k r =>
      have hj : (k :: r).length - i = ((k :: r).length - i - 1) + 1 := by simp at *; omega
      rw [hj, List.drop_succ_cons]
      have := key r ((k :: r).length - i - 1)
      simp only [allW, wts, List.map_cons, List.sum_cons, It.wt] at this ⊢
      omega
theorem wts_app (a b : List It) : wts (a ++ b) = wts a + wts b := by simp [wts]

set_option maxHeartbeats 40000000 in
theorem value_ok (w : World) (v : Value) (d : V) (hsz : d.wt ≤ 900000) (hln : d.show.length ≤ 1000000) :
    Calls w 199 [] [v] 10 50 (fun h => DatH h v d) (fun _ _ r => ∃ t, r = .str d.show t) := by
  w_top off
  unfold Calls
  k_fill
  intro p loose mean mg mb dp un gd cn cs L a ccd cl outer A₀ base h₀ m s Q E B F X T hk0 hdp hun hhide hpre hret
  have N : News h₀ L s.heap [] := News.nil
  k_dflt (refine' enterH [] ?k1 ?k2 ?k3 ?k4 ?k5 ?kA ?kF ?kK ?k6 ?k7 ?k8 ?k9 ?kB ?_ ?c2 ?c3 ?c4 ?c5; (case kA => exact rfl); (case kF => exact rfl); (case kK => assumption); (case k1 => k_asm); (case k2 => k_asm); (case k3 => k_asm); (case k4 => k_asm); (case k5 => k_asm); (case k6 => k_is); (case k7 => k_is); (case k8 => (dsimp only [ktrTop]; omega)); (case k9 => exact BindsTo.of_eq rfl); (case c5 => decide); (case kB => exact locs rfl); (case c2 => exact rfl); (case c3 => exact rfl); (case c4 => exact rfl))
  k_whole
  intro g L' h' tk F' N' B' X' T' hg hlt
  have hd : DatH g v d := hpre.keeps fun b o e => hg b o (by simp) e
  clear N F X T B
  (try dsimp only)
  (try k_fold)
  k_steps
  unfold Stop
  rename News _ _ _ _ => N1
  rename Fr _ _ _ _ => F1
  obtain ⟨news0, N2, hJ⟩ := JV.start F1 N1 rfl rfl hd (by omega) (neN (by omega)) (neN (by omega)) (neN (by omega))
  refine While_inv (JV g d.show) (n₀ := d.wt) F1 N2 hJ ?turn PassesOwn.never
  clear N1 N2 hJ news0 F1
  rintro n m₁ news₁ h₁ tk₁ F₁ N₁ ⟨LN, P1, eL, eP, rv, pv, its, ps, tl, hm1, hm2, rfl, hS, hP, hD, hn, hln2, hne, hl1, hl2⟩
  have e1 : m₁ = fun y => if y = Str.ofString "line" then some (.ref LN) else if y = Str.ofString "pieces" then some (.ref P1) else m₁ y := by
    funext y; by_cases q : y = Str.ofString "line"
    · rw [if_pos q, q, hm1]
    · rw [if_neg q]; by_cases q2 : y = Str.ofString "pieces"
      · rw [if_pos q2, q2, hm2]
      · rw [if_neg q2]
  rw [e1] at F₁
  clear e1
  cases hS with
  | nil =>
    have hJ : (ps.map (·.length)).sum + ps.length * (Str.ofString "").length ≤ 16777216 := by
      have e : d.show.length = (ps.map (·.length)).sum := by
        rw [← hD, Str.length_append, cat_len]; rfl
      have e2 : (Str.ofString "").length = 0 := rfl
      rw [e2]; omega
    k_steps
    refine hret _ _ _ (fun b o hb e => Fr.keep (by assumption) b o (hg b o hb e)) ⟨_, congrArg (Value.str · _) ?_⟩
    rw [← hD]
    rw [tjoin_cat]
    exact (str_app_empty _).symm
  | val hT hd' hS' =>
    have hz := hS'.len
    rename_i d' rv' its'
    have hw : wts its' = (its'.map It.wt).sum := rfl
    simp only [wts, List.map_cons, List.sum_cons, It.wt] at hn hz
    rw [List.reverse_cons] at N₁
    rcases hd'.seq with ⟨lf, hlf, hok, rfl⟩ | ⟨tb, ar, its2, rfl, hq, hks, hk3, hsh, hwt⟩
    · simp only [V.wt] at hn
      cases hlf
      all_goals (
        k_steps
        rename News _ _ _ _ => N1
        simp only [List.push_toArray] at N1
        refine JV.turn (tl := tl) (by assumption) N1 rfl rfl (by k_mem) (by k_mem) (fun p hp => by simp [hp]) hS' (strs_snoc hP _ _) ?_ (by omega) (by simp only [List.length_append, List.length_cons, List.length_nil]; omega) hne hl1 hl2
        rw [← hD, cat_append, cat_one, List.map_cons, cat_cons, Str.append_assoc]; rfl)
    · have hlen2 := hks.len
      generalize hksE : d'.kids = ks at *
      obtain ⟨df1, df2⟩ := down_facts (n := its2.length) (by omega)
      have hwa := wts_app (stW ks its2.length) (It.txt (Str.ofString "]") :: its')
      k_steps
      unfold Stop
      rename IsRange _ _ _ _ _ _ _ _ => R1
      rename News _ _ _ _ => N1
      rename Fr _ _ _ _ => F1
      simp only [List.push_toArray] at N1
      rw [List.size_toArray] at R1
      obtain ⟨nx0, N2, hJ⟩ := JI.start (ks := ks) F1 N1 rfl rfl rfl hP hS' (neN (by omega)) (neN (by omega)) hl1 hl2
      refine loop_step (n := its2.length) (JI g LN P1 ar (ps ++ [Str.ofString "["]) ks (It.txt (Str.ofString "]") :: its')) (by with_unfolding_all rfl) R1 df1 df2 F1 N2 hJ ?turn2 ?done2
      case done2 =>
        clear N1 N2 F1 R1 hJ
        rintro m₂ nx2 h₂ tk₂ ⟨eL2, eP2, rv2, pv2, tl2, q1, q2, q3, rfl, hP2, hS2, hl3, hl4⟩ F₂ N₂
        k_steps
        rw [hlen2, stW_all] at hS2
        have e1 := Mine.StrsAre.len hP2
        have e2 := Mine.StrsAre.len hP
        simp only [List.length_append, List.length_cons, List.length_nil] at e1
        refine JV.turn (tl := tl2) F₂ N₂ q1 q2 (.head _) (.tail _ (.head _)) (fun p hp => .tail _ (.tail _ hp)) hS2 hP2 ?_ ?_ ?_ hne hl3 hl4
        · rw [← hD, cat_append, cat_one, List.map_cons, cat_cons]
          simp only [It.out]
          rw [hsh, List.map_append, cat_append, List.map_cons, cat_cons]
          simp only [It.out, Str.append_assoc]
        · rw [wts_app]
          have : wts (It.txt (Str.ofString "]") :: its') = 1 + wts its' := by simp [wts, It.wt]
          omega
        · rw [wts_app]
          have : wts (It.txt (Str.ofString "]") :: its') = 1 + wts its' := by simp [wts, It.wt]
          omega
      case turn2 =>
        clear N1 N2 F1 R1 hJ
        rintro i t0 m₂ nx2 h₂ tk₂ I oI hi ⟨eL2, eP2, rv2, pv2, tl2, q1, q2, q3, rfl, hP2, hS2, hl3, hl4⟩ hoff F₂ N₂
        rw [map_tri q1 q2 q3] at F₂
        obtain ⟨va, da, hva, hda, hdd⟩ := hks.get (its2.length - 1 - i) (by omega)
        have hva' : its2[((its2.length : Int) - 1 + (i : Int) * -1).toNat]? = some va := by
          rw [show ((its2.length : Int) - 1 + (i : Int) * -1).toNat = its2.length - 1 - i by omega]; exact hva
        have hI1 : @Ne Nat LN I := hoff _ (.head _)
        have hI2 : @Ne Nat P1 I := hoff _ (.tail _ (.head _))
        have hsz9 : its2.toArray.size = its2.length := by simp
        rw [← hsz9] at hva'
        have hz2 := hS2.len
        rw [wts_app] at hz2
        have hz3 := wts_le (ks := ks) i (by omega)
        have hz4 : wts (It.txt (Str.ofString "]") :: its') = 1 + wts its' := by simp [wts, It.wt]
        by_cases hlast : i + 1 = its2.length
        · k_steps
          unfold Stop
          rename News _ _ _ _ => N3
          simp only [List.push_toArray] at N3
          exact JI.last (by assumption) N3 rfl rfl rfl hP2 hS2 hdd (by omega) (by rw [← hlen2]; exact hda) hl3 hl4 (hoff _ (.head _)) (hoff _ (.tail _ (.head _))) (fun p hp => hoff p (.tail _ (.tail _ hp))) (neN (by omega)) (neN (by omega)) (neN (by omega))
        · k_steps
          unfold Stop
          rename News _ _ _ _ => N3
          simp only [List.push_toArray] at N3
          exact JI.mid (by assumption) N3 rfl rfl rfl hP2 hS2 hdd (by omega) (by rw [← hlen2]; exact hda) hl3 hl4 (hoff _ (.head _)) (hoff _ (.tail _ (.head _))) (fun p hp => hoff p (.tail _ (.tail _ hp))) (neN (by omega)) (neN (by omega)) (neN (by omega)) (neN (by omega)) (neN (by omega)) (neN (by omega))
  | txt hT hS' =>
    have hz := hS'.len
    rename_i its'
    have hw : wts its' = (its'.map It.wt).sum := rfl
    simp only [wts, List.map_cons, List.sum_cons, It.wt] at hn hz
    rw [List.reverse_cons] at N₁
    k_steps
    rename News _ _ _ _ => N1
    simp only [List.push_toArray] at N1
    refine JV.turn (tl := tl) (by assumption) N1 rfl rfl (by k_mem) (by k_mem) (fun p hp => by simp [hp]) hS' (strs_snoc hP _ _) ?_ (by omega) (by simp only [List.length_append, List.length_cons, List.length_nil]; omega) hne hl1 hl2
    rw [← hD, cat_append, cat_one, List.map_cons, cat_cons, Str.append_assoc]; rfl
end Mine
end

section
open PySem PySem.W PySem.Calls PySem.Spec PyProof.Rows
set_option maxRecDepth 100000
namespace Mine

/-- what stands in h' and not in h -/
noncomputable def fresh (h h' : Heap) : List (Addr × Obj) := (List.range h'.objs.size).filterMap fun a => match h.get? a with
  | some _ => none
  | none => (h'.get? a).map fun o => (a, o)
theorem mem_fresh {h h' : Heap} {a : Addr} {o : Obj} : (a, o) ∈ fresh h h' ↔ h.get? a = none ∧ h'.get? a = some o := by
  unfold fresh
  rw [List.mem_filterMap]
  constructor
  · rintro ⟨b, _, hb⟩
    cases hq : h.get? b with
    | some x => rw [hq] at hb; cases hb
    | none =>
      rw [hq] at hb
      dsimp only at hb
      cases hr : h'.get? b with
      | none => rw [hr] at hb; cases hb
      | some x => rw [hr] at hb; cases hb; exact ⟨hq, hr⟩
  · rintro ⟨h1, h2⟩
    exact ⟨a, List.mem_range.mpr (Heap.lt_size h2), by rw [h1, h2]; rfl⟩
theorem fresh_of {g h h' : Heap} {L a P : Addr} {o : Obj} {news : List (Addr × Obj)} (N : News g L h' news) (hg : ∀ b o, b ≠ P → h.get? b = some o → g.get? b = some o) (hm : (a, o) ∈ news) (hne : a ≠ P) : (a, o) ∈ fresh h h' := by
  refine mem_fresh.mpr ⟨?_, (N _ hm).1⟩
  cases hq : h.get? a with
  | none => rfl
  | some x => have := (N _ hm).2.2; rw [hg _ _ hne hq] at this; cases this

/-- the pen: two ints, the second a count of at most k -/
noncomputable def PenIs (o : Obj) (k : Int) : Prop := ∃ n k' t u e, o = W.listOf #[.int n t, .int k' u] e ∧ 0 ≤ n ∧ 0 ≤ k' ∧ k' ≤ k

noncomputable def PenPost (P : Addr) (kk : Int) (R : List (Addr × Obj) → Value → Prop) (h h' : Heap) (r : Value) : Prop :=
  ∃ o', h'.get? P = some o' ∧ PenIs o' kk ∧ R (fresh h h') r

section
variable {w : World} {f P : Addr} {vs : List Value} {dd uu : Nat} {R : List (Addr × Obj) → Value → Prop} {kk : Int} {o : Obj}
  {p : Program} {loose : List Str} {mean : ExcName → Option Value} {mg mb : Str → Option Value}
  {dp un : Nat} {gd : Option (List Code)} {cn : Str} {cs : Scope} {L a : Addr} {ccd : Value} {cl : List (Str × Addr)} {outer : List Env} {A₀ : Around} {base h₀ : Heap} {m : Str → Option Value} {s : Shared}
  {Q E : Value → Shared → Prop} {news : List (Addr × Obj)} {G : Obj → List (Addr × Obj)}

/-- a def that draws, called: the ledger with the new pen, and what the call made -/
theorem Calls.useU (C : Calls w f [P] vs dd uu (fun h => h.get? P = some o) (PenPost P kk R)) (B : Below A₀ base outer h₀) (F : Fr h₀ L s.heap m) (X : (mk.heap_1 w.params).In h₀) (N : News h₀ L s.heap news) (U : UpdF P o news G) (T : Top p loose mean mg mb h₀) (hk : cs.kind = .function)
    (hd' : dp + dd < recursionLimit) (hu : un + uu < cLine)
    (ret : ∀ r h' tk' l o', Fr h₀ L h' m → News h₀ L h' (G o' ++ l) → (∀ q ∈ news, ∀ x ∈ l, x.1 ≠ q.1) → PenIs o' kk → R l r → Q r { s with heap := h', toks := tk' }) :
    wpAny (model PySem.Challenge.rw_qd0055_01.row.prog w) (ktrTop dp un gd cn cs L a ccd cl outer) (call (.ref f) vs) Q E s := by
  obtain ⟨pre, post, hn, hG, h1, h2⟩ := U.split
  subst hn
  have hPm : (P, o) ∈ pre ++ (P, o) :: post := List.mem_append.mpr (.inr (.head _))
  refine Calls.useP (o := o) C B F X hPm N T hk hd' hu (N _ hPm).1 fun r h' tk' F' N' hPL hP₀ hkeep hpost => ?_
  obtain ⟨o', ho', hpen, hR⟩ := hpost
  refine ret r h' tk' (fresh s.heap h') o' F' ?_ ?_ hpen hR
  · rw [hG]
    intro q hq
    rcases List.mem_append.mp hq with hq | hq
    · rcases List.mem_append.mp hq with hq | hq
      · exact N' q (List.mem_append.mpr (.inl hq)) (h1 q hq)
      · rcases List.mem_cons.mp hq with rfl | hq
        · exact ⟨ho', hPL, hP₀⟩
        · exact N' q (List.mem_append.mpr (.inr (.tail _ hq))) (h2 q hq)
    · obtain ⟨x, ox⟩ := q
      obtain ⟨b1, b2⟩ := mem_fresh.mp hq
      refine ⟨b2, fun e => ?_, ?_⟩
      · obtain ⟨oL, _, _, hL, _⟩ := F.ns
        dsimp only at e
        rw [e, hL] at b1; cases b1
      · cases hz : h₀.get? x with
        | none => rfl
        | some z => rw [F.keep _ _ hz] at b1; cases b1
  · intro q hq x hx e
    obtain ⟨y, oy⟩ := x
    have b1 := (mem_fresh.mp hx).1
    dsimp only at e
    rw [e, (N q hq).1] at b1; cases b1
theorem Calls.useD {S : Value → Prop} (C : Calls w f [P] vs dd uu (fun h => h.get? P = some o) (PenPost P kk fun _ r => S r)) (B : Below A₀ base outer h₀) (F : Fr h₀ L s.heap m) (X : (mk.heap_1 w.params).In h₀) (N : News h₀ L s.heap news) (U : UpdF P o news G) (T : Top p loose mean mg mb h₀) (hk : cs.kind = .function)
    (hd' : dp + dd < recursionLimit) (hu : un + uu < cLine)
    (ret : ∀ r h' tk' o', Fr h₀ L h' m → News h₀ L h' (G o') → PenIs o' kk → S r → Q r { s with heap := h', toks := tk' }) :
    wpAny (model PySem.Challenge.rw_qd0055_01.row.prog w) (ktrTop dp un gd cn cs L a ccd cl outer) (call (.ref f) vs) Q E s :=
  Calls.useU C B F X N U T hk hd' hu fun r h' tk' l o' F' N' _ hp hr => ret r h' tk' o' F' (fun q hq => N' q (List.mem_append.mpr (.inl hq))) hp hr
end
end Mine
end

section
open PySem PySem.W PySem.Calls PySem.Spec PyProof.Rows
set_option maxRecDepth 100000
namespace Mine
theorem getD0 (a b : Int) : [a, b].getD (Int.toNat 0) 0 = a := rfl
theorem getD1 (a b : Int) : [a, b].getD (Int.toNat 1) 0 = b := rfl
set_option hygiene false in
local macro_rules | `(tactic| walk_at "binaryOp Pow int int") => `(tactic| (with_reducible refine pow_int_small (by decide) (by decide) (by simp only [getD0, getD1]; omega) ?_))
theorem draw_end {n k many : Int} (hn : 0 ≤ n) (hm : 1 ≤ many) : 0 ≤ n.fmod many ∧ n.fmod many < many ∧ 0 ≤ n.fdiv many := by
  refine ⟨Int.fmod_nonneg_of_pos _ (by omega), Int.fmod_lt_of_pos _ (by omega), ?_⟩
  rw [Int.fdiv_eq_ediv_of_nonneg _ (by omega)]
  exact Int.ediv_nonneg hn (by omega)
noncomputable abbrev Drawn (many : Int) (r : Value) : Prop := ∃ d v, r = .int d v ∧ 0 ≤ d ∧ d < many
set_option maxHeartbeats 4000000 in
theorem draw_ok (w : World) (P : Addr) (o : Obj) (k : Int) (v : Tok) (many : Int) (ho : PenIs o k) (hk9 : k ≤ 1000000) (hm : 1 ≤ many) (hm2 : many ≤ 1000000000) :
    Calls w 227 [P] [.ref P, .int many v] 1 3 (fun h => h.get? P = some o) (PenPost P (k + 1) fun _ r => Drawn many r) := by
  obtain ⟨n, k', t, u, e, rfl, hn, hk, hk2⟩ := ho
  w_top off
  unfold Calls
  k_fill
  intro p loose mean mg mb dp un gd cn cs L a ccd cl outer A₀ base h₀ m s Q E B F X T hk0 hdp hun hhide hpre hret
  have N : News h₀ L s.heap [(P, W.listOf #[.int n t, .int k' u] e)] := by
    intro q hq
    obtain rfl := List.mem_singleton.mp hq
    exact ⟨hpre, hhide P (List.mem_singleton.mpr rfl)⟩
  k_dflt (refine' enterH _ ?k1 ?k2 ?k3 ?k4 ?k5 ?kA ?kF ?kK ?k6 ?k7 ?k8 ?k9 ?kB ?_ ?c2 ?c3 ?c4 ?c5; (case kA => exact rfl); (case kF => exact rfl); (case kK => assumption); (case k1 => k_asm); (case k2 => k_asm); (case k3 => k_asm); (case k4 => k_asm); (case k5 => k_asm); (case k6 => k_is); (case k7 => k_is); (case k8 => (dsimp only [ktrTop]; omega)); (case k9 => exact BindsTo.of_eq rfl); (case c5 => decide); (case kB => exact locs rfl); (case c2 => exact rfl); (case c3 => exact rfl); (case c4 => exact rfl))
  k_whole
  intro g L' h' tk F' N' B' X' T' hg hlt
  clear N F X T B
  (try dsimp only)
  (try k_fold)
  k_steps
  all_goals (
    rename News _ _ _ _ => N1
    refine hret _ _ _ (fun b o hb e => Fr.keep (by assumption) b o (hg b o (by simpa using hb) e)) ⟨_, (N1 _ (.head _)).1, ⟨_, _, _, _, _, rfl, ?_, ?_, ?_⟩, _, _, rfl, ?_, ?_⟩)
  all_goals (try simp only [getD0, getD1])
  all_goals first | omega | exact (draw_end (k := 0) hn hm).1 | exact (draw_end (k := 0) hn hm).2.1 | exact (draw_end (k := 0) hn hm).2.2 | skip
  all_goals (have hpw : (0:Int) ≤ (1867 * (k' + 1) + 4241) ^ Int.toNat 11 := Int.pow_nonneg (by omega))
  all_goals first | exact (draw_end (k := 0) hpw hm).1 | exact (draw_end (k := 0) hpw hm).2.1 | exact (draw_end (k := 0) hpw hm).2.2 | skip
end Mine
end

local macro_rules | `(tactic| walk_at "#d") => do `(tactic| (k_here; k_dflt (refine' Mine.Calls.useD (Mine.draw_ok _ _ _ _ _ _ ?ho ?hk9 ?hm ?hm2) ?k1 ?k2 ?k3 ?k4 ?kU ?k5 ?k6 ?k7 ?k8 ?_; (case ho => assumption); $(← Mine.kW); (case kU => k_updF); (case hk9 => omega); (case hm => first | omega | decide +kernel); (case hm2 => first | omega | decide +kernel)); walk_at "#gd"))

section
open PySem PySem.W PySem.Calls PySem.Spec PyProof.Rows
set_option maxRecDepth 100000
namespace Mine
section
variable {prog : Program} {w : World} {A : Around} {E : Value → Shared → Prop} {s : Shared} {env : Env} {h₀ : Heap} {x : Str} {body : List Stmt} {Q : Flow → Shared → Prop}

/-- a for over a list that stands below the call or in its ledger, its body keeping an invariant -/
theorem loop_any {ax : Addr} {vs : List Value} {lo : Obj} {m₀ : Str → Option Value} {news : List (Addr × Obj)} (J : Nat → (Str → Option Value) → List (Addr × Obj) → Prop)
    (hh : A.handled = none) (hc : lo.cls = .type "list") (hd : ∃ n, lo.data = .seq vs.toArray n) (F : Fr h₀ env.locals s.heap m₀) (N : News h₀ env.locals s.heap news) (hJ : J 0 m₀ news)
    (kX : ∀ i m nx, J i m nx → h₀.get? ax = some lo ∨ (ax, lo) ∈ nx)
    (turn : ∀ i v m₁ nx h tk I oI, vs[i]? = some v → J i m₁ nx → (∀ p ∈ nx, p.1 ≠ I) → oI.cls = .type "list_iterator" → Fr h₀ env.locals h (fun y => if y = x then some v else m₁ y) → News h₀ env.locals h ((I, oI) :: nx) →
      wpAny (model prog w) A (execs body env) (UnrPost h₀ env.locals { s with heap := h, toks := tk } I oI (J (i + 1)) Q) E { s with heap := h, toks := tk })
    (done : ∀ m₁ nx h tk, J vs.length m₁ nx → Fr h₀ env.locals h m₁ → News h₀ env.locals h nx → Q .next { s with heap := h, toks := tk }) :
    wpAny (model prog w) A (pyIter (.ref ax)) (fun it s₂ => LoopAtV prog w A h₀ env x body Q E it s₂) E s := by
  have hax : ∀ (h : Heap) nx, (∀ b o, h₀.get? b = some o → h.get? b = some o) → News h₀ env.locals h nx → (h₀.get? ax = some lo ∨ (ax, lo) ∈ nx) → h.get? ax = some lo := fun h nx k N' z => z.elim (k _ _) (fun z => (N' _ z).1)
  have hol := hax _ _ F.keep N (kX _ _ _ hJ)
  obtain ⟨n, hd⟩ := hd
  have hls : s.heap.IsList ax vs.toArray := ⟨lo, hol, hc, n, hd⟩
  have hlt : ax < s.heap.objs.size := Heap.lt_size hol
  have hne : ax ≠ s.heap.objs.size := Nat.ne_of_lt hlt
  have haL : env.locals ≠ ax := by
    rcases kX _ _ _ hJ with z | z
    · exact fun e => absurd (Heap.lt_size z) (by rw [← e]; exact Nat.not_lt.mpr F.above)
    · exact fun e => (N _ z).2.1 e.symm
  refine wpAny_pyIter_list hls ?_
  have W := Walks.list (prog := prog) (w := w) hh s.heap.objs.size ax hne vs.toArray
  have hlen : vs.toArray.size = vs.length := by simp
  rw [hlen] at W
  have hnew := next_is_new F
  refine ⟨_, _, _, vs.length, _, _, m₀, news, J, rfl, W, ?_, ?_, ?_, ⟨⟨_, Heap.get?_push_size _ rfl, rfl, rfl⟩, hls.at fun o e => Heap.get?_push_of_some _ e⟩, F.push _, (fun p hp => ⟨Heap.get?_push_of_some _ (N p hp).1, (N p hp).2⟩), hJ, ?_, ?_⟩
  · intro hm
    rcases List.mem_cons.mp hm with e | hm
    · exact absurd F.ns.lt (e ▸ Nat.lt_irrefl _)
    · exact haL (List.mem_singleton.mp hm)
  · intro b hb
    rw [List.mem_singleton.mp hb]
    exact hnew
  · intro p hp hI
    exact absurd (Heap.lt_size (N p hp).1) ((List.mem_singleton.mp hI) ▸ Nat.lt_irrefl _)
  · rintro i v m₁ news₁ s₁ own ⟨hh', tk', rfl⟩ hin hP hJ₁ hoff hown hget hall hst F₁ N₁
    obtain ⟨oI, hoI, hoc, hod⟩ := hst.1
    have hmem := hall s.heap.objs.size (List.mem_cons_self ..) hnew _ hoI
    have hv : vs[i]? = some v := by simpa using hP
    have N₂ : News h₀ env.locals hh' ((s.heap.objs.size, oI) :: news₁) := fun p hp => by
      rcases List.mem_cons.mp hp with rfl | hp
      · exact N₁ _ (List.mem_append_left _ hmem)
      · exact N₁ _ (List.mem_append_right _ hp)
    have hoff' : ∀ p ∈ news₁, p.1 ≠ s.heap.objs.size := fun p hp e => hoff p hp (List.mem_singleton.mpr e)
    refine wpAny_mono (turn i v m₁ news₁ hh' tk' _ oI hv hJ₁ hoff' hoc F₁ N₂) (fun f s₂ p => ?_) fun _ _ e => e
    have fin : UnrEnd h₀ env.locals { s with heap := hh', toks := tk' } s.heap.objs.size oI (J (i + 1)) s₂ →
        LoopStepU h₀ env.locals [s.heap.objs.size] own (J (i + 1)) { s with heap := hh', toks := tk' } .next s₂ := by
      rintro ⟨h', tk, m', news', e, F', N', ho, r⟩
      refine ⟨rfl, h', tk, m', news', e, F', fun p hp => ?_, fun p hp hI => ho p hp (List.mem_singleton.mp hI), r⟩
      rcases List.mem_append.mp hp with hp | hp
      · have h2 : hh'.get? p.1 = some p.2 := hget p hp
        rcases List.mem_cons.mp (hown p hp) with h1 | h1
        · have h3 : p = (s.heap.objs.size, oI) := by
            rw [h1, hoI] at h2
            exact Prod.ext h1 (Option.some.inj h2).symm
          rw [h3]; exact N' _ (List.mem_cons_self ..)
        · have h1' : p.1 = ax := List.mem_singleton.mp h1
          have z2 := N₁ p (List.mem_append_left _ hp)
          have z1 : hh'.get? ax = some lo := hax _ _ F₁.keep (fun q hq => N₁ q (List.mem_append_right _ hq)) (kX _ _ _ hJ₁)
          have h3 : p = (ax, lo) := by
            rw [h1', z1] at h2
            exact Prod.ext h1' (Option.some.inj h2).symm
          rcases kX _ _ _ r with z | z
          · rw [h3] at z2; exact absurd z2.2.2 (by rw [z]; simp)
          · rw [h3]; exact N' _ (List.mem_cons_of_mem _ z)
      · exact N' _ (List.mem_cons_of_mem _ hp)
    cases f with
    | ret v => exact .ret p
    | brk => exact .brk p
    | next => exact .next (fin p)
    | cont => exact .cont (fin p)
  · rintro h' tk m' news' F' N' _ hJ'
    exact done m' news' h' tk hJ' F' N'
end
end Mine
end

section
open PySem PySem.W PySem.Calls PySem.Spec PyProof.Rows
set_option maxRecDepth 100000
namespace Mine

inductive T where
  | leaf (kind text : Str)
  | n0 (nm : Str)
  | n1 (nm : Str) (a : T)
  | n2 (nm : Str) (a b : T)
  | n3 (nm : Str) (a b c : T)
noncomputable def T.kids : T → List T
  | .leaf _ _ => []
  | .n0 _ => []
  | .n1 _ a => [a]
  | .n2 _ a b => [a, b]
  | .n3 _ a b c => [a, b, c]
noncomputable def leafShow (kind text : Str) : Str := if kind = text ∨ kind = Str.ofString "'" ++ text ++ Str.ofString "'" then kind else kind ++ Str.ofString "=" ++ escS text (Str.ofString " ")
noncomputable def sp : Str := Str.ofString " "
noncomputable def brack (nm : Str) (l : List Str) : Str := Str.ofString "(" ++ Str.join sp (nm :: l) ++ Str.ofString ")"
noncomputable def T.show : T → Str
  | .leaf k x => leafShow k x
  | .n0 nm => brack nm []
  | .n1 nm a => brack nm [a.show]
  | .n2 nm a b => brack nm [a.show, b.show]
  | .n3 nm a b c => brack nm [a.show, b.show, c.show]
theorem T.show_node (t : T) (nm : Str) (h : t = .n0 nm ∨ (∃ a, t = .n1 nm a) ∨ (∃ a b, t = .n2 nm a b) ∨ ∃ a b c, t = .n3 nm a b c) : t.show = brack nm (t.kids.map T.show) := by
  rcases h with rfl | ⟨a, rfl⟩ | ⟨a, b, rfl⟩ | ⟨a, b, c, rfl⟩ <;> rfl
/-- a tree's nodes: a node, then its children from the last to the first -/
noncomputable def T.rpre : T → List T
  | .leaf k x => [.leaf k x]
  | .n0 nm => [.n0 nm]
  | .n1 nm a => .n1 nm a :: a.rpre
  | .n2 nm a b => .n2 nm a b :: (b.rpre ++ a.rpre)
  | .n3 nm a b c => .n3 nm a b c :: (c.rpre ++ b.rpre ++ a.rpre)
theorem T.rpre_eq (t : T) : t.rpre = t :: (t.kids.reverse.flatMap T.rpre) := by
  cases t <;> simp [T.rpre, T.kids, List.flatMap_cons, List.append_assoc]
noncomputable def T.nodes : T → Nat
  | .leaf _ _ => 1
  | .n0 _ => 1
  | .n1 _ a => 1 + a.nodes
  | .n2 _ a b => 1 + a.nodes + b.nodes
  | .n3 _ a b c => 1 + a.nodes + b.nodes + c.nodes
theorem T.rpre_len : ∀ t : T, t.rpre.length = t.nodes
  | .leaf _ _ => rfl
  | .n0 _ => rfl
  | .n1 _ a => by simp [T.rpre, T.nodes, T.rpre_len a]; omega
  | .n2 _ a b => by simp [T.rpre, T.nodes, T.rpre_len a, T.rpre_len b]; omega
  | .n3 _ a b c => by simp [T.rpre, T.nodes, T.rpre_len a, T.rpre_len b, T.rpre_len c]; omega
theorem T.nodes_kids (t : T) : t.nodes = 1 + (t.kids.map T.nodes).sum := by
  cases t <;> simp [T.nodes, T.kids] <;> omega
noncomputable def T.post (t : T) : List T := t.rpre.reverse
theorem T.post_eq (t : T) : t.post = t.kids.flatMap T.post ++ [t] := by
  unfold T.post
  rw [T.rpre_eq, List.reverse_cons]
  congr 1
  cases t <;> simp [T.kids, List.flatMap_cons, T.post]

/-- what show_tree does with a node -/
noncomputable def T.step (st : List Str) : T → List Str
  | .leaf k x => st ++ [leafShow k x]
  | .n0 nm => st.take (st.length - 0) ++ [brack nm (st.drop (st.length - 0))]
  | .n1 nm _ => st.take (st.length - 1) ++ [brack nm (st.drop (st.length - 1))]
  | .n2 nm _ _ => st.take (st.length - 2) ++ [brack nm (st.drop (st.length - 2))]
  | .n3 nm _ _ _ => st.take (st.length - 3) ++ [brack nm (st.drop (st.length - 3))]
theorem T.step_k (st l : List Str) (nm : Str) : (st ++ l).take ((st ++ l).length - l.length) ++ [brack nm ((st ++ l).drop ((st ++ l).length - l.length))] = st ++ [brack nm l] := by
  have e : (st ++ l).length - l.length = st.length := by simp
  rw [e]; simp
noncomputable def T.run (st : List Str) (l : List T) : List Str := l.foldl T.step st
theorem T.run_post : ∀ (t : T) (st : List Str), T.run st t.post = st ++ [t.show]
  | .leaf k x, st => rfl
  | .n0 nm, st => by
    show T.step st (.n0 nm) = _
    simp [T.step, T.show]
  | .n1 nm a, st => by
    rw [T.post_eq]
    show T.run st (([a] : List T).flatMap T.post ++ [.n1 nm a]) = _
    unfold T.run
    rw [List.foldl_append]
    have h1 := T.run_post a st
    unfold T.run at h1
    simp only [List.flatMap_cons, List.flatMap_nil, List.append_nil, h1, List.foldl_cons, List.foldl_nil]
    exact T.step_k st [a.show] nm
  | .n2 nm a b, st => by
    rw [T.post_eq]
    show T.run st (([a, b] : List T).flatMap T.post ++ [.n2 nm a b]) = _
    unfold T.run
    rw [List.foldl_append]
    have h1 := T.run_post a st
    have h2 := T.run_post b (st ++ [a.show])
    unfold T.run at h1 h2
    simp only [List.flatMap_cons, List.flatMap_nil, List.append_nil, List.foldl_append, h1, h2, List.foldl_cons, List.foldl_nil]
    have := T.step_k st [a.show, b.show] nm
    simp only [List.append_assoc, List.cons_append, List.nil_append] at this ⊢
    exact this
  | .n3 nm a b c, st => by
    rw [T.post_eq]
    show T.run st (([a, b, c] : List T).flatMap T.post ++ [.n3 nm a b c]) = _
    unfold T.run
    rw [List.foldl_append]
    have h1 := T.run_post a st
    have h2 := T.run_post b (st ++ [a.show])
    have h3 := T.run_post c (st ++ [a.show] ++ [b.show])
    unfold T.run at h1 h2 h3
    simp only [List.flatMap_cons, List.flatMap_nil, List.append_nil, List.foldl_append, h1, h2, h3, List.foldl_cons, List.foldl_nil]
    have := T.step_k st [a.show, b.show, c.show] nm
    simp only [List.append_assoc, List.cons_append, List.nil_append] at this ⊢
    exact this

noncomputable abbrev ent (w : World) (nm : String) (t : Tok) (v : Value) : DictEntry := ⟨PyData.keyHash w.params (Str.ofString nm), .str (Str.ofString nm) t, v⟩
noncomputable def leafTab : List (Str × Str) := [(Str.ofString "a", Str.ofString "a"), (Str.ofString "'+'", Str.ofString "+"), (Str.ofString "NUM", Str.ofString "12"), (Str.ofString "ID", Str.ofString "x y\\"), (Str.ofString "error", Str.ofString ""), (Str.ofString "a", Str.ofString "b")]

/-- an object of class C with that dict -/
noncomputable def InsH (h : Heap) (x C : Addr) (es : List DictEntry) : Prop := ∃ dx n, h.get? x = some (instObj C dx) ∧ h.get? dx = some (dictOf es n)
noncomputable def TokH (w : World) (h : Heap) (x : Addr) (kind text : Str) : Prop := ∃ t1 t2 t3 t4 t5 t6 t7 v, InsH h x 54 [ent w "kind" t1 (.str kind t2), ent w "text" t3 (.str text t4), ent w "at" t5 v, ent w "worth" t6 (.str text t7)]
noncomputable def LeafH (w : World) (h : Heap) (x l tk : Addr) (kind : Str) : Prop := ∃ t1 t2 t3 t4 t5 t6, InsH h x 176 [ent w "name" t1 (.str kind t2), ent w "rule" t3 (.int 0 t4), ent w "children" t5 (.ref l), ent w "token" t6 (.ref tk)]
noncomputable def NodeH (w : World) (h : Heap) (x l : Addr) (nm : Str) : Prop := ∃ t1 t2 t3 t4 t5 r, InsH h x 141 [ent w "name" t1 (.str nm t2), ent w "rule" t3 (.int r t4), ent w "children" t5 (.ref l)]

inductive TreeH (w : World) (h : Heap) : Value → T → Prop where
  | leaf {x l tk kind text} : LeafH w h x l tk kind → h.IsList l ([] : List Value).toArray → TokH w h tk kind text → (kind, text) ∈ leafTab → TreeH w h (.ref x) (.leaf kind text)
  | n0 {x l nm} : NodeH w h x l nm → h.IsList l ([] : List Value).toArray → nm.length ≤ 8 → TreeH w h (.ref x) (.n0 nm)
  | n1 {x l nm v a} : NodeH w h x l nm → h.IsList l [v].toArray → nm.length ≤ 8 → TreeH w h v a → TreeH w h (.ref x) (.n1 nm a)
  | n2 {x l nm v a v2 b} : NodeH w h x l nm → h.IsList l [v, v2].toArray → nm.length ≤ 8 → TreeH w h v a → TreeH w h v2 b → TreeH w h (.ref x) (.n2 nm a b)
  | n3 {x l nm v a v2 b v3 c} : NodeH w h x l nm → h.IsList l [v, v2, v3].toArray → nm.length ≤ 8 → TreeH w h v a → TreeH w h v2 b → TreeH w h v3 c → TreeH w h (.ref x) (.n3 nm a b c)
section
variable {w : World} {h h' : Heap} (k : ∀ b o, h.get? b = some o → h'.get? b = some o)
include k
theorem InsH.keeps {x C es} (z : InsH h x C es) : InsH h' x C es := let ⟨dx, n, a, b⟩ := z; ⟨dx, n, k _ _ a, k _ _ b⟩
theorem isList_keeps {l : Addr} {vs : Array Value} (z : h.IsList l vs) : h'.IsList l vs := let ⟨o, a, b⟩ := z; ⟨o, k _ _ a, b⟩
theorem TreeH.keeps {v t} (z : TreeH w h v t) : TreeH w h' v t := by
  induction z with
  | leaf a b c d =>
    obtain ⟨t1, t2, t3, t4, t5, t6, a⟩ := a
    obtain ⟨u1, u2, u3, u4, u5, u6, u7, v, c⟩ := c
    exact .leaf ⟨t1, t2, t3, t4, t5, t6, a.keeps k⟩ (isList_keeps k b) ⟨u1, u2, u3, u4, u5, u6, u7, v, c.keeps k⟩ d
  | n0 a b c => obtain ⟨t1, t2, t3, t4, t5, r, a⟩ := a; exact .n0 ⟨t1, t2, t3, t4, t5, r, a.keeps k⟩ (isList_keeps k b) c
  | n1 a b c _ i => obtain ⟨t1, t2, t3, t4, t5, r, a⟩ := a; exact .n1 ⟨t1, t2, t3, t4, t5, r, a.keeps k⟩ (isList_keeps k b) c i
  | n2 a b c _ _ i j => obtain ⟨t1, t2, t3, t4, t5, r, a⟩ := a; exact .n2 ⟨t1, t2, t3, t4, t5, r, a.keeps k⟩ (isList_keeps k b) c i j
  | n3 a b c _ _ _ i j l => obtain ⟨t1, t2, t3, t4, t5, r, a⟩ := a; exact .n3 ⟨t1, t2, t3, t4, t5, r, a.keeps k⟩ (isList_keeps k b) c i j l
end
/-- values and the trees that stand there -/
inductive Trees (w : World) (h : Heap) : List Value → List T → Prop where
  | nil : Trees w h [] []
  | cons {v t vs ts} : TreeH w h v t → Trees w h vs ts → Trees w h (v :: vs) (t :: ts)
theorem Trees.append {w h vs ts us ss} (a : Trees w h vs ts) (b : Trees w h us ss) : Trees w h (vs ++ us) (ts ++ ss) := by
  induction a with
  | nil => exact b
  | cons x _ i => exact .cons x i
theorem Trees.reverse {w h vs ts} (a : Trees w h vs ts) : Trees w h vs.reverse ts.reverse := by
  induction a with
  | nil => exact .nil
  | cons x _ i => rw [List.reverse_cons, List.reverse_cons]; exact i.append (.cons x .nil)
theorem Trees.length {w h vs ts} (a : Trees w h vs ts) : vs.length = ts.length := by
  induction a with
  | nil => rfl
  | cons _ _ i => simp [i]
theorem Trees.keeps {w h h' vs ts} (k : ∀ b o, h.get? b = some o → h'.get? b = some o) (a : Trees w h vs ts) : Trees w h' vs ts := by
  induction a with
  | nil => exact .nil
  | cons x _ i => exact .cons (x.keeps k) i
/-- what every node has: a name's place, a list of its children -/
theorem TreeH.kids {w h v t} (z : TreeH w h v t) : ∃ x l vs C es, v = .ref x ∧ h.IsList l vs.toArray ∧ Trees w h vs t.kids ∧ InsH h x C es ∧
    ((∃ kind text tk t1 t2 t3 t4 t5 t6, t = .leaf kind text ∧ C = 176 ∧ es = [ent w "name" t1 (.str kind t2), ent w "rule" t3 (.int 0 t4), ent w "children" t5 (.ref l), ent w "token" t6 (.ref tk)] ∧ TokH w h tk kind text ∧ (kind, text) ∈ leafTab) ∨
     (∃ nm t1 t2 t3 t4 t5 r, C = 141 ∧ es = [ent w "name" t1 (.str nm t2), ent w "rule" t3 (.int r t4), ent w "children" t5 (.ref l)] ∧ nm.length ≤ 8 ∧ ∀ st, T.step st t = st.take (st.length - t.kids.length) ++ [brack nm (st.drop (st.length - t.kids.length))])) := by
  cases z with
  | leaf a b c d => obtain ⟨t1, t2, t3, t4, t5, t6, a⟩ := a; exact ⟨_, _, _, _, _, rfl, b, .nil, a, .inl ⟨_, _, _, _, _, _, _, _, _, rfl, rfl, rfl, c, d⟩⟩
  | n0 a b c => obtain ⟨t1, t2, t3, t4, t5, r, a⟩ := a; exact ⟨_, _, _, _, _, rfl, b, .nil, a, .inr ⟨_, _, _, _, _, _, _, rfl, rfl, c, fun _ => rfl⟩⟩
  | n1 a b c d => obtain ⟨t1, t2, t3, t4, t5, r, a⟩ := a; exact ⟨_, _, _, _, _, rfl, b, .cons d .nil, a, .inr ⟨_, _, _, _, _, _, _, rfl, rfl, c, fun _ => rfl⟩⟩
  | n2 a b c d e => obtain ⟨t1, t2, t3, t4, t5, r, a⟩ := a; exact ⟨_, _, _, _, _, rfl, b, .cons d (.cons e .nil), a, .inr ⟨_, _, _, _, _, _, _, rfl, rfl, c, fun _ => rfl⟩⟩
  | n3 a b c d e f => obtain ⟨t1, t2, t3, t4, t5, r, a⟩ := a; exact ⟨_, _, _, _, _, rfl, b, .cons d (.cons e (.cons f .nil)), a, .inr ⟨_, _, _, _, _, _, _, rfl, rfl, c, fun _ => rfl⟩⟩

theorem InstAt.base {g h : Heap} {L x C dx : Addr} {m : Str → Option Value} {od : Obj} (F : Fr g L h m) (h1 : g.get? x = some (instObj C dx)) (h2 : g.get? dx = some od) : PySem.W.InstAt h x (instObj C dx) C (some od) :=
  ⟨F.keep _ _ h1, rfl, rfl, F.keep _ _ h2⟩
end Mine
end

local macro_rules | `(tactic| k_inst) => `(tactic| exact Mine.InstAt.base (by k_asm) (by assumption) (by assumption))

section
open PySem PySem.W PySem.Calls PySem.Spec PyProof.Rows
set_option maxRecDepth 100000
namespace Mine
local macro_rules | `(tactic| walk_at "exec While Compare cons nil") => `(tactic| walk_at "#s")
local macro_rules | `(tactic| walk_at "pyIter ref") => `(tactic| walk_at "#s")
local macro_rules | `(tactic| k_all) => `(tactic| assumption)
local macro_rules | `(tactic| walk_at "compareOp NotEq ref ref") => `(tactic| walk_at "#ne")
local macro_rules | `(tactic| walk_at "call builtin:list.pop") => `(tactic| walk_at "#pop")
local macro_rules | `(tactic| walk_at "call builtin:list.append") => `(tactic| walk_at "#app")
set_option hygiene false in
local macro_rules | `(tactic| walk_at "UnrEnd") => `(tactic| (k_dflt (first | (refine unr_cut (pre := [_, _]) (by k_asm) (by k_asm) (by k_all) (by k_all) ?_) | (refine unr_cut (pre := [_]) (by k_asm) (by k_asm) (by k_all) (by k_all) ?_) | (refine unr_cut (pre := []) (by k_asm) (by k_asm) (by k_all) (by k_all) ?_)); (try dsimp only [List.nil_append, List.cons_append])))

noncomputable def tnodes (ts : List T) : Nat := (ts.map T.nodes).sum
theorem T.nodes_pos (t : T) : 1 ≤ t.nodes := by cases t <;> simp only [T.nodes] <;> omega
theorem len_le_nodes : ∀ ts : List T, ts.length ≤ tnodes ts
  | [] => Nat.le_refl _
  | t :: r => by have := t.nodes_pos; have := len_le_nodes r; simp only [tnodes, List.length_cons, List.map_cons, List.sum_cons] at *; omega

theorem gone {g h h' : Heap} {L a : Addr} {o : Obj} {news : List (Addr × Obj)} {H : List Addr} (hg : ∀ b o, ¬ b ∈ H → h.get? b = some o → g.get? b = some o) (N : News g L h' news) (hm : (a, o) ∈ news) (hn : ¬ a ∈ H := by simp) : h.get? a = none := by
  cases hq : h.get? a with
  | none => rfl
  | some x => have := (N _ hm).2.2; rw [hg _ _ hn hq] at this; cases this
/-- between the turns of postorder's loop -/
noncomputable def JP (w : World) (k : Heap) (D : List T) (n : Nat) (m : Str → Option Value) (news : List (Addr × Obj)) : Prop :=
  ∃ (LN FD : Addr) (eL eF : Nat) (rv fv : List Value) (ts fs : List T),
    m (Str.ofString "line") = some (.ref LN) ∧ m (Str.ofString "found") = some (.ref FD) ∧
    news = [(LN, W.listOf rv.reverse.toArray eL), (FD, W.listOf fv.toArray eF)] ∧
    Trees w k rv ts ∧ Trees w k fv fs ∧ fs ++ ts.flatMap T.rpre = D ∧ n = tnodes ts ∧ fv.length + n ≤ 1000000 ∧ (@Ne Nat FD LN)
theorem JP.start {w : World} {k g h : Heap} {L LN FD : Addr} {m : Str → Option Value} {v : Value} {t : T} {eL eF : Nat} (_F : Fr g L h m) (N : News g L h [(LN, W.listOf #[v] eL), (FD, W.listOf #[] eF)])
    (h1 : m (Str.ofString "line") = some (.ref LN)) (h2 : m (Str.ofString "found") = some (.ref FD)) (hd : TreeH w k v t) (hsz : t.nodes ≤ 1000000) (h3 : @Ne Nat FD LN) : ∃ news, News g L h news ∧ JP w k t.rpre t.nodes m news :=
  ⟨_, N, LN, FD, eL, eF, [v], [], [t], [], h1, h2, rfl, .cons hd .nil, .nil, by simp, by simp [tnodes], by simpa using hsz, h3⟩
theorem news_sub {g h : Heap} {L : Addr} {news news' : List (Addr × Obj)} (N : News g L h news) (k : ∀ p ∈ news', p ∈ news) : News g L h news' := fun p hp => N p (k p hp)
theorem map_two {m : Str → Option Value} {a b : Str} {va vb : Value} (h1 : m a = some va) (h2 : m b = some vb) : m = fun y => if y = a then some va else if y = b then some vb else m y := by
  funext y; by_cases q : y = a
  · rw [if_pos q, q, h1]
  · rw [if_neg q]; by_cases q2 : y = b
    · rw [if_pos q2, q2, h2]
    · rw [if_neg q2]
/-- between the turns of postorder's inner loop -/
noncomputable def JK (g : Heap) (LN FD : Addr) (rv fv vs : List Value) (eF : Nat) (i : Nat) (m : Str → Option Value) (nx : List (Addr × Obj)) : Prop :=
  ∃ e, m (Str.ofString "line") = some (.ref LN) ∧ m (Str.ofString "found") = some (.ref FD) ∧ nx = [(LN, W.listOf (rv.reverse ++ vs.take i).toArray e), (FD, W.listOf fv.toArray eF)]
/-- what postorder hands back -/
noncomputable abbrev PostR (w : World) (k : Heap) (t : T) (h h' : Heap) (r : Value) : Prop := ∃ R e vs, r = .ref R ∧ h.get? R = none ∧ h'.get? R = some (W.listOf vs.toArray e) ∧ Trees w k vs t.post

set_option maxHeartbeats 4000000 in
theorem post_ok (w : World) (k : Heap) (v : Value) (t : T) (hsz : t.nodes ≤ 900000) :
    Calls w 185 [] [v] 4 20 (fun h => TreeH w k v t ∧ ∀ b o, k.get? b = some o → h.get? b = some o) (PostR w k t) := by
  w_top off
  unfold Calls
  k_fill
  intro p loose mean mg mb dp un gd cn cs L a ccd cl outer A₀ base h₀ m s Q E B F X T hk0 hdp hun hhide hpre hret
  have N : News h₀ L s.heap [] := News.nil
  k_dflt (refine' enterH [] ?k1 ?k2 ?k3 ?k4 ?k5 ?kA ?kF ?kK ?k6 ?k7 ?k8 ?k9 ?kB ?_ ?c2 ?c3 ?c4 ?c5; (case kA => exact rfl); (case kF => exact rfl); (case kK => assumption); (case k1 => k_asm); (case k2 => k_asm); (case k3 => k_asm); (case k4 => k_asm); (case k5 => k_asm); (case k6 => k_is); (case k7 => k_is); (case k8 => (dsimp only [ktrTop]; omega)); (case k9 => exact BindsTo.of_eq rfl); (case c5 => decide); (case kB => exact locs rfl); (case c2 => exact rfl); (case c3 => exact rfl); (case c4 => exact rfl))
  k_whole
  intro g L' h' tk F' N' B' X' T' hg hlt
  obtain ⟨hd, hk1⟩ := hpre
  have kg : ∀ b o, k.get? b = some o → g.get? b = some o := fun b o e => hg b o (by simp) (hk1 b o e)
  clear N F X T B
  (try dsimp only)
  (try k_fold)
  k_steps
  unfold Stop
  rename News _ _ _ _ => N1
  rename Fr _ _ _ _ => F1
  obtain ⟨news0, N2, hJ⟩ := JP.start F1 N1 rfl rfl hd (by omega) (neN (by omega))
  refine While_inv (JP w k t.rpre) (n₀ := t.nodes) F1 N2 hJ ?turn PassesOwn.never
  clear N1 N2 hJ news0 F1
  rintro n m₁ news₁ h₁ tk₁ F₁ N₁ ⟨LN, FD, eL, eF, rv, fv, ts, fs, hm1, hm2, rfl, hT, hP, hD, hn, hln2, hne⟩
  have e1 : m₁ = fun y => if y = Str.ofString "line" then some (.ref LN) else if y = Str.ofString "found" then some (.ref FD) else m₁ y := by
    funext y; by_cases q : y = Str.ofString "line"
    · rw [if_pos q, q, hm1]
    · rw [if_neg q]; by_cases q2 : y = Str.ofString "found"
      · rw [if_pos q2, q2, hm2]
      · rw [if_neg q2]
  rw [e1] at F₁
  clear e1
  cases hT with
  | nil =>
    k_steps
    rename News _ _ _ _ => N9
    simp only [krv_pick] at N9
    have n9 := N9 _ (.head _)
    exact hret _ _ _ (fun b o hb e => Fr.keep (by assumption) b o (hg b o hb e)) ⟨_, _, fv.reverse, rfl, gone hg N9 (.head _), n9.1, by simp only [List.flatMap_nil, List.append_nil] at hD; rw [hD] at hP; exact hP.reverse⟩
  | cons ht hT' =>
    have hz := hT'.length
    rename_i t' rv' ts'
    have hz2 := len_le_nodes ts'
    have hz3 := t'.nodes_pos
    obtain ⟨x, l, vs, C, es, rfl, ⟨lo, hlo, hlc, hld⟩, hk, ⟨dx, nx, hx, hdx⟩, hcase⟩ := ht.kids
    have hz5 := hk.length
    replace hlo := kg _ _ hlo
    replace hx := kg _ _ hx
    replace hdx := kg _ _ hdx
    have hz6 := len_le_nodes t'.kids
    have hz7 := t'.nodes_kids
    simp only [tnodes, List.map_cons, List.sum_cons] at hn hz2 hz6
    rw [List.reverse_cons] at N₁
    rcases hcase with ⟨kind, text, tk, t1, t2, t3, t4, t5, t6, _, rfl, rfl, htk, hok⟩ | ⟨nm, t1, t2, t3, t4, t5, r, rfl, rfl, hnm, hst⟩
    all_goals (
      k_steps
      unfold Stop
      rename News _ _ _ _ => N1
      rename Fr _ _ _ _ => F1
      (try simp only [List.push_toArray] at N1)
      refine loop_any (vs := vs) (lo := lo) (JK g LN FD rv' (fv ++ [Value.ref x]) vs (eF + 1)) rfl hlc hld F1 (news_sub N1 (news' := [(LN, W.listOf (rv'.reverse ++ vs.take 0).toArray (eL + 1)), (FD, W.listOf (fv ++ [Value.ref x]).toArray (eF + 1))]) (by simp)) ⟨_, rfl, rfl, rfl⟩ (fun _ _ _ _ => .inl hlo) ?turn2 ?done2
      case turn2 =>
        clear N1 F1
        rintro i v m₂ nx2 h₂ tk₂ I oI hv ⟨e2, h1, h2, rfl⟩ hoff hcI F₂ N₂
        have hI1 : @Ne Nat LN I := hoff _ (.head _)
        have hI2 : @Ne Nat FD I := hoff _ (.tail _ (.head _))
        have hi9 := List.getElem?_eq_some_iff.mp hv
        obtain ⟨hi9, _⟩ := hi9
        rw [map_two h1 h2] at F₂
        (try k_fold)
        k_steps
        rename News _ _ _ _ => N1
        refine ⟨e2 + 1, rfl, rfl, ?_⟩
        rw [List.take_add_one, hv]; simp
      case done2 =>
        clear N1 F1
        rintro m₂ nx2 h₂ tk₂ ⟨e2, h1, h2, rfl⟩ F₂ N₂
        rw [List.take_length] at N₂
        k_steps
        refine WhileStep.intro (n' := tnodes (t'.kids.reverse ++ ts')) (by assumption) (by assumption) ?_ ⟨LN, FD, e2, eF + 1, vs.reverse ++ rv', fv ++ [Value.ref x], t'.kids.reverse ++ ts', fs ++ [t'], h1, h2, ?_, hk.reverse.append hT', hP.append (.cons ht .nil), ?_, rfl, ?_, hne⟩
        · have a1 : tnodes (t'.kids.reverse ++ ts') = (t'.kids.map T.nodes).sum + (ts'.map T.nodes).sum := by simp [tnodes]
          omega
        · simp
        · rw [← hD, List.flatMap_cons, t'.rpre_eq]; simp
        · have a1 : tnodes (t'.kids.reverse ++ ts') = (t'.kids.map T.nodes).sum + (ts'.map T.nodes).sum := by simp [tnodes]
          have a2 : (fv ++ [Value.ref x]).length = fv.length + 1 := by simp
          omega)
end Mine
end

section
open PySem PySem.W PySem.Calls PySem.Spec PyProof.Rows
set_option maxRecDepth 100000
namespace Mine
local macro_rules | `(tactic| walk_at "call ref") => do `(tactic| (k_here; $(← Mine.u0 (← `(esc_ok _ _ _ _ _ ?hm)) (← `(trivial)) (← `(tactic| ((case hm => decide +kernel))))); walk_at "#g"))

set_option maxHeartbeats 4000000 in
theorem showleaf_ok (w : World) (x : Addr) (kind text : Str) (hm : (kind, text) ∈ leafTab) :
    Calls w 206 [] [.ref x] 7 30 (fun h => TokH w h x kind text) (fun _ _ r => ∃ t, r = .str (leafShow kind text) t) := by
  w_top off
  unfold Calls
  k_fill
  intro p loose mean mg mb dp un gd cn cs L a ccd cl outer A₀ base h₀ m s Q E B F X T hk0 hdp hun hhide hpre hret
  have N : News h₀ L s.heap [] := News.nil
  k_dflt (refine' enterH [] ?k1 ?k2 ?k3 ?k4 ?k5 ?kA ?kF ?kK ?k6 ?k7 ?k8 ?k9 ?kB ?_ ?c2 ?c3 ?c4 ?c5; (case kA => exact rfl); (case kF => exact rfl); (case kK => assumption); (case k1 => k_asm); (case k2 => k_asm); (case k3 => k_asm); (case k4 => k_asm); (case k5 => k_asm); (case k6 => k_is); (case k7 => k_is); (case k8 => (dsimp only [ktrTop]; omega)); (case k9 => exact BindsTo.of_eq rfl); (case c5 => decide); (case kB => exact locs rfl); (case c2 => exact rfl); (case c3 => exact rfl); (case c4 => exact rfl))
  k_whole
  intro g L' h' tk F' N' B' X' T' hg hlt
  obtain ⟨t1, t2, t3, t4, t5, t6, t7, v, hd⟩ := hpre
  have hd := hd.keeps fun b o e => hg b o (by simp) e
  obtain ⟨dx, nx, hx, hdx⟩ := hd
  clear N F X T B
  (try dsimp only)
  (try k_fold)
  simp only [leafTab, List.mem_cons, Prod.mk.injEq, List.not_mem_nil, or_false] at hm
  rcases hm with ⟨rfl, rfl⟩ | ⟨rfl, rfl⟩ | ⟨rfl, rfl⟩ | ⟨rfl, rfl⟩ | ⟨rfl, rfl⟩ | ⟨rfl, rfl⟩
  all_goals (
    k_steps
    exact hret _ _ _ (fun b o hb e => Fr.keep (by assumption) b o (hg b o hb e)) ⟨_, congrArg (Value.str · _) (by decide +kernel)⟩)
end Mine
end

section
open PySem PySem.W PySem.Calls PySem.Spec PyProof.Rows
set_option maxRecDepth 100000
namespace Mine
/-- the stack holds each node's children when it comes -/
noncomputable def Fits : Nat → List T → Prop
  | _, [] => True
  | n, t :: r => t.kids.length ≤ n ∧ Fits (n + 1 - t.kids.length) r
theorem fits_post : ∀ (t : T) (n : Nat) (r : List T), Fits (n + 1) r → Fits n (t.post ++ r)
  | .leaf k x, n, r, h => ⟨Nat.zero_le _, h⟩
  | .n0 nm, n, r, h => ⟨Nat.zero_le _, h⟩
  | .n1 nm a, n, r, h => by
    rw [T.post_eq, List.append_assoc]
    simp only [T.kids, List.flatMap_cons, List.flatMap_nil, List.append_nil]
    exact fits_post a n _ ⟨by simp [T.kids], by simpa [T.kids] using h⟩
  | .n2 nm a b, n, r, h => by
    rw [T.post_eq, List.append_assoc]
    simp only [T.kids, List.flatMap_cons, List.flatMap_nil, List.append_nil, List.append_assoc]
    exact fits_post a n _ (fits_post b _ _ ⟨by simp [T.kids], by simpa [T.kids] using h⟩)
  | .n3 nm a b c, n, r, h => by
    rw [T.post_eq, List.append_assoc]
    simp only [T.kids, List.flatMap_cons, List.flatMap_nil, List.append_nil, List.append_assoc]
    exact fits_post a n _ (fits_post b _ _ (fits_post c _ _ ⟨by simp [T.kids], by simpa [T.kids] using h⟩))
theorem T.step_len (st : List Str) (t : T) (h : t.kids.length ≤ st.length) : (T.step st t).length = st.length + 1 - t.kids.length := by
  cases t <;> simp only [T.kids, List.length_cons, List.length_nil] at h <;> simp [T.step, T.kids] <;> omega
theorem fits_at : ∀ (l : List T) (st : List Str) (i : Nat) (t' : T), Fits st.length l → l[i]? = some t' → t'.kids.length ≤ (T.run st (l.take i)).length
  | [], _, _, _, _, h => by simp at h
  | t :: r, st, 0, t', f, h => by
    simp at h; subst h
    exact f.1
  | t :: r, st, i + 1, t', f, h => by
    simp only [List.getElem?_cons_succ] at h
    have := fits_at r (T.step st t) i t' (by rw [T.step_len st t f.1]; exact f.2) h
    exact this
theorem join_len (x : Str) : ∀ l : List Str, (Str.join x l).length ≤ tot l + l.length * x.length
  | [] => by simp [tot]; rfl
  | [a] => by show a.length ≤ _; simp [tot]
  | a :: b :: r => by
    have := join_len x (b :: r)
    rw [join_cons_cons, Str.length_append, Str.length_append]
    simp only [tot_cons, List.length_cons] at this ⊢
    have e : (r.length + 1 + 1) * x.length = (r.length + 1) * x.length + x.length := by rw [Nat.add_mul, Nat.one_mul]
    omega
theorem brack_len (nm : Str) (l : List Str) (h : nm.length ≤ 8) (hl : l.length ≤ 3) : (brack nm l).length ≤ tot l + 16 := by
  unfold brack
  rw [Str.length_append, Str.length_append]
  have := join_len sp (nm :: l)
  have e1 : sp.length = 1 := rfl
  have e2 : (Str.ofString "(").length = 1 := rfl
  have e3 : (Str.ofString ")").length = 1 := rfl
  rw [e1] at this
  simp only [tot_cons, List.length_cons] at this
  omega
theorem leafShow_len (k x : Str) (h : (k, x) ∈ leafTab) : (leafShow k x).length ≤ 16 := by
  simp only [leafTab, List.mem_cons, Prod.mk.injEq, List.not_mem_nil, or_false] at h
  rcases h with ⟨rfl, rfl⟩ | ⟨rfl, rfl⟩ | ⟨rfl, rfl⟩ | ⟨rfl, rfl⟩ | ⟨rfl, rfl⟩ | ⟨rfl, rfl⟩ <;> decide +kernel
theorem Trees.get {w : World} {h : Heap} : ∀ {vs : List Value} {ts : List T} (_ : Trees w h vs ts) {i : Nat} {v : Value}, vs[i]? = some v → ∃ t', ts[i]? = some t' ∧ TreeH w h v t'
  | _, _, .nil, _, _, e => by simp at e
  | _, _, .cons a _, 0, v, e => by simp at e; subst e; exact ⟨_, rfl, a⟩
  | _, _, .cons _ b, i + 1, v, e => by simp only [List.getElem?_cons_succ] at e ⊢; exact b.get e
/-- small names, small leaves -/
theorem T.good {w h v t} (z : TreeH w h v t) : (∃ k x, t = .leaf k x ∧ (k, x) ∈ leafTab) ∨ ∃ nm, nm.length ≤ 8 ∧ t.kids.length ≤ 3 ∧ ∀ st, T.step st t = st.take (st.length - t.kids.length) ++ [brack nm (st.drop (st.length - t.kids.length))] := by
  cases z with
  | leaf _ _ _ d => exact .inl ⟨_, _, rfl, d⟩
  | n0 _ _ c => exact .inr ⟨_, c, by simp [T.kids], fun _ => rfl⟩
  | n1 _ _ c _ => exact .inr ⟨_, c, by simp [T.kids], fun _ => rfl⟩
  | n2 _ _ c _ _ => exact .inr ⟨_, c, by simp [T.kids], fun _ => rfl⟩
  | n3 _ _ c _ _ _ => exact .inr ⟨_, c, by simp [T.kids], fun _ => rfl⟩
theorem tot_take_drop (l : List Str) (n : Nat) : tot (l.take n) + tot (l.drop n) = tot l := by
  rw [← tot_append, List.take_append_drop]
theorem run_tot {w h} : ∀ (ts : List T) (vs : List Value) (st : List Str), Trees w h vs ts → tot (T.run st ts) ≤ tot st + 20 * ts.length
  | [], _, st, _ => by simp [T.run]
  | t :: r, _, st, .cons a b => by
    have ih := run_tot r _ (T.step st t) b
    have e : T.run st (t :: r) = T.run (T.step st t) r := rfl
    rw [e]
    have : tot (T.step st t) ≤ tot st + 20 := by
      rcases T.good a with ⟨k, x, rfl, hm⟩ | ⟨nm, h1, h2, h3⟩
      · have := leafShow_len k x hm
        show tot (st ++ [leafShow k x]) ≤ _
        rw [tot_append, tot_cons]; simp only [tot, List.map_nil, List.sum_nil]; omega
      · rw [h3, tot_append, tot_cons]
        have h4 := tot_take_drop st (st.length - t.kids.length)
        have h5 := brack_len nm (st.drop (st.length - t.kids.length)) h1 (by rw [List.length_drop]; omega)
        have h6 : tot [] = 0 := rfl
        omega
    simp only [List.length_cons]
    omega
theorem run_len {w h} : ∀ (ts : List T) (vs : List Value) (st : List Str), Trees w h vs ts → (T.run st ts).length ≤ st.length + ts.length
  | [], _, st, _ => by simp [T.run]
  | t :: r, _, st, .cons a b => by
    have ih := run_len r _ (T.step st t) b
    have e : T.run st (t :: r) = T.run (T.step st t) r := rfl
    rw [e]
    have : (T.step st t).length ≤ st.length + 1 := by
      rcases T.good a with ⟨k, x, rfl, hm⟩ | ⟨nm, h1, h2, h3⟩
      · show (st ++ [leafShow k x]).length ≤ _
        simp
      · rw [h3]; simp only [List.length_append, List.length_take, List.length_cons, List.length_nil]; omega
    simp only [List.length_cons]
    omega
theorem Trees.take {w h} : ∀ {vs ts} (_ : Trees w h vs ts) (i : Nat), Trees w h (vs.take i) (ts.take i)
  | _, _, .nil, i => by simp; exact .nil
  | _, _, .cons a b, 0 => .nil
  | _, _, .cons a b, i + 1 => .cons a (b.take i)
theorem run_take (t : T) (i : Nat) (t' : T) (h : t.post[i]? = some t') : T.run [] (t.post.take (i + 1)) = T.step (T.run [] (t.post.take i)) t' := by
  rw [List.take_add_one, h]
  unfold T.run
  rw [List.foldl_append]
  rfl
theorem strs_append {a b : List Value} {x y : List Str} (h : StrsAre a x) (k : StrsAre b y) : StrsAre (a ++ b) (x ++ y) := by
  induction h with
  | nil => exact k
  | cons _ _ _ ih => exact .cons _ _ ih
theorem strs_split : ∀ {dv : List Value} {st : List Str} (_ : StrsAre dv st) (n : Nat), StrsAre (dv.take n) (st.take n) ∧ StrsAre (dv.drop n) (st.drop n)
  | _, _, .nil, n => by simp; exact .nil
  | _, _, .cons x t h, 0 => ⟨.nil, .cons x t h⟩
  | _, _, .cons x t h, n + 1 => ⟨.cons x t (strs_split h n).1, (strs_split h n).2⟩
theorem pick_to {pv kv : List Value} {x : Int} (h : x = (pv.length : Int)) : (slicePick (pv ++ kv).toArray none (some x) none).toList = pv := by
  subst h
  have e : sliceBounds none (some (pv.length : Int)) none (pv ++ kv).toArray.size = (((0 : Nat) : Int), ((pv.length : Nat) : Int), 1) := by
    simp only [sliceBounds, Option.getD_none, show (1 : Int) > 0 by decide, if_true, if_neg (show ¬ ((pv.length : Int) < 0) by omega)]
    congr 1
    congr 1
    simp only [List.size_toArray, List.length_append]
    omega
  rw [kmk_pick_nat _ e]
  simp
theorem pick_from {pv kv : List Value} {x : Int} (h : x = (pv.length : Int)) : (slicePick (pv ++ kv).toArray (some x) none none).toList = kv := by
  subst h
  have e : sliceBounds (some (pv.length : Int)) none none (pv ++ kv).toArray.size = (((pv.length : Nat) : Int), (((pv ++ kv).length : Nat) : Int), 1) := by
    simp only [sliceBounds, Option.getD_none, show (1 : Int) > 0 by decide, if_true, if_neg (show ¬ ((pv.length : Int) < 0) by omega)]
    congr 1
    · simp only [List.size_toArray, List.length_append]; omega
  rw [kmk_pick_nat _ e]
  simp
theorem addl {a b : List Value} {x y : Array Value} (h : x = a.toArray) (k : y = b.toArray) : x.toList ++ y.toList = a ++ b := by subst h; subst k; rfl
theorem tok_keeps {w : World} {h h' : Heap} {x : Addr} {k t : Str} (z : TokH w h x k t) (g : ∀ b o, h.get? b = some o → h'.get? b = some o) : TokH w h' x k t := by
  obtain ⟨u1, u2, u3, u4, u5, u6, u7, v, c⟩ := z
  exact ⟨u1, u2, u3, u4, u5, u6, u7, v, c.keeps g⟩
theorem sp_len : (Str.ofString " ").length = 1 := rfl
theorem par_len1 : (Str.ofString "(").length = 1 := rfl
theorem par_len2 : (Str.ofString ")").length = 1 := rfl
theorem news_sub2 {g h : Heap} {L : Addr} {news news' : List (Addr × Obj)} (N : News g L h news) (k : ∀ p ∈ news', p ∈ news) : News g L h news' := fun p hp => N p (k p hp)
theorem map_one {m : Str → Option Value} {a : Str} {va : Value} (h1 : m a = some va) : m = fun y => if y = a then some va else m y := by
  funext y; by_cases q : y = a
  · rw [if_pos q, q, h1]
  · rw [if_neg q]
section
variable {prog : Program} {w : World} {A : Around} {E : Value → Shared → Prop} {s : Shared} {L : Addr} {m : Str → Option Value} {g : Heap} {Q : Value → Shared → Prop}
theorem led_item {D : Addr} {value slice : Expr} {l : List Value} {k : Int} {u : Tok} {v : Value} (y' : s.heap.IsList D l.toArray) (h0 : 0 ≤ k) (hf : k < 2 ^ 63) (hx : l[k.toNat]? = some v) (h : Q v s)
    (hs : subscripted slice false (.ref D) (.int k u) = operate [.ref D, .int k u] (getItem (.ref D) (.int k u)) := by with_unfolding_all rfl) :
    wpAny (model prog w) A (subscriptTail value slice (.ref D) (.int k u)) Q E s :=
  tail_any y'.typeIs slot_list_getitem.lookup (wpAny_getItem_list y' h0 hf (by simpa using hx) h) hs
end
section
variable {w : World} {f : Addr} {vs : List Value} {dd uu : Nat} {Pre : Heap → Prop} {Post : Heap → Heap → Value → Prop}
  {p : Program} {loose : List Str} {mean : ExcName → Option Value} {mg mb : Str → Option Value}
  {dp un : Nat} {gd : Option (List Code)} {cn : Str} {cs : Scope} {L a : Addr} {ccd : Value} {cl : List (Str × Addr)} {outer : List Env} {A₀ : Around} {base h₀ : Heap} {m : Str → Option Value} {s : Shared}
  {Q E : Value → Shared → Prop} {news : List (Addr × Obj)}
theorem led_new {g h h' : Heap} {m m' : Str → Option Value} {R : Addr} {o : Obj} (F : Fr g L h m) (N : News g L h news) (N' : News g L h' news) (h0 : h.get? R = none) (h1 : h'.get? R = some o) : News g L h' ((R, o) :: news) ∧ ∀ p ∈ news, p.1 ≠ R := by
  refine ⟨fun q hq => ?_, fun q hq e => ?_⟩
  · rcases List.mem_cons.mp hq with rfl | hq
    · refine ⟨h1, fun e => ?_, ?_⟩
      · obtain ⟨oL, _, _, hL, _⟩ := F.ns
        dsimp only at e
        rw [e, hL] at h0; cases h0
      · cases hz : g.get? R with
        | none => rfl
        | some z => rw [F.keep _ _ hz] at h0; cases h0
    · exact N' _ hq
  · rw [← e, (N q hq).1] at h0; cases h0
theorem Calls.useR (C : Calls w f [] vs dd uu Pre Post) (B : Below A₀ base outer h₀) (F : Fr h₀ L s.heap m) (X : (mk.heap_1 w.params).In h₀) (N : News h₀ L s.heap news) (T : Top p loose mean mg mb h₀) (hk : cs.kind = .function)
    (hd' : dp + dd < recursionLimit) (hu : un + uu < cLine) (hp : Pre s.heap)
    (ret : ∀ r h' tk', Fr h₀ L h' m → News h₀ L h' news → (∀ R o, s.heap.get? R = none → h'.get? R = some o → News h₀ L h' ((R, o) :: news) ∧ ∀ p ∈ news, p.1 ≠ R) → Post s.heap h' r → Q r { s with heap := h', toks := tk' }) :
    wpAny (model PySem.Challenge.rw_qd0055_01.row.prog w) (ktrTop dp un gd cn cs L a ccd cl outer) (call (.ref f) vs) Q E s :=
  Calls.use0 C B F X N T hk hd' hu hp fun r h' tk' F' N' _ hpost => ret r h' tk' F' N' (fun R o h0 h1 => led_new (m' := m) F N N' h0 h1) hpost
end
end Mine
end

local macro_rules | `(tactic| walk_at "#add") => `(tactic| (k_here; (with_reducible show wpAny _ _ (binaryOp _ (Value.ref _) (Value.ref _)) _ _ _); k_dflt (refine' kmk_add_lit ?F ?N ?a ?b ?e ?_ ?z; (case F => k_asm); (case N => k_asm); (case a => walk_at "#n"); (case b => walk_at "#n"); (case e => exact Mine.addl rfl rfl); (case z => walk_at "#x")); walk_at "#l"))
local macro_rules | `(tactic| walk_at "#lst") => `(tactic| (k_here; (with_reducible show wpAny _ _ (call (Value.type _) [Value.ref _]) _ _ _); k_dflt (refine' kup_listOf ?F ?N ?b ?e ?_ ?z; (case F => k_asm); (case N => k_asm); (case b => k_mem); (case e => exact rfl); (case z => walk_at "#x")); walk_at "#lc"))

section
open PySem PySem.W PySem.Calls PySem.Spec PyProof.Rows
set_option maxRecDepth 100000
namespace Mine
local macro_rules | `(tactic| walk_at "pyIter ref") => `(tactic| walk_at "#s")
local macro_rules | `(tactic| walk_at "UnrEnd") => `(tactic| walk_at "#s")
local macro_rules | `(tactic| walk_at "call ref") => do `(tactic| (k_here; (k_dflt (refine' Calls.useR (post_ok _ _ _ _ ?hsz) ?k1 ?k2 ?k3 ?k4 ?k5 ?k6 ?k7 ?k8 ?hpre ?_; $(← Mine.kW); (case hpre => exact ⟨by assumption, Fr.keep (by k_asm)⟩); (case hsz => omega))); walk_at "#gr"))
local macro_rules | `(tactic| walk_at "call ref") => do `(tactic| (k_here; (with_reducible show wpAny _ _ (call (Value.ref 206) _) _ _ _); $(← Mine.u0 (← `(showleaf_ok _ _ _ _ ?hm)) (← `(?hpre)) (← `(tactic| ((case hm => assumption); (case hpre => (refine tok_keeps ?_ (Fr.keep (by k_asm)); assumption)))))); walk_at "#g"))
local macro_rules | `(tactic| walk_at "call builtin:list.append") => `(tactic| walk_at "#app")
set_option hygiene false in
local macro_rules | `(tactic| walk_at "call builtin:len") => `(tactic| (k_here; (with_reducible show wpAny _ _ (call _ [Value.ref _]) _ _ _); k_dflt (first | (refine KM.len_K (by k_asm) (by k_mem) rfl ?_ ?_; (simp only [List.size_toArray, List.length_append]; omega)) | (refine sq_len (t := false) (by k_asm) (by assumption) rfl ?_ ?_; (simp only [List.size_toArray]; omega)))))
local macro_rules | `(tactic| walk_at "subscriptTail Name Slice ref ref") => `(tactic| (k_here; (with_reducible show wpAny _ _ (subscriptTail _ (PySem.Expr.Slice _ _ none _) (Value.ref _) (Value.ref _)) _ _ _); k_dflt (refine' kmk_slice_lit ?F ?N ?l ?p ?q ?e ?_ ?s ?t ?z; (case F => k_asm); (case N => k_asm); (case l => walk_at "#n"); (case p => kmk_part); (case q => kmk_part); (case e => first | exact pick_to (by simp only [List.size_toArray, List.length_append]; omega) | exact pick_from (by simp only [List.size_toArray, List.length_append]; omega)); (case s => with_unfolding_all rfl); (case t => kmk_pure); (case z => (simp only [List.size_toArray, List.length_append]; rw [sizeLine_eq]; omega))); walk_at "#l"))
local macro_rules | `(tactic| walk_at "binaryOp Add ref ref") => `(tactic| walk_at "#add")
set_option hygiene false in
local macro_rules | `(tactic| walk_at "call builtin:str.join") => `(tactic| (k_here; k_dflt (refine joinS (by walk_at "#n") (StrsAre.cons _ _ (by assumption)) ?_ ?_; (simp only [tot_cons, List.length_cons, sp_len]; omega)); intro _ _))
set_option hygiene false in
local macro_rules | `(tactic| walk_at "binaryOp Add str str") => `(tactic| (k_here; (with_reducible show wpAny _ _ (binaryOp Operator.Add (Value.str _ _) (Value.str _ _)) _ _ _); k_dflt (refine addS ?_ ?_; (simp only [Str.length_append, par_len1, par_len2]; omega)); intro _ _))
set_option hygiene false in
local macro_rules | `(tactic| walk_at "subscriptTail") => `(tactic| (k_here; (with_reducible show wpAny _ _ (subscriptTail _ _ (Value.ref _) (Value.int _ _)) _ _ _); k_dflt (refine led_item (by walk_at "#n") (by decide) (by decide) (by rfl) ?_)))

/-- between the turns of show_tree's loop -/
noncomputable def JS (R : Addr) (eR : Nat) (vs : List Value) (t : T) (i : Nat) (m : Str → Option Value) (nx : List (Addr × Obj)) : Prop :=
  ∃ (D : Addr) (dv : List Value) (e : Nat), m (Str.ofString "done") = some (.ref D) ∧ nx = [(D, W.listOf dv.toArray e), (R, W.listOf vs.toArray eR)] ∧ StrsAre dv (T.run [] (t.post.take i)) ∧ @Ne Nat D R
theorem JS.turn {g h' : Heap} {L I D R : Addr} {it : Obj} {s₁ : Shared} {tk : Nat} {m' : Str → Option Value} {all : List (Addr × Obj)} {dv vs : List Value} {e eR : Nat} {t : T} {i : Nat} (F : Fr g L h' m') (N : News g L h' all)
    (hI : (I, it) ∈ all) (hD : (D, W.listOf dv.toArray e) ∈ all) (hR : (R, W.listOf vs.toArray eR) ∈ all) (hm : m' (Str.ofString "done") = some (.ref D)) (hS : StrsAre dv (T.run [] (t.post.take (i + 1)))) (h1 : @Ne Nat D R) (h2 : @Ne Nat D I) (h3 : @Ne Nat R I) :
    UnrEnd g L s₁ I it (JS R eR vs t (i + 1)) { s₁ with heap := h', toks := tk } :=
  UnrEnd.intro F N [(D, W.listOf dv.toArray e), (R, W.listOf vs.toArray eR)] (fun p hp => by
    rcases List.mem_cons.mp hp with rfl | hp
    · exact hI
    · rcases List.mem_cons.mp hp with rfl | hp
      · exact hD
      · obtain rfl := List.mem_singleton.mp hp
        exact hR) (fun p hp => by
    rcases List.mem_cons.mp hp with rfl | hp
    · exact h2
    · obtain rfl := List.mem_singleton.mp hp
      exact h3) ⟨D, dv, e, hm, rfl, hS, h1⟩

set_option maxHeartbeats 8000000 in
theorem showtree_ok (w : World) (v : Value) (t : T) (hsz : t.nodes ≤ 400000) :
    Calls w 213 [] [v] 10 50 (fun h => TreeH w h v t) (fun _ _ r => ∃ u, r = .str t.show u) := by
  w_top off
  unfold Calls
  k_fill
  intro p loose mean mg mb dp un gd cn cs L a ccd cl outer A₀ base h₀ m s Q E B F X T hk0 hdp hun hhide hpre hret
  have N : News h₀ L s.heap [] := News.nil
  k_dflt (refine' enterH [] ?k1 ?k2 ?k3 ?k4 ?k5 ?kA ?kF ?kK ?k6 ?k7 ?k8 ?k9 ?kB ?_ ?c2 ?c3 ?c4 ?c5; (case kA => exact rfl); (case kF => exact rfl); (case kK => assumption); (case k1 => k_asm); (case k2 => k_asm); (case k3 => k_asm); (case k4 => k_asm); (case k5 => k_asm); (case k6 => k_is); (case k7 => k_is); (case k8 => (dsimp only [ktrTop]; omega)); (case k9 => exact BindsTo.of_eq rfl); (case c5 => decide); (case kB => exact locs rfl); (case c2 => exact rfl); (case c3 => exact rfl); (case c4 => exact rfl))
  k_whole
  intro g L' h' tk F' N' B' X' T' hg hlt
  have hd : TreeH w g v t := hpre.keeps fun b o e => hg b o (by simp) e
  clear N F X T B
  (try dsimp only)
  (try k_fold)
  k_steps
  unfold Stop
  rename News _ _ _ _ => N1
  rename Fr _ _ _ _ => F1
  rename Trees _ _ _ _ => hT
  rename_i R' eR vs l1
  have hlen := hT.length
  have hpl : t.post.length = t.nodes := by unfold T.post; rw [List.length_reverse, T.rpre_len]
  refine loop_any (vs := vs) (lo := W.listOf vs.toArray eR) (JS R' eR vs t) (by with_unfolding_all rfl) rfl ⟨_, rfl⟩ F1 (news_sub2 N1 (by
    intro p hp
    rcases List.mem_cons.mp hp with rfl | hp
    · exact .tail _ (.head _)
    · obtain rfl := List.mem_singleton.mp hp
      exact .head _)) ⟨_, [], _, rfl, rfl, .nil, l1 _ (.head _)⟩ ?kX ?turn ?done
  case kX =>
    rintro i m nx ⟨D, dv, e, _, rfl, _, _⟩
    exact .inr (.tail _ (.head _))
  case done =>
    rintro m₂ nx2 h₂ tk₂ ⟨D, dv, e, h1, rfl, hS, hDR⟩ F₂ N₂
    rw [hlen, List.take_length, T.run_post, List.nil_append] at hS
    rw [map_one h1] at F₂
    cases hS with
    | cons _ t0 h0 =>
      cases h0
      k_steps
      exact hret _ _ _ (fun b o hb e => Fr.keep (by assumption) b o (hg b o hb e)) ⟨_, rfl⟩
  case turn =>
    clear N1 F1
    rintro i v' m₂ nx2 h₂ tk₂ I oI hv ⟨D, dv, e2, h1, rfl, hS, hDR⟩ hoff hcI F₂ N₂
    obtain ⟨t', ht', hd'⟩ := hT.get hv
    have hi1 : i < t.nodes := by
      obtain ⟨hi1, _⟩ := List.getElem?_eq_some_iff.mp ht'
      omega
    have hfit := fits_at t.post [] i t' (by have := fits_post t 0 [] trivial; simpa using this) ht'
    have hl9 := run_len (t.post.take i) _ [] (hT.take i)
    have ht9 := run_tot (t.post.take i) _ [] (hT.take i)
    have e9 : tot [] = 0 := rfl
    have e8 : (t.post.take i).length ≤ i := by rw [List.length_take]; omega
    have e7 : ([] : List Str).length = 0 := rfl
    have hgood := T.good hd'
    have hrt := run_take t i t' ht'
    have hdl := StrsAre.length hS
    generalize T.run [] (t.post.take i) = st at *
    obtain ⟨x, l, ks, C, es, rfl, ⟨lo, hlo, hlc, hld⟩, hk, ⟨dx, nx, hx, hdx⟩, hcase⟩ := hd'.kids
    have hz5 := hk.length
    have hsq : IsSq g false l ks.toArray := ⟨lo, hlo, hlc, hld⟩
    have hI1 : @Ne Nat D I := hoff _ (.head _)
    have hI2 : @Ne Nat _ I := hoff _ (.tail _ (.head _))
    rw [map_one h1] at F₂
    rcases hcase with ⟨kind, text, tk, t1, t2, t3, t4, t5, t6, hte, rfl, rfl, htk, hok⟩ | ⟨nm, t1, t2, t3, t4, t5, r, rfl, rfl, hnm, hst⟩
    · subst hte
      k_steps
      unfold Stop
      rename News _ _ _ _ => N1
      simp only [List.push_toArray] at N1
      exact JS.turn (by assumption) N1 (.head _) (.tail _ (.head _)) (.tail _ (.tail _ (.head _))) rfl (by rw [hrt]; exact strs_snoc hS _ _) hDR hI1 hI2
    · obtain ⟨hs1, hs2⟩ := strs_split hS (st.length - t'.kids.length)
      have hs3 := StrsAre.length hs1
      have hs4 := StrsAre.length hs2
      have hs6 : (st.take (st.length - t'.kids.length)).length = st.length - t'.kids.length := by rw [List.length_take]; omega
      have hs7 : (st.drop (st.length - t'.kids.length)).length = t'.kids.length := by rw [List.length_drop]; omega
      have hs5 := tot_take_drop st (st.length - t'.kids.length)
      rw [hst] at hrt
      have hk3 : t'.kids.length ≤ 3 := by
        rcases hgood with ⟨k, x, rfl, _⟩ | ⟨nm, _, h2, _⟩
        · exact Nat.zero_le _
        · exact h2
      rw [← List.take_append_drop (st.length - t'.kids.length) dv] at N₂
      generalize dv.take (st.length - t'.kids.length) = pv at *
      generalize dv.drop (st.length - t'.kids.length) = kv at *
      generalize st.take (st.length - t'.kids.length) = ps at *
      generalize st.drop (st.length - t'.kids.length) = qs at *
      have hj := join_len (Str.ofString " ") (nm :: qs)
      rw [sp_len, tot_cons, List.length_cons] at hj
      clear hgood hS ht' hd' hk hv hst
      k_steps
      unfold Stop
      rename News _ _ _ _ => N1
      exact JS.turn (by assumption) N1 (by k_mem) (.head _) (by k_mem) rfl (by rw [hrt]; exact strs_snoc hs1 _ _) (neN (by omega)) (neN (by omega)) hI2
end Mine
end

section
open PySem PySem.W PySem.Calls PySem.Spec PyProof.Rows PyProof.Rows.LCg
set_option maxRecDepth 100000
namespace Mine
/-- a heap that holds what the list says -/
noncomputable def Sub (l : List (Addr × Obj)) (h : Heap) : Prop := ∀ q ∈ l, h.get? q.1 = some q.2
theorem Sub.news {g h : Heap} {L : Addr} {news l : List (Addr × Obj)} (N : News g L h news) (k : ∀ q ∈ l, q ∈ news) : Sub l h := fun q hq => (N q (k q hq)).1
theorem Sub.mono {l l' : List (Addr × Obj)} {h : Heap} (S : Sub l h) (k : ∀ q ∈ l', q ∈ l) : Sub l' h := fun q hq => S q (k q hq)
theorem Sub.left {l l' : List (Addr × Obj)} {h : Heap} (S : Sub (l ++ l') h) : Sub l h := S.mono fun _ hq => List.mem_append.mpr (.inl hq)
theorem Sub.right {l l' : List (Addr × Obj)} {h : Heap} (S : Sub (l ++ l') h) : Sub l' h := S.mono fun _ hq => List.mem_append.mpr (.inr hq)
theorem Sub.old {l : List (Addr × Obj)} {h h' : Heap} (k : ∀ b o, h.get? b = some o → h'.get? b = some o) (S : Sub l h) : Sub l h' := fun q hq => k _ _ (S q hq)

section
variable {w : World} {f P : Addr} {vs : List Value} {dd uu : Nat} {R : List (Addr × Obj) → Value → Prop} {kk : Int} {o : Obj}
  {p : Program} {loose : List Str} {mean : ExcName → Option Value} {mg mb : Str → Option Value}
  {dp un : Nat} {gd : Option (List Code)} {cn : Str} {cs : Scope} {L a : Addr} {ccd : Value} {cl : List (Str × Addr)} {outer : List Env} {A₀ : Around} {base h₀ : Heap} {m : Str → Option Value} {s : Shared}
  {Q E : Value → Shared → Prop} {news : List (Addr × Obj)}
/-- a def that draws, called: the pen, what the call made, the rest of the ledger -/
theorem Calls.useM (C : Calls w f [P] vs dd uu (fun h => h.get? P = some o) (PenPost P kk R)) (rest : List (Addr × Obj)) (hm : (P, o) ∈ news) (hr : ∀ q ∈ rest, q ∈ news) (hrP : ∀ q ∈ rest, q.1 ≠ P) (B : Below A₀ base outer h₀) (F : Fr h₀ L s.heap m) (X : (mk.heap_1 w.params).In h₀) (N : News h₀ L s.heap news) (T : Top p loose mean mg mb h₀) (hk : cs.kind = .function)
    (hd' : dp + dd < recursionLimit) (hu : un + uu < cLine)
    (ret : ∀ r h' tk' l o', Fr h₀ L h' m → News h₀ L h' (rest ++ (P, o') :: l) → (∀ q ∈ news, ∀ x ∈ l, x.1 ≠ q.1) → PenIs o' kk → R l r → Q r { s with heap := h', toks := tk' }) :
    wpAny (model PySem.Challenge.rw_qd0055_01.row.prog w) (ktrTop dp un gd cn cs L a ccd cl outer) (call (.ref f) vs) Q E s := by
  refine Calls.useP (o := o) C B F X hm N T hk hd' hu (N _ hm).1 fun r h' tk' F' N' hPL hP₀ hkeep hpost => ?_
  obtain ⟨o', ho', hpen, hR⟩ := hpost
  refine ret r h' tk' (fresh s.heap h') o' F' ?_ ?_ hpen hR
  · intro q hq
    rcases List.mem_append.mp hq with hq | hq
    · exact N' q (hr q hq) (hrP q hq)
    · rcases List.mem_cons.mp hq with rfl | hq
      · exact ⟨ho', hPL, hP₀⟩
      · obtain ⟨x, ox⟩ := q
        obtain ⟨b1, b2⟩ := mem_fresh.mp hq
        refine ⟨b2, fun e => ?_, ?_⟩
        · obtain ⟨oL, _, _, hL, _⟩ := F.ns
          dsimp only at e
          rw [e, hL] at b1; cases b1
        · cases hz : h₀.get? x with
          | none => rfl
          | some z => rw [F.keep _ _ hz] at b1; cases b1
  · intro q hq x hx e
    obtain ⟨y, oy⟩ := x
    have b1 := (mem_fresh.mp hx).1
    dsimp only at e
    rw [e, (N q hq).1] at b1; cases b1
/-- what a def hands back: every heap that holds what it made holds R -/
theorem PenPost.of {g h h' : Heap} {L : Addr} {news : List (Addr × Obj)} {o' : Obj} {r : Value} (hg : ∀ b o, ¬ b ∈ [P] → h.get? b = some o → g.get? b = some o) (N : News g L h' news) (hm : (P, o') ∈ news) (hp : PenIs o' kk)
    (hR : ∀ l, (∀ q ∈ news, q.1 ≠ P → q ∈ l) → R l r) : PenPost P kk R h h' r :=
  ⟨o', (N _ hm).1, hp, hR _ fun q hq hne => fresh_of (P := P) N (fun b o hb e => hg b o (by simpa using hb) e) hq hne⟩
end
end Mine
end

section
open PySem PySem.W PySem.Calls PySem.Spec PyProof.Rows PyProof.Rows.LCg
set_option maxRecDepth 100000
namespace Mine
noncomputable abbrev tup (vs : Array Value) : Obj := { cls := .type "tuple", data := .seq vs }
/-- a pair (a tree, its text), in every heap that holds l -/
noncomputable def TreeAt (w : World) (B : Nat) (l : List (Addr × Obj)) (v : Value) (t : T) : Prop := t.nodes ≤ B ∧ t.show.length ≤ 20 * B ∧ ∀ hp, Sub l hp → TreeH w hp v t
noncomputable def TreeR (w : World) (B : Nat) (l : List (Addr × Obj)) (r : Value) : Prop := ∃ t T v u, r = .ref T ∧ (T, tup #[v, .str t.show u]) ∈ l ∧ TreeAt w B l v t
theorem TreeAt.mono {w B l l' v t} (x : TreeAt w B l v t) (k : ∀ q ∈ l, q ∈ l') : TreeAt w B l' v t := ⟨x.1, x.2.1, fun hp S => x.2.2 hp (S.mono k)⟩
theorem TreeR.mono {w B l l' r} (x : TreeR w B l r) (k : ∀ q ∈ l, q ∈ l') : TreeR w B l' r := let ⟨t, T, v, u, e, hT, r⟩ := x; ⟨t, T, v, u, e, k _ hT, r.mono k⟩
theorem TreeAt.leaf {w : World} {l : List (Addr × Obj)} {x c tk dx dt : Addr} {kind text : Str} {t1 t2 t3 t4 t5 t6 u1 u2 u3 u4 u5 u6 u7 : Tok} {v : Value} {n n2 : Nat} {oc : Obj}
    (h2 : (x, instObj 176 dx) ∈ l) (h3 : (dx, dictOf [ent w "name" t1 (.str kind t2), ent w "rule" t3 (.int 0 t4), ent w "children" t5 (.ref c), ent w "token" t6 (.ref tk)] n) ∈ l)
    (h4 : (c, oc) ∈ l) (hc : oc.cls = .type "list") (hd : ∃ e, oc.data = .seq #[] e) (h5 : (tk, instObj 54 dt) ∈ l) (h6 : (dt, dictOf [ent w "kind" u1 (.str kind u2), ent w "text" u3 (.str text u4), ent w "at" u5 v, ent w "worth" u6 (.str text u7)] n2) ∈ l)
    (hm : (kind, text) ∈ leafTab) : TreeAt w 1 l (.ref x) (.leaf kind text) :=
  ⟨Nat.le_refl _, Nat.le_trans (leafShow_len _ _ hm) (by decide), fun hp S => .leaf ⟨_, _, _, _, _, _, dx, n, S _ h2, S _ h3⟩ ⟨oc, S _ h4, hc, hd⟩ ⟨_, _, _, _, _, _, _, _, dt, n2, S _ h5, S _ h6⟩ hm⟩
theorem TreeR.leaf {w : World} {l : List (Addr × Obj)} {T x c tk dx dt : Addr} {kind text sh : Str} {u t1 t2 t3 t4 t5 t6 u1 u2 u3 u4 u5 u6 u7 : Tok} {v : Value} {n n2 : Nat} {oc : Obj}
    (h1 : (T, tup #[.ref x, .str sh u]) ∈ l) (h2 : (x, instObj 176 dx) ∈ l) (h3 : (dx, dictOf [ent w "name" t1 (.str kind t2), ent w "rule" t3 (.int 0 t4), ent w "children" t5 (.ref c), ent w "token" t6 (.ref tk)] n) ∈ l)
    (h4 : (c, oc) ∈ l) (hc : oc.cls = .type "list") (hd : ∃ e, oc.data = .seq #[] e) (h5 : (tk, instObj 54 dt) ∈ l) (h6 : (dt, dictOf [ent w "kind" u1 (.str kind u2), ent w "text" u3 (.str text u4), ent w "at" u5 v, ent w "worth" u6 (.str text u7)] n2) ∈ l)
    (hm : (kind, text) ∈ leafTab) (hs : sh = leafShow kind text) : TreeR w 1 l (.ref T) := by
  subst hs
  exact ⟨.leaf kind text, T, _, u, rfl, h1, TreeAt.leaf h2 h3 h4 hc hd h5 h6 hm⟩
end Mine
end

section
open PySem PySem.W PySem.Calls PySem.Spec PyProof.Rows
set_option maxRecDepth 100000
namespace Mine
local macro_rules | `(tactic| walk_at "call ref") => `(tactic| walk_at "#d")
set_option hygiene false in
local macro_rules | `(tactic| walk_at "subscriptTail") => `(tactic| (k_here; (with_reducible show wpAny _ _ (subscriptTail (Expr.List _ _) _ (Value.ref _) (Value.int _ _)) _ _ _); walk_at "#s"))
/-- an item of a written list, all of them R -/
theorem led_any {prog : Program} {w : World} {A : Around} {E : Value → Shared → Prop} {s : Shared} {Q : Value → Shared → Prop} {D : Addr} {value slice : Expr} {vs : List Value} {R : Value → Prop} {u : Tok} {d : Int} (y' : s.heap.IsList D vs.toArray) (h0 : 0 ≤ d) (h1 : d < (vs.length : Int)) (hl : vs.length ≤ 1000)
    (hR : ∀ v ∈ vs, R v) (h : ∀ v, R v → Q v s)
    (hs : subscripted slice false (.ref D) (.int d u) = operate [.ref D, .int d u] (getItem (.ref D) (.int d u)) := by with_unfolding_all rfl) :
    wpAny (model prog w) A (subscriptTail value slice (.ref D) (.int d u)) Q E s := by
  have hlt : d.toNat < vs.length := by omega
  exact led_item y' h0 (by omega) (List.getElem?_eq_getElem hlt) (h _ (hR _ (List.getElem_mem hlt))) hs
noncomputable def LeafRow (news : List (Addr × Obj)) (v : Value) : Prop := ∃ T kind text sh u1 u2 u3, v = .ref T ∧ (T, tup #[.str kind u1, .str text u2, .str sh u3]) ∈ news ∧ (kind, text) ∈ leafTab ∧ sh = leafShow kind text
theorem led_leaf {prog : Program} {w : World} {A : Around} {E : Value → Shared → Prop} {s : Shared} {Q : Value → Shared → Prop} {D L : Addr} {g : Heap} {value slice : Expr} {vs : List Value} {n : Nat} {news : List (Addr × Obj)} {u : Tok} {d : Int} (N : News g L s.heap news) (hm : (D, W.listOf vs.toArray n) ∈ news) (h0 : 0 ≤ d) (h1 : d < (vs.length : Int)) (hl : vs.length ≤ 1000)
    (hR : ∀ v ∈ vs, LeafRow news v) (h : ∀ v, LeafRow news v → Q v s)
    (hs : subscripted slice false (.ref D) (.int d u) = operate [.ref D, .int d u] (getItem (.ref D) (.int d u)) := by with_unfolding_all rfl) :
    wpAny (model prog w) A (subscriptTail value slice (.ref D) (.int d u)) Q E s := led_any (News.isList N hm) h0 h1 hl hR h hs

set_option maxHeartbeats 4000000 in
theorem leaf_ok (w : World) (P : Addr) (o : Obj) (k : Int) (ho : PenIs o k) (hk9 : k ≤ 900000) :
    Calls w 244 [P] [.ref P] 3 9 (fun h => h.get? P = some o) (PenPost P (k + 1) (TreeR w 1)) := by
  w_top off
  unfold Calls
  k_fill
  intro p loose mean mg mb dp un gd cn cs L a ccd cl outer A₀ base h₀ m s Q E B F X T hk0 hdp hun hhide hpre hret
  have N : News h₀ L s.heap [(P, o)] := by
    intro q hq
    obtain rfl := List.mem_singleton.mp hq
    exact ⟨hpre, hhide P (List.mem_singleton.mpr rfl)⟩
  k_dflt (refine' enterH _ ?k1 ?k2 ?k3 ?k4 ?k5 ?kA ?kF ?kK ?k6 ?k7 ?k8 ?k9 ?kB ?_ ?c2 ?c3 ?c4 ?c5; (case kA => exact rfl); (case kF => exact rfl); (case kK => assumption); (case k1 => k_asm); (case k2 => k_asm); (case k3 => k_asm); (case k4 => k_asm); (case k5 => k_asm); (case k6 => k_is); (case k7 => k_is); (case k8 => (dsimp only [ktrTop]; omega)); (case k9 => exact BindsTo.of_eq rfl); (case c5 => decide); (case kB => exact locs rfl); (case c2 => exact rfl); (case c3 => exact rfl); (case c4 => exact rfl))
  k_whole
  intro g L' h' tk F' N' B' X' T' hg hlt
  clear N F X T B
  (try dsimp only)
  (try k_fold)
  have hPL : @LT.lt Nat _ P L' := hlt (P, o) (List.mem_singleton.mpr rfl)
  k_steps
  unfold Stop
  rename News _ _ _ _ => N1
  refine led_leaf N1 (by k_mem) (by assumption) (by simp only [List.length_cons, List.length_nil]; omega) (Nat.le_of_ble_eq_true rfl) ?hR fun v hv => ?_
  case hR =>
    intro v hv
    simp only [List.mem_cons, List.not_mem_nil, or_false] at hv
    rcases hv with rfl | rfl | rfl | rfl | rfl
    all_goals exact ⟨_, _, _, _, _, _, _, rfl, by k_mem, by decide +kernel, by decide +kernel⟩
  obtain ⟨T, kind, text, sh, u1, u2, u3, rfl, hT, hm, hsh⟩ := hv
  replace N1 := news_sub2 N1 (news' := [(T, tup #[.str kind u1, .str text u2, .str sh u3]), (P, _)]) (List.forall_mem_cons.mpr ⟨hT, List.forall_mem_cons.mpr ⟨.tail _ (.tail _ (.tail _ (.tail _ (.tail _ (.tail _ (.head _)))))), fun _ h => nomatch h⟩⟩)
  clear hT
  k_steps
  rename News _ _ _ _ => N2
  refine hret _ _ _ (fun b o hb e => Fr.keep (by assumption) b o (hg b o hb e)) (PenPost.of hg N2 (by k_mem) (by assumption) fun l hl => ?_)
  exact TreeR.leaf (hl _ (by k_mem) (neN (by omega))) (hl _ (by k_mem) (neN (by omega))) (hl _ (by k_mem) (neN (by omega))) (hl _ (by k_mem) (neN (by omega))) rfl ⟨_, rfl⟩ (hl _ (by k_mem) (neN (by omega))) (hl _ (by k_mem) (neN (by omega))) hm hsh
end Mine
end

section
open PySem PySem.W PySem.Calls PySem.Spec PyProof.Rows PyProof.Rows.LCg
set_option maxRecDepth 100000
namespace Mine
noncomputable def ltextTab : List (Str × Str) := [(Str.ofString "", Str.ofString "\""), (Str.ofString "a\"b", Str.ofString "\""), (Str.ofString "\\", Str.ofString "\""), (Str.ofString "x\n y\t", Str.ofString "\""), (Str.ofString "none", Str.ofString "\"")]
noncomputable def lsigns : List Nat := [97, 34, 98, 92, 120, 10, 32, 121, 9, 110, 111, 101]
theorem ltext_facts {x z : Str} (hm : (x, z) ∈ ltextTab) : z = Str.ofString "\"" ∧ (∀ c ∈ x.cps.toList, c ∈ lsigns) ∧ x.cps.all (· < 128) = true ∧ x.cps.size ≤ 20 := by
  simp only [ltextTab, List.mem_cons, Prod.mk.injEq, List.not_mem_nil, or_false] at hm
  rcases hm with ⟨rfl, rfl⟩ | ⟨rfl, rfl⟩ | ⟨rfl, rfl⟩ | ⟨rfl, rfl⟩ | ⟨rfl, rfl⟩ <;> exact ⟨rfl, by decide +kernel, by decide +kernel, by decide +kernel⟩
theorem CompEnd.drop2 {h₀ : Heap} {L I C D : Addr} {m : Str → Option Value} {s₁ : Shared} {oI oC oD : Obj} {S : List (Addr × Obj) → Prop} {rest : Value → List (Addr × Obj) → Prop} {y : Value} {h' : Heap} {tk : Nat} {p1 p2 : Addr × Obj} {news' : List (Addr × Obj)}
    (F : Fr h₀ L h' m) (N : News h₀ L h' (p1 :: p2 :: (I, oI) :: (C, oC) :: (D, oD) :: news')) (off : Off3 I C D news') (hS : S news') (r : rest y news') : CompEnd h₀ L m s₁ I oI C oC D oD S rest y { s₁ with heap := h', toks := tk } :=
  CompEnd.intro F N news' (fun p hp => .tail _ (.tail _ hp)) off hS r
theorem JT.next {g : Nat → List Nat} {n₀ : List (Addr × Obj)} {cs : List Nat} {i c : Nat} {ys : List Value} {x : Str} {t : Tok} (hys : StrsAre ys ((cs.take i).map fun c => (⟨(g c).toArray⟩ : Str))) (hg : cs[i]? = some c) (e : x = ⟨(g c).toArray⟩) : JT g n₀ cs (i + 1) (ys ++ [.str x t]) n₀ := by
  subst e
  exact ⟨rfl, by rw [List.take_add_one, hg, Option.toList_some, List.map_append]; exact strs_snoc hys _ _⟩
local macro_rules | `(tactic| walk_at "eval ListComp") => `(tactic| walk_at "#cs")
local macro_rules | `(tactic| walk_at "TextSrc") => `(tactic| walk_at "#s")
local macro_rules | `(tactic| walk_at "CompEnd") => `(tactic| walk_at "#s")
set_option hygiene false in
local macro_rules | `(tactic| walk_at "call builtin:str.join") => `(tactic| (k_here; k_dflt (refine joinS (by walk_at "#n") (by assumption) ?_ ?_; (simp only [List.length_map, em_len]; omega)); intro _ _))

set_option maxHeartbeats 40000000 in
theorem lesc_ok (w : World) (x z : Str) (t u : Tok) (hm : (x, z) ∈ ltextTab) :
    Calls w 232 [] [.str x t, .str z u] 3 15 (fun _ => True) (fun _ _ r => ∃ v, r = .str (escS x z) v) := by
  w_top off
  unfold Calls
  k_fill
  intro p loose mean mg mb dp un gd cn cs L a ccd cl outer A₀ base h₀ m s Q E B F X T hk0 hdp hun hhide hpre hret
  have N : News h₀ L s.heap [] := News.nil
  obtain ⟨rfl, hall, hasc, hsz⟩ := ltext_facts hm
  k_dflt (refine' enterHC [] ?k1 ?k2 ?k3 ?k4 ?k5 ?kA ?kF ?kK ?k6 ?k7 ?k8 ?k9 ?kB ?kD ?_ ?c2 ?c3 ?c4; (case kA => exact rfl); (case kF => exact rfl); (case kK => assumption); (case k1 => k_asm); (case k2 => k_asm); (case k3 => k_asm); (case k4 => k_asm); (case k5 => k_asm); (case k6 => k_is); (case k7 => k_is); (case k8 => (dsimp only [ktrTop]; omega)); (case k9 => exact BindsTo.of_eq rfl); (case kB => exact rfl); (case kD => decide +kernel); (case c2 => exact rfl); (case c3 => exact rfl); (case c4 => exact rfl))
  k_whole
  intro g L' h' tk cells F' N' Y' B' X' T' hg hlt
  clear N F X T B
  k_cells Y'
  (try simp only [List.cons_append, List.nil_append] at N')
  (try dsimp only)
  (try k_fold)
  k_steps
  unfold Stop
  rename News _ _ _ _ => N1
  rename Fr _ _ _ _ => F1
  refine TextSrc.intro (by rfl) F1 N1 hasc (Nat.le_trans hsz (by decide)) fun g' => ?_
  refine comp_inv (JT (fun c => signOut c ((Str.ofString "\"").cps.getD 0 0)) _ x.cps.toList) x.cps.size ?turn ?fin _ 0 [] _ (Nat.zero_add _) ⟨rfl, .nil⟩
  case turn =>
    clear N1 F1
    rintro i ys news v I oI C oC D m₂ h tk E' hi ⟨rfl, hys⟩ ⟨tv, rfl⟩ hC hx F2 N2 off ne
    have hg1 : x.cps.toList[i]? = some (x.cps.getD i 0) := by
      rw [Array.getElem?_toList, Array.getElem?_eq_getElem hi, Array.getD_eq_getD_getElem?, Array.getElem?_eq_getElem hi]; rfl
    have hs := hall _ (List.mem_of_getElem? hg1)
    generalize x.cps.getD i 0 = c at *
    simp only [lsigns, List.mem_cons, List.not_mem_nil, or_false] at hs
    rcases hs with rfl | rfl | rfl | rfl | rfl | rfl | rfl | rfl | rfl | rfl | rfl | rfl
    all_goals (
      k_steps
      unfold Stop
      rename News _ _ _ _ => N3
      exact CompEnd.drop2 (by assumption) N3 off trivial (JT.next hys hg1 (by decide +kernel)))
  case fin =>
    clear N1 F1
    rintro ys news ⟨rfl, hys⟩
    have e : x.cps.toList.take x.cps.size = x.cps.toList := List.take_of_length_le (by simp)
    rw [e] at hys
    have hb := tot_signs (fun c => signOut c ((Str.ofString "\"").cps.getD 0 0)) 2 (fun c => signOut_len c _) x.cps.toList
    have hb2 : x.cps.toList.length = x.cps.size := by simp
    k_steps
    exact hret _ _ _ (fun b o hb e => Fr.keep (by assumption) b o (hg b o hb e)) ⟨_, congrArg (Value.str · _) (join_signs (fun c => signOut c ((Str.ofString "\"").cps.getD 0 0)) x.cps.toList)⟩
end Mine
end

section
open PySem PySem.W PySem.Calls PySem.Spec PyProof.Rows PyProof.Rows.LCg
set_option maxRecDepth 100000
namespace Mine
inductive Prs {X : Type} (At : List (Addr × Obj) → Value → X → Prop) (sh : X → Str) (l : List (Addr × Obj)) : List Value → List X → List Value → Prop where
  | nil : Prs At sh l [] [] []
  | cons {T v u d ys ds vs} : (T, tup #[v, .str (sh d) u]) ∈ l → At l v d → Prs At sh l ys ds vs → Prs At sh l (.ref T :: ys) (d :: ds) (v :: vs)
section
variable {X : Type} {At : List (Addr × Obj) → Value → X → Prop} {sh : X → Str}
theorem Prs.mono {l l' ys ds vs} (x : Prs At sh l ys ds vs) (k : ∀ q ∈ l, q ∈ l') (mo : ∀ v d, At l v d → At l' v d) : Prs At sh l' ys ds vs := by
  induction x with
  | nil => exact .nil
  | cons a b _ i => exact .cons (k _ a) (mo _ _ b) i
theorem Prs.snoc {l ys ds vs T v u d} (x : Prs At sh l ys ds vs) (a : (T, tup #[v, .str (sh d) u]) ∈ l) (b : At l v d) : Prs At sh l (ys ++ [.ref T]) (ds ++ [d]) (vs ++ [v]) := by
  induction x with
  | nil => exact .cons a b .nil
  | cons a b _ i => exact .cons a b i
theorem Prs.len {l ys ds vs} (x : Prs At sh l ys ds vs) : ys.length = ds.length ∧ vs.length = ds.length := by
  induction x with
  | nil => exact ⟨rfl, rfl⟩
  | cons _ _ _ i => simp [i.1, i.2]
theorem Prs.get {l : List (Addr × Obj)} : ∀ {ys : List Value} {ds : List X} {vs : List Value} (_ : Prs At sh l ys ds vs) {i : Nat} {y : Value}, ys[i]? = some y → ∃ T v d u, y = .ref T ∧ (T, tup #[v, .str (sh d) u]) ∈ l ∧ vs[i]? = some v ∧ ds[i]? = some d ∧ At l v d
  | _, _, _, .nil, _, _, e => by simp at e
  | _, _, _, .cons a b _, 0, y, e => by simp at e; subst e; exact ⟨_, _, _, _, rfl, a, rfl, rfl, b⟩
  | _, _, _, .cons _ _ r, i + 1, y, e => by simp only [List.getElem?_cons_succ] at e ⊢; exact r.get e
end
theorem PenIs.mono {o : Obj} {k k' : Int} (x : PenIs o k) (h : k ≤ k') : PenIs o k' := by
  obtain ⟨n, q, t, u, e, a, b, c, d⟩ := x
  exact ⟨n, q, t, u, e, a, b, c, Int.le_trans d h⟩
/-- between the turns of [def(pen, deep - 1) for turn in range(..)] -/
noncomputable def JPt {X : Type} (At : List (Addr × Obj) → Value → X → Prop) (sh : X → Str) (pre : List (Addr × Obj)) (P : Addr) (k0 c : Int) (i : Nat) (ys : List Value) (news : List (Addr × Obj)) : Prop :=
  ∃ o' l ds vs, news = pre ++ (P, o') :: l ∧ PenIs o' (k0 + i * c) ∧ (∀ x ∈ l, x.1 ≠ P) ∧ Prs At sh l ys ds vs ∧ ys.length = i
theorem JPt.turn {X : Type} {At : List (Addr × Obj) → Value → X → Prop} {sh : X → Str} {pre : List (Addr × Obj)} {P : Addr} {k0 c : Int} {i : Nat} {ys : List Value} {h₀ h' : Heap} {L : Addr} {m : Str → Option Value} {s₁ : Shared} {tk : Nat} {I C D : Addr} {oI oC o' o'' : Obj} {l l2 : List (Addr × Obj)} {ds : List X} {vs : List Value} {r : Value}
    (mo : ∀ l l' v d, (∀ q ∈ l, q ∈ l') → At l v d → At l' v d) (F : Fr h₀ L h' m) (N : News h₀ L h' (((I, oI) :: (C, oC) :: (D, lst ys) :: (pre ++ l)) ++ (P, o'') :: l2))
    (hf : ∀ q ∈ (I, oI) :: (C, oC) :: (D, lst ys) :: (pre ++ (P, o') :: l), ∀ x ∈ l2, x.1 ≠ q.1) (off : Off3 I C D (pre ++ (P, o') :: l)) (hpen : PenIs o'' (k0 + i * c + c)) (hlP : ∀ x ∈ l, x.1 ≠ P)
    (hP : Prs At sh l ys ds vs) (hi : ys.length = i) (R : ∃ d T v u, r = .ref T ∧ (T, tup #[v, .str (sh d) u]) ∈ l2 ∧ At l2 v d) :
    CompEnd h₀ L m s₁ I oI C oC D (lst ys) (fun _ => True) (fun y news' => JPt At sh pre P k0 c (i + 1) (ys ++ [y]) news') r { s₁ with heap := h', toks := tk } := by
  obtain ⟨d, T, v, u, rfl, hT, hA⟩ := R
  have off' := off.mem
  refine CompEnd.intro F N (pre ++ (P, o'') :: (l ++ l2)) (fun p hp => ?_) (Off3.of fun p hp => ?_) trivial ⟨o'', l ++ l2, ds ++ [d], vs ++ [v], rfl, ?_, ?_, ?_, by simp [hi]⟩
  · simp only [List.mem_cons, List.mem_append, List.cons_append] at hp ⊢
    rcases hp with hp | hp | hp | hp | hp | hp | hp <;> simp [hp]
  · rcases List.mem_append.mp hp with hp | hp
    · exact off' p (List.mem_append.mpr (.inl hp))
    · rcases List.mem_cons.mp hp with rfl | hp
      · exact off' (P, o') (List.mem_append.mpr (.inr (.head _)))
      · rcases List.mem_append.mp hp with hp | hp
        · exact off' p (List.mem_append.mpr (.inr (.tail _ hp)))
        · exact ⟨hf (I, oI) (.head _) p hp, hf (C, oC) (.tail _ (.head _)) p hp, hf (D, lst ys) (.tail _ (.tail _ (.head _))) p hp⟩
  · have e : k0 + i * c + c = k0 + ((i + 1 : Nat) : Int) * c := by push_cast; rw [Int.add_mul, Int.one_mul, Int.add_assoc]
    rw [← e]; exact hpen
  · intro x hx
    rcases List.mem_append.mp hx with hx | hx
    · exact hlP x hx
    · exact hf (P, o') (.tail _ (.tail _ (.tail _ (List.mem_append.mpr (.inr (.head _)))))) x hx
  · exact (hP.mono (fun q hq => List.mem_append.mpr (.inl hq)) fun v d => mo _ _ v d fun q hq => List.mem_append.mpr (.inl hq)).snoc (List.mem_append.mpr (.inr hT)) (mo _ _ v d (fun q hq => List.mem_append.mpr (.inr hq)) hA)
theorem range_facts {d : Int} (h1 : d < 4) (h0 : 0 ≤ d) : Builtin.Range.small 0 d 1 = true ∧ Builtin.Range.rangeSize 0 d 1 = ((d.toNat : Nat) : Int) ∧ d.toNat ≤ 3 := by
  have : d = 0 ∨ d = 1 ∨ d = 2 ∨ d = 3 := by omega
  rcases this with rfl | rfl | rfl | rfl <;> exact ⟨by first | decide | rfl, by first | rfl | decide, by decide⟩
theorem range_facts2 {d : Int} (h1 : d < 4) (h0 : 0 ≤ d) : ∃ n : Nat, Builtin.Range.small 0 d 1 = true ∧ Builtin.Range.rangeSize 0 d 1 = ((n : Nat) : Int) ∧ n ≤ 3 := ⟨_, range_facts h1 h0⟩
/-- between the turns of [part[0] for part in parts] -/
noncomputable def JFx (news₀ : List (Addr × Obj)) (vs : List Value) (i : Nat) (zs : List Value) (news : List (Addr × Obj)) : Prop := news = news₀ ∧ zs = vs.take i
noncomputable def JSx (news₀ : List (Addr × Obj)) (xs : List Str) (i : Nat) (zs : List Value) (news : List (Addr × Obj)) : Prop := news = news₀ ∧ StrsAre zs (xs.take i)
section
variable {prog : Program} {w : World} {A : Around} {E : Value → Shared → Prop} {s : Shared} {L : Addr} {m : Str → Option Value} {g : Heap} {Q : Value → Shared → Prop}
theorem tup_item {T : Addr} {value slice : Expr} {l : List Value} {k : Int} {u : Tok} {v : Value} {news : List (Addr × Obj)} (N : News g L s.heap news) (hm : (T, tup l.toArray) ∈ news) (h0 : 0 ≤ k) (hf : k < 2 ^ 63) (hx : l[k.toNat]? = some v) (h : Q v s)
    (hs : subscripted slice false (.ref T) (.int k u) = operate [.ref T, .int k u] (getItem (.ref T) (.int k u)) := by with_unfolding_all rfl) :
    wpAny (model prog w) A (subscriptTail value slice (.ref T) (.int k u)) Q E s := by
  have y : IsSq s.heap true T l.toArray := by simpa [IsSq] using (News.isTup N hm)
  have y' : IsTup s.heap T l.toArray := by simpa [IsSq] using y
  have hlt : k.toNat < l.length := by
    rcases Nat.lt_or_ge k.toNat l.length with q | q
    · exact q
    · rw [List.getElem?_eq_none q] at hx; cases hx
  refine item_tupleT y' (by omega) hf (j := k.toNat) ?_ hx h hs
  unfold seqIndex?
  have h1 : ¬ k < 0 := by omega
  simp [h1]
  omega
end
/-- a pair (a value, its text) -/
noncomputable def DatAt (B : Nat) (l : List (Addr × Obj)) (v : Value) (d : V) : Prop := d.wt ≤ B ∧ d.show.length ≤ 20 * B ∧ ∀ hp, Sub l hp → DatH hp v d
noncomputable def DatR (B : Nat) (l : List (Addr × Obj)) (r : Value) : Prop := ∃ d T v u, r = .ref T ∧ (T, tup #[v, .str (V.show d) u]) ∈ l ∧ DatAt B l v d
theorem DatAt.mono {B : Nat} (l l' : List (Addr × Obj)) (v : Value) (d : V) (k : ∀ q ∈ l, q ∈ l') (x : DatAt B l v d) : DatAt B l' v d := ⟨x.1, x.2.1, fun hp S => x.2.2 hp (S.mono k)⟩
theorem TreeAt.mo {w : World} {B : Nat} (l l' : List (Addr × Obj)) (v : Value) (d : T) (k : ∀ q ∈ l, q ∈ l') (x : TreeAt w B l v d) : TreeAt w B l' v d := ⟨x.1, x.2.1, fun hp S => x.2.2 hp (S.mono k)⟩

section
variable {prog : Program} {w : World} {A : Around} {E : Value → Shared → Prop} {s : Shared} {t u : Tok} {Q : Value → Shared → Prop}
theorem pow9 (h : Q (.int 1000000000 s.toks) { s with toks := s.toks + 1 }) : wpAny (model prog w) A (binaryOp .Pow (.int 10 t) (.int 9 u)) Q E s :=
  pow_int_small (by decide) (by decide) (by decide) (by rw [show (10 : Int) ^ (9 : Int).toNat = 1000000000 by decide +kernel]; exact h)
theorem pow8 (h : Q (.int 100000000 s.toks) { s with toks := s.toks + 1 }) : wpAny (model prog w) A (binaryOp .Pow (.int 10 t) (.int 8 u)) Q E s :=
  pow_int_small (by decide) (by decide) (by decide) (by rw [show (10 : Int) ^ (8 : Int).toNat = 100000000 by decide +kernel]; exact h)
end
theorem strI {prog : Program} {w : World} {A : Around} {E : Value → Shared → Prop} {s : Shared} {t : Tok} {Q : Value → Shared → Prop} {a : Int} (h1 : -1000000000 ≤ a) (h2 : a ≤ 1000000000) (h : Q (.str (Str.ofString (toString a)) s.toks) { s with toks := s.toks + 1 }) : wpAny (model prog w) A (call (.type "str") [.int a t]) Q E s :=
  str_of_int_fit (N := 2000000000) (by split <;> omega) (by decide) fun _ => h
theorem p9 : (10 : Int) ^ Int.toNat 9 = 1000000000 := by decide +kernel
theorem p8 : (10 : Int) ^ Int.toNat 8 = 100000000 := by decide +kernel
theorem strP {prog : Program} {w : World} {A : Around} {E : Value → Shared → Prop} {s : Shared} {t : Tok} {Q : Value → Shared → Prop} {d : Int} (h1 : d < 10 ^ Int.toNat 9) (h0 : 0 ≤ d) (h : Q (.str (Str.ofString (toString (d - 5 * 10 ^ Int.toNat 8))) s.toks) { s with toks := s.toks + 1 }) : wpAny (model prog w) A (call (.type "str") [.int (d - 5 * 10 ^ Int.toNat 8) t]) Q E s :=
  strI (by rw [p8]; omega) (by rw [p9] at h1; rw [p8]; omega) h
theorem okP {d : Int} (h1 : d < 10 ^ Int.toNat 9) (h0 : 0 ≤ d) : (Lf.int (d - 5 * 10 ^ Int.toNat 8)).ok := by
  rw [p9] at h1
  constructor
  · rw [p8]; omega
  · rw [p8]; omega
theorem com_len : (Str.ofString ", ").length = 2 := rfl
theorem brk_len1 : (Str.ofString "[").length = 1 := rfl
theorem brk_len2 : (Str.ofString "]").length = 1 := rfl
theorem int_len {i : Int} (h1 : -(10 ^ 9) ≤ i) (h2 : i ≤ 10 ^ 9) : (Str.ofString (toString i)).length ≤ 12 := by
  by_cases h : 0 ≤ i
  · have := toString_length_le h (k := 10) (by decide) (by omega)
    omega
  · rw [len_text_neg (by omega)]
    have := toString_length_le (v := 0 - i) (by omega) (k := 10) (by decide) (by omega)
    omega
theorem Lf.len {l : Lf} (h : l.ok) : l.show.length ≤ 20 := by
  cases l with
  | int i => have := int_len h.1 h.2; show (Str.ofString (toString i)).length ≤ 20; omega
  | txt x =>
    have := esc_len h
    show (Str.ofString "\"" ++ escS x (Str.ofString "\"") ++ Str.ofString "\"").length ≤ 20
    rw [Str.length_append, Str.length_append]
    have e : (Str.ofString "\"").length = 1 := rfl
    omega
  | none => decide
theorem DatR.leaf {B : Nat} {l : List (Addr × Obj)} {T : Addr} {v : Value} {sh : Str} {u : Tok} {lf : Lf} (h1 : (T, tup #[v, .str sh u]) ∈ l) (hv : IsLf v lf) (hk : lf.ok) (hs : sh = lf.show) (hB : 1 ≤ B) : DatR B l (.ref T) := by
  subst hs
  exact ⟨.lf lf, T, v, u, rfl, h1, hB, Nat.le_trans (Lf.len hk) (by omega), fun hp _ => .lf hv hk⟩
theorem Prs.tot {X : Type} {At : List (Addr × Obj) → Value → X → Prop} {sh : X → Str} {l : List (Addr × Obj)} {b : Nat} (hb : ∀ v d, At l v d → (sh d).length ≤ b) : ∀ {ys : List Value} {ds : List X} {vs : List Value}, Prs At sh l ys ds vs → Mine.tot (ds.map sh) ≤ ds.length * b
  | _, _, _, .nil => Nat.zero_le _
  | _, _, _, .cons _ a r => by
    have h1 := hb _ _ a
    have h2 := Prs.tot hb r
    simp only [List.map_cons, tot_cons, List.length_cons, Nat.add_mul, Nat.one_mul]
    omega
noncomputable def sqO (b : Bool) (its : Array Value) (n : Nat) : Obj := if b then { cls := .type "tuple", data := .seq its n } else { cls := .type "list", data := .seq its n }
theorem sqO_is {h : Heap} {b : Bool} {R : Addr} {its : Array Value} {n : Nat} (e : h.get? R = some (sqO b its n)) : IsSq h b R its := by
  cases b with
  | true => exact (show IsTup h R its from ⟨_, e, rfl, _, rfl⟩)
  | false => exact (show h.IsList R its from ⟨_, e, rfl, _, rfl⟩)
noncomputable def listTxt (xs : List Str) : Str := Str.ofString "[" ++ Str.join (Str.ofString ", ") xs ++ Str.ofString "]"
theorem listTxt0 (b : Bool) : listTxt [] = (V.s0 b).show := by
  show Str.ofString "[" ++ (⟨#[]⟩ : Str) ++ Str.ofString "]" = cat [Str.ofString "[", Str.ofString "]"]
  rw [str_app_empty, cat_cons, cat_one]
theorem listTxt1 (b : Bool) (x : V) : listTxt [x.show] = (V.s1 b x).show := by
  show Str.ofString "[" ++ x.show ++ Str.ofString "]" = cat [Str.ofString "[", x.show, Str.ofString "]"]
  rw [cat_cons, cat_cons, cat_one, Str.append_assoc]
theorem listTxt2 (b : Bool) (x y : V) : listTxt [x.show, y.show] = (V.s2 b x y).show := by
  show Str.ofString "[" ++ (x.show ++ Str.ofString ", " ++ y.show) ++ Str.ofString "]" = cat [Str.ofString "[", x.show, Str.ofString ", ", y.show, Str.ofString "]"]
  simp only [cat_cons, cat_one, Str.append_assoc, cat_nil, str_app_empty]
theorem listTxt3 (b : Bool) (x y z : V) : listTxt [x.show, y.show, z.show] = (V.s3 b x y z).show := by
  show Str.ofString "[" ++ (x.show ++ Str.ofString ", " ++ (y.show ++ Str.ofString ", " ++ z.show)) ++ Str.ofString "]" = cat [Str.ofString "[", x.show, Str.ofString ", ", y.show, Str.ofString ", ", z.show, Str.ofString "]"]
  simp only [cat_cons, cat_one, Str.append_assoc, cat_nil, str_app_empty]
theorem listTxt_len (xs : List Str) (h : xs.length ≤ 3) : (listTxt xs).length ≤ Mine.tot xs + 8 := by
  unfold listTxt
  rw [Str.length_append, Str.length_append]
  have := join_len (Str.ofString ", ") xs
  have e1 : (Str.ofString ", ").length = 2 := rfl
  have e2 : (Str.ofString "[").length = 1 := rfl
  have e3 : (Str.ofString "]").length = 1 := rfl
  rw [e1] at this
  omega
theorem DatR.list {B : Nat} {l : List (Addr × Obj)} {T R : Addr} {b : Bool} {sh : Str} {u : Tok} {n : Nat} {ys vs : List Value} {ds : List V} (h1 : (T, tup #[.ref R, .str sh u]) ∈ l) (h2 : (R, sqO b vs.toArray n) ∈ l) (hP : Prs (DatAt B) V.show l ys ds vs) (hs : sh = listTxt (ds.map V.show)) (h3 : ds.length ≤ 3) : DatR (5 + 3 * B) l (.ref T) := by
  have ht := hP.tot (b := 20 * B) (fun v d a => a.2.1)
  have hl := listTxt_len (ds.map V.show) (by simpa using h3)
  rw [← hs] at hl
  have h4 : ds.length * (20 * B) ≤ 3 * (20 * B) := Nat.mul_le_mul_right _ h3
  have hlen : sh.length ≤ 20 * (5 + 3 * B) := by omega
  clear ht hl h4
  cases hP with
  | nil =>
    rw [List.map_nil, listTxt0 b] at hs; subst hs
    exact ⟨.s0 b, T, _, u, rfl, h1, by simp only [V.wt]; omega, hlen, fun hp S => .s0 (sqO_is (S _ h2))⟩
  | cons m1 a1 r1 =>
    cases r1 with
    | nil =>
      rw [List.map_cons, List.map_nil, listTxt1 b] at hs; subst hs
      exact ⟨.s1 b _, T, _, u, rfl, h1, by have := a1.1; simp only [V.wt]; omega, hlen, fun hp S => .s1 (sqO_is (S _ h2)) (a1.2.2 hp S)⟩
    | cons m2 a2 r2 =>
      cases r2 with
      | nil =>
        rw [List.map_cons, List.map_cons, List.map_nil, listTxt2 b] at hs; subst hs
        exact ⟨.s2 b _ _, T, _, u, rfl, h1, by have := a1.1; have := a2.1; simp only [V.wt]; omega, hlen, fun hp S => .s2 (sqO_is (S _ h2)) (a1.2.2 hp S) (a2.2.2 hp S)⟩
      | cons m3 a3 r3 =>
        cases r3 with
        | nil =>
          rw [List.map_cons, List.map_cons, List.map_cons, List.map_nil, listTxt3 b] at hs; subst hs
          exact ⟨.s3 b _ _ _, T, _, u, rfl, h1, by have := a1.1; have := a2.1; have := a3.1; simp only [V.wt]; omega, hlen, fun hp S => .s3 (sqO_is (S _ h2)) (a1.2.2 hp S) (a2.2.2 hp S) (a3.2.2 hp S)⟩
        | cons m4 a4 r4 => simp only [List.length_cons] at h3; omega
noncomputable abbrev TxtRow (v : Value) : Prop := ∃ x u, v = .str x u ∧ (x, Str.ofString "\"") ∈ ltextTab
theorem ltext_sub {x : Str} (h : (x, Str.ofString "\"") ∈ ltextTab) : (x, Str.ofString "\"") ∈ textTab := by
  simp only [ltextTab, List.mem_cons, Prod.mk.injEq, List.not_mem_nil, or_false, and_true] at h
  rcases h with rfl | rfl | rfl | rfl | rfl <;> decide +kernel
theorem quo_len : (Str.ofString "\"").length = 1 := by decide +kernel
theorem mul5 {prog : Program} {w : World} {A : Around} {E : Value → Shared → Prop} {s : Shared} {t u : Tok} {b : Int} {Q : Value → Shared → Prop} (h : Q (.int (5 * b) s.toks) { s with toks := s.toks + 1 }) : wpAny (model prog w) A (binaryOp .Mult (.int 5 t) (.int b u)) Q E s :=
  mul_int h (.of_left (by decide))
section
variable {prog : Program} {w : World} {A : Around} {E : Value → Shared → Prop} {s : Shared} {t u : Tok} {Q : Value → Shared → Prop}
theorem powC9 (h : ∀ c, c = 1000000000 → Q (.int c s.toks) { s with toks := s.toks + 1 }) : wpAny (model prog w) A (binaryOp .Pow (.int 10 t) (.int 9 u)) Q E s := pow9 (h _ rfl)
theorem powC8 (h : ∀ c, c = 100000000 → Q (.int c s.toks) { s with toks := s.toks + 1 }) : wpAny (model prog w) A (binaryOp .Pow (.int 10 t) (.int 8 u)) Q E s := pow8 (h _ rfl)
theorem okC {a : Int} (h1 : -1000000000 ≤ a) (h2 : a ≤ 1000000000) : (Lf.int a).ok := ⟨h1, h2⟩
end
end Mine
end

section
open PySem PySem.W PySem.Calls PySem.Spec PyProof.Rows PyProof.Rows.LCg
set_option maxRecDepth 100000
namespace Mine
set_option hygiene false in
local macro_rules | `(tactic| walk_at "ite") => `(tactic| (k_closed; k_dflt (first | refine ite_pos (by decide +kernel) ?_ | refine ite_neg (by decide +kernel) ?_ | refine ite_pos (by simp only [decide_eq_true_eq]; omega) ?_)))
local macro_rules | `(tactic| walk_at "call ref") => `(tactic| walk_at "#d")
local macro_rules | `(tactic| walk_at "CompSrc") => `(tactic| walk_at "#s")
local macro_rules | `(tactic| walk_at "call type:range") => `(tactic| walk_at "#r")
set_option hygiene false in
local macro_rules | `(tactic| walk_at "call ref") => `(tactic| (k_here; (with_reducible show wpAny _ _ (call (Value.ref 237) _) _ _ _); walk_at "#s"))
local macro_rules | `(tactic| walk_at "call ref") => do `(tactic| (k_here; (with_reducible show wpAny _ _ (call (Value.ref 232) _) _ _ _); $(← Mine.u0 (← `(lesc_ok _ _ _ _ _ ?hm)) (← `(trivial)) (← `(tactic| ((case hm => first | assumption | decide +kernel))))); walk_at "#g"))
set_option hygiene false in
local macro_rules | `(tactic| walk_at "subscriptTail") => `(tactic| (k_here; (with_reducible show wpAny _ _ (subscriptTail (Expr.Name (Str.ofString "part") _) _ (Value.ref _) (Value.int _ _)) _ _ _); k_dflt (refine tup_item (by k_asm) (by k_mem) (by decide) (by decide) (by rfl) ?_)))
set_option hygiene false in
local macro_rules | `(tactic| walk_at "call type:str") => `(tactic| (k_here; (with_reducible show wpAny _ _ (call (Value.type "str") [Value.int _ _]) _ _ _); k_dflt (refine strI (by omega) (by omega) ?_)))
local macro_rules | `(tactic| walk_at "binaryOp Mult int int") => `(tactic| (with_reducible refine mul5 ?_))
set_option hygiene false in
local macro_rules | `(tactic| walk_at "binaryOp Pow int int") => `(tactic| (first | (with_reducible refine powC9 ?_) | (with_reducible refine powC8 ?_); intro _ _))
set_option hygiene false in
local macro_rules | `(tactic| walk_at "execs cons") => `(tactic| ((with_reducible refine wpAny_execs_cons ?_); try dsimp only))
local macro_rules | `(tactic| walk_at "binaryOp Sub int int") => `(tactic| (with_reducible refine sub_int ?_))
local macro_rules | `(tactic| walk_at "CompEnd") => `(tactic| walk_at "#s")
local macro_rules | `(tactic| walk_at "call type:tuple") => `(tactic| (k_here; (with_reducible show wpAny _ _ (call (Value.type _) [Value.ref _]) _ _ _); k_dflt (refine' kde_tupleOf ?k1 ?k2 ?k3 ?k4 ?k5 ?_; (case k1 => k_asm); (case k2 => k_asm); (case k3 => walk_at "#n"); (case k4 => (simp only [List.size_toArray]; omega)); (case k5 => exact rfl); k_whole); walk_at "#l"))
set_option hygiene false in
local macro_rules | `(tactic| walk_at "call builtin:str.join") => `(tactic| (k_here; k_dflt (refine joinS (by walk_at "#n") (by assumption) ?_ ?_; (simp only [List.length_map, com_len]; omega)); intro _ _))
set_option hygiene false in
local macro_rules | `(tactic| walk_at "binaryOp Add str str") => `(tactic| (k_here; (with_reducible show wpAny _ _ (binaryOp Operator.Add (Value.str (Str.ofString "[") _) (Value.str _ _)) _ _ _); k_dflt (refine addS ?_ ?_; (simp only [Str.length_append, brk_len1, brk_len2]; omega)); intro _ _))
set_option hygiene false in
local macro_rules | `(tactic| walk_at "binaryOp Add str str") => `(tactic| (k_here; (with_reducible show wpAny _ _ (binaryOp Operator.Add (Value.str (Str.ofString "[" ++ _) _) (Value.str _ _)) _ _ _); k_dflt (refine addS ?_ ?_; (simp only [Str.length_append, brk_len1, brk_len2]; omega)); intro _ _))
local macro_rules | `(tactic| walk_at "subscriptTail") => `(tactic| (k_here; (with_reducible show wpAny _ _ (subscriptTail (Expr.List _ _) _ (Value.ref _) (Value.int _ _)) _ _ _); k_dflt (refine led_any (R := TxtRow) (by walk_at "#n") (by assumption) (by simp only [List.length_cons, List.length_nil]; omega) (by exact Nat.le_of_ble_eq_true rfl) (by intro v hv; simp only [List.mem_cons, List.not_mem_nil, or_false] at hv; rcases hv with rfl | rfl | rfl | rfl | rfl <;> exact ⟨_, _, rfl, by decide +kernel⟩) ?_); intro v' hv'; obtain ⟨x', u', hv', hx'⟩ := hv'; subst hv'; have hx9 := esc_len (ltext_sub hx')))
set_option hygiene false in
local macro_rules | `(tactic| walk_at "binaryOp Add str str") => `(tactic| (k_here; (with_reducible show wpAny _ _ (binaryOp Operator.Add (Value.str (Str.ofString "\"") _) (Value.str _ _)) _ _ _); k_dflt (refine addS ?_ ?_; (simp only [Str.length_append, quo_len]; omega)); intro _ _))
set_option hygiene false in
local macro_rules | `(tactic| walk_at "binaryOp Add str str") => `(tactic| (k_here; (with_reducible show wpAny _ _ (binaryOp Operator.Add (Value.str (Str.ofString "\"" ++ _) _) (Value.str _ _)) _ _ _); k_dflt (refine addS ?_ ?_; (simp only [Str.length_append, quo_len]; omega)); intro _ _))

set_option maxHeartbeats 8000000 in
theorem lvalue_step (w : World) (deep c K : Int) (B dd uu : Nat) (h0 : 0 < deep) (hdeep2 : deep ≤ 10) (hc : 0 ≤ c) (hc2 : c ≤ 1000) (hB : 1 ≤ B) (hB2 : B ≤ 1000) (hdd : 5 ≤ dd) (huu : 20 ≤ uu) (hK : K ≤ 900000)
    (IH : ∀ (P : Addr) (o : Obj) (k : Int) (v : Tok), PenIs o k → k ≤ K → Calls w 237 [P] [.ref P, .int (deep - 1) v] dd uu (fun h => h.get? P = some o) (PenPost P (k + c) (DatR B)))
    (P : Addr) (o : Obj) (k : Int) (v : Tok) (ho : PenIs o k) (hk9 : k + 2 + 3 * c ≤ K) :
    Calls w 237 [P] [.ref P, .int deep v] (dd + 4) (uu + 10) (fun h => h.get? P = some o) (PenPost P (k + 2 + 3 * c) (DatR (5 + 3 * B))) := by
  w_top off
  unfold Calls
  k_fill
  intro p loose mean mg mb dp un gd cn cs L a ccd cl outer A₀ base h₀ m s Q E B F X T hk0 hdp hun hhide hpre hret
  have N : News h₀ L s.heap [(P, o)] := by
    intro q hq
    obtain rfl := List.mem_singleton.mp hq
    exact ⟨hpre, hhide P (List.mem_singleton.mpr rfl)⟩
  k_dflt (refine' enterHC _ ?k1 ?k2 ?k3 ?k4 ?k5 ?kA ?kF ?kK ?k6 ?k7 ?k8 ?k9 ?kB ?kD ?_ ?c2 ?c3 ?c4; (case kA => exact rfl); (case kF => exact rfl); (case kK => assumption); (case k1 => k_asm); (case k2 => k_asm); (case k3 => k_asm); (case k4 => k_asm); (case k5 => k_asm); (case k6 => k_is); (case k7 => k_is); (case k8 => (dsimp only [ktrTop]; omega)); (case k9 => exact BindsTo.of_eq rfl); (case kB => exact rfl); (case kD => decide +kernel); (case c2 => exact rfl); (case c3 => exact rfl); (case c4 => exact rfl))
  k_whole
  intro g L' h' tk cells F' N' Y' B' X' T' hg hlt
  clear N F X T B
  k_cells Y'
  (try simp only [List.cons_append, List.nil_append] at N')
  (try dsimp only)
  (try k_fold)
  rename_i oc1 oc2 dc1 dc2
  have hPL : @LT.lt Nat _ P L' := hlt (P, o) (List.mem_singleton.mpr rfl)
  k_steps
  all_goals (try (
    (with_reducible show End _ _ _)
    rename News _ _ _ _ => N1
    refine hret _ _ _ (fun b o hb e => Fr.keep (by assumption) b o (hg b o hb e)) (PenPost.of hg N1 (by k_mem) (PenIs.mono (by assumption) (by omega)) fun l hl => ?_)
    refine DatR.leaf (hl _ (by k_mem) (neN (by omega))) (by first | exact IsLf.int | exact IsLf.txt | exact IsLf.none) ?_ (by first | rfl | decide +kernel) (by omega)
    first | exact trivial | exact ltext_sub (by assumption) | exact okC (by omega) (by omega) | (simp only [Lf.ok]; decide +kernel)))
  unfold Stop
  rename IsRange _ _ _ _ _ _ _ _ => R1
  rename News _ _ _ _ => N1
  rename Fr _ _ _ _ => F1
  obtain ⟨n0, hs1, hs2, hs3⟩ := range_facts2 (by assumption) (by assumption)
  refine CompSrc.range (by with_unfolding_all rfl) F1 N1 R1 hs1 hs2 (Nat.le_trans hs3 (by decide)) fun g' => ?_
  have hpen : PenIs _ (k + 1 + 1) := (by assumption)
  refine comp_inv (JPt (DatAt B) V.show [(L' + 1 + 1, oc1), (L' + 1, oc2)] P (k + 1 + 1) c) _ ?turn ?fin _ 0 [] _ (Nat.zero_add _) ⟨_, [], [], [], rfl, by simpa using hpen, (fun _ h => nomatch h), .nil, rfl⟩
  case turn =>
    clear N1 F1 R1
    rintro i ys news v I oI C oC D m₂ h tk E' hi ⟨o1, l, ds, vs, rfl, hpen1, hlP, hP, hlen⟩ ⟨tv, rfl⟩ hC hx F2 N2 off ne
    simp only [List.cons_append, List.nil_append] at N2
    k_steps
    unfold Stop
    have hic : (i : Int) * c ≤ 3 * c := Int.mul_le_mul_of_nonneg_right (by omega) hc
    have offP := off.mem (P, o1) (List.mem_append.mpr (.inr (.head _)))
    refine' Calls.useM (IH P o1 (k + 1 + 1 + i * c) _ hpen1 (by omega)) ((I, oI) :: (C, oC) :: (D, lst ys) :: ([(L' + 1 + 1, oc1), (L' + 1, oc2)] ++ l)) ?hm ?hr ?hrP ?k1 ?k2 ?k3 N2 ?k5 ?k6 ?k7 ?k8 ?_
    case hm => k_mem
    case k1 => k_asm
    case k2 => k_asm
    case k3 => k_asm
    case k5 => k_asm
    case k6 => first | rfl | assumption
    case k7 => k_room
    case k8 => ((try simp only [units_in1, units_deeper, Around.mark_units]); (try dsimp only [ktrTop]); omega)
    case hr =>
      intro q hq
      simp only [List.cons_append, List.nil_append, List.mem_cons] at hq ⊢
      rcases hq with h | h | h | h | h | h <;> simp [h]
    case hrP =>
      intro q hq
      simp only [List.cons_append, List.nil_append, List.mem_cons] at hq
      rcases hq with rfl | rfl | rfl | rfl | rfl | h
      · exact fun e => offP.1 e.symm
      · exact fun e => offP.2.1 e.symm
      · exact fun e => offP.2.2 e.symm
      · exact neN (by omega)
      · exact neN (by omega)
      · exact hlP q h
    intro r' h' tk' l2 o2 F' N' hf hpen2 hR
    exact JPt.turn DatAt.mono F' N' hf off hpen2 hlP hP hlen hR
  case fin =>
    clear N1 F1 R1
    rintro ys news ⟨o1, l, ds, vs, rfl, hpen1, hlP, hP, hlen⟩
    simp only [List.cons_append, List.nil_append]
    have hPl := hP.len
    have htot := hP.tot (b := 20 * B) (fun v d a => a.2.1)
    have htot2 : ds.length * (20 * B) ≤ 3 * (20 * B) := Nat.mul_le_mul_right _ (by omega)
    have hj := join_len (Str.ofString ", ") (ds.map V.show)
    rw [com_len, List.length_map] at hj
    have hnc : (n0 : Int) * c ≤ 3 * c := Int.mul_le_mul_of_nonneg_right (by omega) hc
    k_steps
    unfold Stop
    rename News _ _ _ _ => N3
    rename Fr _ _ _ _ => F3
    refine CompSrc.ledger (its := ys.toArray) (k := ys.length) (by with_unfolding_all rfl) F3 N3 (.head _) (by rw [List.size_toArray, sizeLine_eq]; omega) fun g2 => ?_
    refine comp_inv (JFx _ vs) _ ?turn2 ?fin2 _ 0 [] _ (Nat.zero_add _) ⟨rfl, rfl⟩
    case turn2 =>
      rintro i2 zs news v I oI C oC D m₂ h tk E' hi2 ⟨rfl, rfl⟩ hv hC hx F2 N2 off ne
      have hv' : ys[i2]? = some v := by simpa using hv
      obtain ⟨T1, v1, d1, u1, rfl, hT, hvs, hds, _⟩ := hP.get hv'
      clear hv F3 N3
      k_steps
      unfold Stop
      exact CompEnd.intro (by assumption) N2 _ (fun p hp => hp) off (.inr ⟨_, .head _, rfl, _, rfl⟩) ⟨rfl, by rw [List.take_add_one, hvs]; rfl⟩
    case fin2 =>
      rintro zs news ⟨rfl, rfl⟩
      have e : vs.take ys.toArray.size = vs := List.take_of_length_le (by rw [List.size_toArray]; omega)
      rw [e]
      clear F3 N3
      k_steps
      all_goals (
        unfold Stop
        rename News _ _ _ _ => N4
        rename Fr _ _ _ _ => F4
        refine CompSrc.ledger (its := ys.toArray) (k := ys.length) (by with_unfolding_all rfl) F4 N4 (by k_mem) (by rw [List.size_toArray, sizeLine_eq]; omega) fun g3 => ?_
        refine comp_inv (JSx _ (ds.map V.show)) _ ?turn3 ?fin3 _ 0 [] _ (Nat.zero_add _) ⟨rfl, .nil⟩
        case turn3 =>
          rintro i2 zs news v I oI C oC D m₂ h tk E' hi2 ⟨rfl, hzs⟩ hv hC hx F2 N2 off ne
          have hv' : ys[i2]? = some v := by simpa using hv
          obtain ⟨T1, v1, d1, u1, rfl, hT, hvs, hds, _⟩ := hP.get hv'
          clear hv F4 N4
          k_steps
          unfold Stop
          exact CompEnd.intro (by assumption) N2 _ (fun p hp => hp) off (.inr ⟨_, by k_mem, rfl, _, rfl⟩) ⟨rfl, by rw [List.take_add_one, List.getElem?_map, hds]; exact strs_snoc hzs _ _⟩
        case fin3 =>
          rintro zs news ⟨rfl, hzs⟩
          have e : (ds.map V.show).take ys.toArray.size = ds.map V.show := List.take_of_length_le (by rw [List.size_toArray, List.length_map]; omega)
          rw [e] at hzs
          clear F4 N4 e
          k_steps
          rename News _ _ _ _ => N5
          refine hret _ _ _ (fun b o hb e => Fr.keep (by assumption) b o (hg b o hb e)) (PenPost.of hg N5 (by k_mem) (PenIs.mono hpen1 (by omega)) fun l' hl => ?_)
          first
          | exact DatR.list (b := true) (n := 0) (hl _ (by k_mem) (neN (by omega))) (hl _ (by k_mem) (neN (by omega))) (hP.mono (fun q hq => hl q (by k_mem) (hlP q hq)) fun v d => DatAt.mono _ _ v d fun q hq => hl q (by k_mem) (hlP q hq)) rfl (by omega)
          | exact DatR.list (b := false) (n := vs.length) (hl _ (by k_mem) (neN (by omega))) (hl _ (by k_mem) (neN (by omega))) (hP.mono (fun q hq => hl q (by k_mem) (hlP q hq)) fun v d => DatAt.mono _ _ v d fun q hq => hl q (by k_mem) (hlP q hq)) rfl (by omega))
set_option maxHeartbeats 8000000 in
theorem lvalue_base (w : World) (P : Addr) (o : Obj) (k : Int) (v : Tok) (ho : PenIs o k) (hk9 : k ≤ 900000) :
    Calls w 237 [P] [.ref P, .int 0 v] 5 20 (fun h => h.get? P = some o) (PenPost P (k + 2) (DatR 1)) := by
  w_top off
  unfold Calls
  k_fill
  intro p loose mean mg mb dp un gd cn cs L a ccd cl outer A₀ base h₀ m s Q E B F X T hk0 hdp hun hhide hpre hret
  have N : News h₀ L s.heap [(P, o)] := by
    intro q hq
    obtain rfl := List.mem_singleton.mp hq
    exact ⟨hpre, hhide P (List.mem_singleton.mpr rfl)⟩
  k_dflt (refine' enterHC _ ?k1 ?k2 ?k3 ?k4 ?k5 ?kA ?kF ?kK ?k6 ?k7 ?k8 ?k9 ?kB ?kD ?_ ?c2 ?c3 ?c4; (case kA => exact rfl); (case kF => exact rfl); (case kK => assumption); (case k1 => k_asm); (case k2 => k_asm); (case k3 => k_asm); (case k4 => k_asm); (case k5 => k_asm); (case k6 => k_is); (case k7 => k_is); (case k8 => (dsimp only [ktrTop]; omega)); (case k9 => exact BindsTo.of_eq rfl); (case kB => exact rfl); (case kD => decide +kernel); (case c2 => exact rfl); (case c3 => exact rfl); (case c4 => exact rfl))
  k_whole
  intro g L' h' tk cells F' N' Y' B' X' T' hg hlt
  clear N F X T B
  k_cells Y'
  (try simp only [List.cons_append, List.nil_append] at N')
  (try dsimp only)
  (try k_fold)
  rename_i oc1 oc2 dc1 dc2
  have hPL : @LT.lt Nat _ P L' := hlt (P, o) (List.mem_singleton.mpr rfl)
  k_steps
  all_goals (try (
    (with_reducible show End _ _ _)
    rename News _ _ _ _ => N1
    refine hret _ _ _ (fun b o hb e => Fr.keep (by assumption) b o (hg b o hb e)) (PenPost.of hg N1 (by k_mem) (PenIs.mono (by assumption) (by omega)) fun l hl => ?_)
    refine DatR.leaf (hl _ (by k_mem) (neN (by omega))) (by first | exact IsLf.int | exact IsLf.txt | exact IsLf.none) ?_ (by first | rfl | decide +kernel) (by omega)
    first | exact trivial | exact ltext_sub (by assumption) | exact okC (by omega) (by omega) | (simp only [Lf.ok]; decide +kernel)))
  all_goals (exfalso; omega)
theorem lvalue1 (w : World) (P : Addr) (o : Obj) (k : Int) (v : Tok) (ho : PenIs o k) (hk9 : k ≤ 899000) :
    Calls w 237 [P] [.ref P, .int 1 v] 9 30 (fun h => h.get? P = some o) (PenPost P (k + 2 + 3 * 2) (DatR (5 + 3 * 1))) :=
  lvalue_step w 1 2 900000 1 5 20 (by decide) (by decide) (by decide) (by decide) (by decide) (by decide) (by decide) (by decide) (by decide) (fun P o k v ho hk => lvalue_base w P o k v ho hk) P o k v ho (by omega)
theorem lvalue2 (w : World) (P : Addr) (o : Obj) (k : Int) (v : Tok) (ho : PenIs o k) (hk9 : k ≤ 898000) :
    Calls w 237 [P] [.ref P, .int 2 v] 13 40 (fun h => h.get? P = some o) (PenPost P (k + 2 + 3 * 8) (DatR (5 + 3 * 8))) :=
  lvalue_step w 2 8 899000 8 9 30 (by decide) (by decide) (by decide) (by decide) (by decide) (by decide) (by decide) (by decide) (by decide) (fun P o k v ho hk => by have := lvalue1 w P o k v ho hk; rw [show k + 2 + 3 * 2 = k + 8 by omega] at this; exact this) P o k v ho (by omega)
theorem lvalue3 (w : World) (P : Addr) (o : Obj) (k : Int) (v : Tok) (ho : PenIs o k) (hk9 : k ≤ 897000) :
    Calls w 237 [P] [.ref P, .int 3 v] 17 50 (fun h => h.get? P = some o) (PenPost P (k + 2 + 3 * 26) (DatR (5 + 3 * 29))) :=
  lvalue_step w 3 26 898000 29 13 40 (by decide) (by decide) (by decide) (by decide) (by decide) (by decide) (by decide) (by decide) (by decide) (fun P o k v ho hk => by have := lvalue2 w P o k v ho hk; rw [show k + 2 + 3 * 8 = k + 26 by omega] at this; exact this) P o k v ho (by omega)
theorem lvalue4 (w : World) (P : Addr) (o : Obj) (k : Int) (v : Tok) (ho : PenIs o k) (hk9 : k ≤ 896000) :
    Calls w 237 [P] [.ref P, .int 4 v] 21 60 (fun h => h.get? P = some o) (PenPost P (k + 242) (DatR 281)) := by
  have := lvalue_step w 4 80 897000 92 17 50 (by decide) (by decide) (by decide) (by decide) (by decide) (by decide) (by decide) (by decide) (by decide) (fun P o k v ho hk => by have := lvalue3 w P o k v ho hk; rw [show k + 2 + 3 * 26 = k + 80 by omega] at this; exact this) P o k v ho (by omega)
  rw [show k + 2 + 3 * 80 = k + 242 by omega] at this
  exact this
end Mine
section
open PySem PySem.W PySem.Calls PySem.Spec PyProof.Rows PyProof.Rows.LCg
set_option maxRecDepth 100000
namespace Mine
theorem TreeR.up {w : World} {B B' : Nat} {l l' : List (Addr × Obj)} {r : Value} (x : TreeR w B l r) (hB : B ≤ B') (k : ∀ q ∈ l, q ∈ l') : TreeR w B' l' r := by
  obtain ⟨t, T, v, u, e, hT, a, b, c⟩ := x
  exact ⟨t, T, v, u, e, k _ hT, Nat.le_trans a hB, Nat.le_trans b (Nat.mul_le_mul_left _ hB), fun hp S => c hp (S.mono k)⟩
theorem TreeR.node {w : World} {B : Nat} {l : List (Addr × Obj)} {Y x c dx : Addr} {nm sh : Str} {u t1 t2 t3 t4 t5 : Tok} {rl : Int} {n : Nat} {oc : Obj} {ys vs : List Value} {ds : List Mine.T}
    (h1 : (Y, tup #[.ref x, .str sh u]) ∈ l) (h2 : (x, instObj 141 dx) ∈ l) (h3 : (dx, dictOf [ent w "name" t1 (.str nm t2), ent w "rule" t3 (.int rl t4), ent w "children" t5 (.ref c)] n) ∈ l)
    (h4 : (c, oc) ∈ l) (hc : oc.cls = .type "list") (hd : ∃ e, oc.data = .seq vs.toArray e) (hnm : nm.length ≤ 8) (hP : Prs (TreeAt w B) T.show l ys ds vs) (hs : sh = brack nm (ds.map T.show)) (h5 : ds.length ≤ 3) : TreeR w (1 + 3 * B) l (.ref Y) := by
  have ht := hP.tot (b := 20 * B) (fun v d a => a.2.1)
  have hl := brack_len nm (ds.map T.show) hnm (by simpa using h5)
  rw [← hs] at hl
  have h6 : ds.length * (20 * B) ≤ 3 * (20 * B) := Nat.mul_le_mul_right _ h5
  have hlen : sh.length ≤ 20 * (1 + 3 * B) := by omega
  clear ht hl h6
  have N : ∀ hp, Sub l hp → NodeH w hp x c nm := fun hp S => ⟨_, _, _, _, _, _, dx, n, S _ h2, S _ h3⟩
  have I : ∀ hp, Sub l hp → hp.IsList c vs.toArray := fun hp S => ⟨oc, S _ h4, hc, hd⟩
  cases hP with
  | nil =>
    subst hs
    exact ⟨.n0 nm, Y, _, u, rfl, h1, by simp only [T.nodes]; omega, hlen, fun hp S => .n0 (N hp S) (I hp S) hnm⟩
  | cons m1 a1 r1 =>
    cases r1 with
    | nil =>
      subst hs
      exact ⟨.n1 nm _, Y, _, u, rfl, h1, by have := a1.1; simp only [T.nodes]; omega, hlen, fun hp S => .n1 (N hp S) (I hp S) hnm (a1.2.2 hp S)⟩
    | cons m2 a2 r2 =>
      cases r2 with
      | nil =>
        subst hs
        exact ⟨.n2 nm _ _, Y, _, u, rfl, h1, by have := a1.1; have := a2.1; simp only [T.nodes]; omega, hlen, fun hp S => .n2 (N hp S) (I hp S) hnm (a1.2.2 hp S) (a2.2.2 hp S)⟩
      | cons m3 a3 r3 =>
        cases r3 with
        | nil =>
          subst hs
          exact ⟨.n3 nm _ _ _, Y, _, u, rfl, h1, by have := a1.1; have := a2.1; have := a3.1; simp only [T.nodes]; omega, hlen, fun hp S => .n3 (N hp S) (I hp S) hnm (a1.2.2 hp S) (a2.2.2 hp S) (a3.2.2 hp S)⟩
        | cons m4 a4 r4 => simp only [List.length_cons] at h5; omega
theorem led_pick {prog : Program} {w : World} {A : Around} {E : Value → Shared → Prop} {s : Shared} {Q : Value → Shared → Prop} {D : Addr} {value slice : Expr} {a b c : Str} {ta tb tc u : Tok} {d : Int} (y' : s.heap.IsList D [Value.str a ta, Value.str b tb, Value.str c tc].toArray) (h0 : 0 ≤ d) (h1 : d < 3)
    (ha : a.length ≤ 8) (hb : b.length ≤ 8) (hc : c.length ≤ 8) (h : ∀ nm t, nm.length ≤ 8 → Q (.str nm t) s)
    (hs : subscripted slice false (.ref D) (.int d u) = operate [.ref D, .int d u] (getItem (.ref D) (.int d u)) := by with_unfolding_all rfl) :
    wpAny (model prog w) A (subscriptTail value slice (.ref D) (.int d u)) Q E s := by
  have : d = 0 ∨ d = 1 ∨ d = 2 := by omega
  rcases this with rfl | rfl | rfl
  · exact led_item y' h0 (by decide) rfl (h _ _ ha) hs
  · exact led_item y' h0 (by decide) rfl (h _ _ hb) hs
  · exact led_item y' h0 (by decide) rfl (h _ _ hc) hs
end Mine
end

section
open PySem PySem.W PySem.Calls PySem.Spec PyProof.Rows PyProof.Rows.LCg
set_option maxRecDepth 100000
namespace Mine
set_option hygiene false in
local macro_rules | `(tactic| walk_at "ite") => `(tactic| (k_closed; k_dflt (first | refine ite_pos (by decide +kernel) ?_ | refine ite_neg (by decide +kernel) ?_ | refine ite_pos (by simp only [decide_eq_true_eq]; omega) ?_)))
local macro_rules | `(tactic| walk_at "CompSrc") => `(tactic| walk_at "#s")
local macro_rules | `(tactic| walk_at "call type:range") => `(tactic| walk_at "#r")
local macro_rules | `(tactic| walk_at "CompEnd") => `(tactic| walk_at "#s")
set_option hygiene false in
local macro_rules | `(tactic| walk_at "eval ListComp") => `(tactic| (k_here; (with_reducible show wpAny _ _ (eval (Expr.ListComp (Expr.Subscript _ (Expr.Constant (Const.int 1) _ _) _) [⟨_, Expr.Name (Str.ofString "children") _, _, _⟩] _ _) _) _ _ _); walk_at "#s"))
set_option hygiene false in
local macro_rules | `(tactic| walk_at "call ref") => `(tactic| (k_here; (with_reducible show wpAny _ _ (call (Value.ref 227) _) _ _ _); walk_at "#s"))
local macro_rules | `(tactic| walk_at "call ref") => `(tactic| walk_at "#d")
set_option hygiene false in
local macro_rules | `(tactic| walk_at "call ref") => `(tactic| (k_here; (with_reducible show wpAny _ _ (call (Value.ref 244) _) _ _ _); walk_at "#s"))
set_option hygiene false in
local macro_rules | `(tactic| walk_at "call ref") => `(tactic| (k_here; (with_reducible show wpAny _ _ (call (Value.ref 249) _) _ _ _); walk_at "#s"))
set_option hygiene false in
local macro_rules | `(tactic| walk_at "subscriptTail") => `(tactic| (k_here; (with_reducible show wpAny _ _ (subscriptTail (Expr.Name (Str.ofString "child") _) _ (Value.ref _) (Value.int _ _)) _ _ _); k_dflt (refine tup_item (by k_asm) (by k_mem) (by decide) (by decide) (by rfl) ?_)))
set_option hygiene false in
local macro_rules | `(tactic| walk_at "subscriptTail") => `(tactic| (k_here; (with_reducible show wpAny _ _ (subscriptTail (Expr.List _ _) _ (Value.ref _) (Value.int _ _)) _ _ _); walk_at "#s"))
local macro_rules | `(tactic| walk_at "call type:list") => `(tactic| walk_at "#lst")
local macro_rules | `(tactic| walk_at "binaryOp Add ref ref") => `(tactic| walk_at "#add")
set_option hygiene false in
local macro_rules | `(tactic| walk_at "call builtin:str.join") => `(tactic| (k_here; k_dflt (refine joinS (by walk_at "#n") (StrsAre.cons _ _ (by assumption)) ?_ ?_; (simp only [tot_cons, List.length_cons, List.length_map, sp_len]; omega)); intro _ _))
set_option hygiene false in
local macro_rules | `(tactic| walk_at "binaryOp Add str str") => `(tactic| (k_here; (with_reducible show wpAny _ _ (binaryOp Operator.Add (Value.str (Str.ofString "(") _) (Value.str _ _)) _ _ _); k_dflt (refine addS ?_ ?_; (simp only [Str.length_append, par_len1, par_len2]; omega)); intro _ _))
set_option hygiene false in
local macro_rules | `(tactic| walk_at "binaryOp Add str str") => `(tactic| (k_here; (with_reducible show wpAny _ _ (binaryOp Operator.Add (Value.str (Str.ofString "(" ++ _) _) (Value.str _ _)) _ _ _); k_dflt (refine addS ?_ ?_; (simp only [Str.length_append, par_len1, par_len2]; omega)); intro _ _))

set_option maxHeartbeats 8000000 in
theorem ltree_step (w : World) (deep c K : Int) (B dd uu : Nat) (h0 : 0 < deep) (hdeep2 : deep ≤ 10) (hc : 0 ≤ c) (hc2 : c ≤ 1000) (hB : 1 ≤ B) (hB2 : B ≤ 1000) (hdd : 4 ≤ dd) (huu : 20 ≤ uu) (hK : K ≤ 890000)
    (IH : ∀ (P : Addr) (o : Obj) (k : Int) (v : Tok), PenIs o k → k ≤ K → Calls w 249 [P] [.ref P, .int (deep - 1) v] dd uu (fun h => h.get? P = some o) (PenPost P (k + c) (TreeR w B)))
    (P : Addr) (o : Obj) (k : Int) (v : Tok) (ho : PenIs o k) (hk9 : k + 3 + 3 * c ≤ K) :
    Calls w 249 [P] [.ref P, .int deep v] (dd + 4) (uu + 10) (fun h => h.get? P = some o) (PenPost P (k + 3 + 3 * c) (TreeR w (1 + 3 * B))) := by
  w_top off
  unfold Calls
  k_fill
  intro p loose mean mg mb dp un gd cn cs L a ccd cl outer A₀ base h₀ m s Q E B F X T hk0 hdp hun hhide hpre hret
  have N : News h₀ L s.heap [(P, o)] := by
    intro q hq
    obtain rfl := List.mem_singleton.mp hq
    exact ⟨hpre, hhide P (List.mem_singleton.mpr rfl)⟩
  k_dflt (refine' enterHC _ ?k1 ?k2 ?k3 ?k4 ?k5 ?kA ?kF ?kK ?k6 ?k7 ?k8 ?k9 ?kB ?kD ?_ ?c2 ?c3 ?c4; (case kA => exact rfl); (case kF => exact rfl); (case kK => assumption); (case k1 => k_asm); (case k2 => k_asm); (case k3 => k_asm); (case k4 => k_asm); (case k5 => k_asm); (case k6 => k_is); (case k7 => k_is); (case k8 => (dsimp only [ktrTop]; omega)); (case k9 => exact BindsTo.of_eq rfl); (case kB => exact rfl); (case kD => decide +kernel); (case c2 => exact rfl); (case c3 => exact rfl); (case c4 => exact rfl))
  k_whole
  intro g L' h' tk cells F' N' Y' B' X' T' hg hlt
  clear N F X T B
  k_cells Y'
  (try simp only [List.cons_append, List.nil_append] at N')
  (try dsimp only)
  (try k_fold)
  rename_i oc1 oc2 dc1 dc2
  have hPL : @LT.lt Nat _ P L' := hlt (P, o) (List.mem_singleton.mpr rfl)
  k_steps
  all_goals (try (exfalso; omega))
  · skip
    unfold Stop
    rename News _ _ _ _ => N1
    have hpen : PenIs _ (k + 1) := (by assumption)
    refine' Calls.useM (leaf_ok w P _ (k + 1) hpen (by omega)) [] ?hm (fun _ h => nomatch h) (fun _ h => nomatch h) ?k1 ?k2 ?k3 N1 ?k5 ?k6 ?k7 ?k8 ?_
    case hm => k_mem
    case k1 => k_asm
    case k2 => k_asm
    case k3 => k_asm
    case k5 => k_asm
    case k6 => first | rfl | assumption
    case k7 => k_room
    case k8 => ((try simp only [units_in1, units_deeper, Around.mark_units]); (try dsimp only [ktrTop]); omega)
    intro r' h' tk' l2 o2 F' N' hf hpen2 hR
    k_steps
    refine hret _ _ _ (fun b o hb e => Fr.keep (by assumption) b o (hg b o hb e)) (PenPost.of hg N' (.head _) (PenIs.mono hpen2 (by omega)) fun l' hl => ?_)
    exact TreeR.up hR (by omega) fun q hq => hl q (.tail _ hq) (hf (P, _) (by k_mem) q hq)
  unfold Stop
  rename IsRange _ _ _ _ _ _ _ _ => R1
  rename News _ _ _ _ => N1
  rename Fr _ _ _ _ => F1
  obtain ⟨n0, hs1, hs2, hs3⟩ := range_facts2 (by assumption) (by assumption)
  refine CompSrc.range (by with_unfolding_all rfl) F1 N1 R1 hs1 hs2 (Nat.le_trans hs3 (by decide)) fun g' => ?_
  have hpen : PenIs _ (k + 1 + 1) := (by assumption)
  refine comp_inv (JPt (TreeAt w B) T.show [(L' + 1 + 1, oc1), (L' + 1, oc2)] P (k + 1 + 1) c) _ ?turn ?fin _ 0 [] _ (Nat.zero_add _) ⟨_, [], [], [], rfl, by simpa using hpen, (fun _ h => nomatch h), .nil, rfl⟩
  case turn =>
    clear N1 F1 R1
    rintro i ys news v I oI C oC D m₂ h tk E' hi ⟨o1, l, ds, vs, rfl, hpen1, hlP, hP, hlen⟩ ⟨tv, rfl⟩ hC hx F2 N2 off ne
    simp only [List.cons_append, List.nil_append] at N2
    k_steps
    unfold Stop
    have hic : (i : Int) * c ≤ 3 * c := Int.mul_le_mul_of_nonneg_right (by omega) hc
    have offP := off.mem (P, o1) (List.mem_append.mpr (.inr (.head _)))
    refine' Calls.useM (IH P o1 (k + 1 + 1 + i * c) _ hpen1 (by omega)) ((I, oI) :: (C, oC) :: (D, lst ys) :: ([(L' + 1 + 1, oc1), (L' + 1, oc2)] ++ l)) ?hm ?hr ?hrP ?k1 ?k2 ?k3 N2 ?k5 ?k6 ?k7 ?k8 ?_
    case hm => k_mem
    case k1 => k_asm
    case k2 => k_asm
    case k3 => k_asm
    case k5 => k_asm
    case k6 => first | rfl | assumption
    case k7 => k_room
    case k8 => ((try simp only [units_in1, units_deeper, Around.mark_units]); (try dsimp only [ktrTop]); omega)
    case hr =>
      intro q hq
      simp only [List.cons_append, List.nil_append, List.mem_cons] at hq ⊢
      rcases hq with h | h | h | h | h | h <;> simp [h]
    case hrP =>
      intro q hq
      simp only [List.cons_append, List.nil_append, List.mem_cons] at hq
      rcases hq with rfl | rfl | rfl | rfl | rfl | h
      · exact fun e => offP.1 e.symm
      · exact fun e => offP.2.1 e.symm
      · exact fun e => offP.2.2 e.symm
      · exact neN (by omega)
      · exact neN (by omega)
      · exact hlP q h
    intro r' h' tk' l2 o2 F' N' hf hpen2 hR
    exact JPt.turn TreeAt.mo F' N' hf off hpen2 hlP hP hlen hR
  case fin =>
    clear N1 F1 R1
    rintro ys news ⟨o1, l, ds, vs, rfl, hpen1, hlP, hP, hlen⟩
    simp only [List.cons_append, List.nil_append]
    have hPl := hP.len
    have htot := hP.tot (b := 20 * B) (fun v d a => a.2.1)
    have htot2 : ds.length * (20 * B) ≤ 3 * (20 * B) := Nat.mul_le_mul_right _ (by omega)
    have hj := join_len (Str.ofString " ") (ds.map T.show)
    rw [sp_len, List.length_map] at hj
    have hnc : (n0 : Int) * c ≤ 3 * c := Int.mul_le_mul_of_nonneg_right (by omega) hc
    k_steps
    unfold Stop
    rename News _ _ _ _ => N3
    rename Fr _ _ _ _ => F3
    rename_i D1 _ _ hoffD A0 _ hltA
    refine' Calls.useM (draw_ok w P o1 (k + 1 + 1 + n0 * c) _ 3 hpen1 (by omega) (by decide) (by decide)) ((A0, _) :: (D1, lst ys) :: (L' + 1 + 1, oc1) :: (L' + 1, oc2) :: l) ?hm ?hr ?hrP ?k1 ?k2 ?k3 N3 ?k5 ?k6 ?k7 ?k8 ?_
    case hr => exact List.forall_mem_cons.mpr ⟨by k_mem, List.forall_mem_cons.mpr ⟨by k_mem, List.forall_mem_cons.mpr ⟨by k_mem, List.forall_mem_cons.mpr ⟨by k_mem, fun q hq => by k_mem⟩⟩⟩⟩
    case hrP => exact List.forall_mem_cons.mpr ⟨neN (by omega), List.forall_mem_cons.mpr ⟨neN (by omega), List.forall_mem_cons.mpr ⟨neN (by omega), List.forall_mem_cons.mpr ⟨neN (by omega), fun q hq => hlP q hq⟩⟩⟩⟩
    case hm => k_mem
    case k1 => k_asm
    case k2 => k_asm
    case k3 => k_asm
    case k5 => k_asm
    case k6 => first | rfl | assumption
    case k7 => k_room
    case k8 => ((try simp only [units_in1, units_deeper, Around.mark_units]); (try dsimp only [ktrTop]); omega)
    intro r' h' tk' l2 o2 F4 N4 hf hpen2 hR
    obtain ⟨dn, vn, rfl, hn0, hn3⟩ := hR
    simp only [List.cons_append] at N4
    replace N4 := news_sub2 N4 (news' := (A0, _) :: (D1, lst ys) :: (L' + 1 + 1, oc1) :: (L' + 1, oc2) :: (P, o2) :: l) (List.forall_mem_cons.mpr ⟨.head _, List.forall_mem_cons.mpr ⟨.tail _ (.head _), List.forall_mem_cons.mpr ⟨.tail _ (.tail _ (.head _)), List.forall_mem_cons.mpr ⟨.tail _ (.tail _ (.tail _ (.head _))), List.forall_mem_cons.mpr ⟨.tail _ (.tail _ (.tail _ (.tail _ (List.mem_append.mpr (.inr (.head _)))))), fun q hq => .tail _ (.tail _ (.tail _ (.tail _ (List.mem_append.mpr (.inl hq)))))⟩⟩⟩⟩⟩)
    clear N3 F3 hf
    k_steps
    unfold Stop
    refine led_pick (News.isList (by k_asm) (by k_mem)) hn0 hn3 (by decide) (by decide) (by decide) fun nm tn hnm => ?_
    k_steps
    unfold Stop
    rename News _ _ _ _ => N3
    rename Fr _ _ _ _ => F3
    refine CompSrc.ledger (its := ys.toArray) (k := ys.length) (by with_unfolding_all rfl) F3 N3 (by k_mem) (by rw [List.size_toArray, sizeLine_eq]; omega) fun g2 => ?_
    refine comp_inv (JFx _ vs) _ ?turn2 ?fin2 _ 0 [] _ (Nat.zero_add _) ⟨rfl, rfl⟩
    case turn2 =>
      rintro i2 zs news v I oI C oC D m₂ h tk E' hi2 ⟨rfl, rfl⟩ hv hC hx F2 N2 off ne
      have hv' : ys[i2]? = some v := by simpa using hv
      obtain ⟨T1, v1, d1, u1, rfl, hT, hvs, hds, _⟩ := hP.get hv'
      clear hv F3 N3
      k_steps
      unfold Stop
      exact CompEnd.intro (by assumption) N2 _ (fun p hp => hp) off (.inr ⟨_, by k_mem, rfl, _, rfl⟩) ⟨rfl, by rw [List.take_add_one, hvs]; rfl⟩
    case fin2 =>
      rintro zs news ⟨rfl, rfl⟩
      have e : vs.take ys.toArray.size = vs := List.take_of_length_le (by rw [List.size_toArray]; omega)
      rw [e]
      clear F3 N3
      k_steps
      all_goals (
        unfold Stop
        refine LCg.ListComp_U (F₀ := by k_asm) (by with_unfolding_all rfl) (by decide) (by rfl) (by decide) (by rfl) ?_
        k_steps
        unfold Stop
        rename News _ _ _ _ => N4
        rename Fr _ _ _ _ => F4
        refine CompSrc.ledger (its := ys.toArray) (k := ys.length) (by with_unfolding_all rfl) F4 N4 (by k_mem) (by rw [List.size_toArray, sizeLine_eq]; omega) fun g3 => ?_
        refine comp_inv (JSx _ (ds.map T.show)) _ ?turn3 ?fin3 _ 0 [] _ (Nat.zero_add _) ⟨rfl, .nil⟩
        case turn3 =>
          rintro i2 zs news v I oI C oC D m₂ h tk E' hi2 ⟨rfl, hzs⟩ hv hC hx F2 N2 off ne
          have hv' : ys[i2]? = some v := by simpa using hv
          obtain ⟨T1, v1, d1, u1, rfl, hT, hvs, hds, _⟩ := hP.get hv'
          clear hv F4 N4
          k_steps
          unfold Stop
          exact CompEnd.intro (by assumption) N2 _ (fun p hp => hp) off (.inr ⟨_, by k_mem, rfl, _, rfl⟩) ⟨rfl, by rw [List.take_add_one, List.getElem?_map, hds]; exact strs_snoc hzs _ _⟩
        case fin3 =>
          rintro zs news ⟨rfl, hzs⟩
          have e : (ds.map T.show).take ys.toArray.size = ds.map T.show := List.take_of_length_le (by rw [List.size_toArray, List.length_map]; omega)
          rw [e] at hzs
          have hzl := StrsAre.length hzs
          rw [List.length_map] at hzl
          have hj2 := join_len (Str.ofString " ") (nm :: ds.map T.show)
          rw [sp_len, tot_cons, List.length_cons, List.length_map] at hj2
          clear F4 N4 e
          k_steps
          rename News _ _ _ _ => N5
          refine hret _ _ _ (fun b o hb e => Fr.keep (by assumption) b o (hg b o hb e)) (PenPost.of hg N5 (by k_mem) (PenIs.mono hpen2 (by omega)) fun l' hl => ?_)
          exact TreeR.node (hl _ (by k_mem) (neN (by omega))) (hl _ (by k_mem) (neN (by omega))) (hl _ (by k_mem) (neN (by omega))) (hl _ (by k_mem) (neN (by omega))) rfl ⟨_, rfl⟩ hnm (hP.mono (fun q hq => hl q (by k_mem) (hlP q hq)) fun v d => TreeAt.mo _ _ v d fun q hq => hl q (by k_mem) (hlP q hq)) rfl (by omega))
set_option maxHeartbeats 8000000 in
theorem ltree_base (w : World) (P : Addr) (o : Obj) (k : Int) (v : Tok) (ho : PenIs o k) (hk9 : k ≤ 890000) :
    Calls w 249 [P] [.ref P, .int 0 v] 4 12 (fun h => h.get? P = some o) (PenPost P (k + 2) (TreeR w 1)) := by
  w_top off
  unfold Calls
  k_fill
  intro p loose mean mg mb dp un gd cn cs L a ccd cl outer A₀ base h₀ m s Q E B F X T hk0 hdp hun hhide hpre hret
  have N : News h₀ L s.heap [(P, o)] := by
    intro q hq
    obtain rfl := List.mem_singleton.mp hq
    exact ⟨hpre, hhide P (List.mem_singleton.mpr rfl)⟩
  k_dflt (refine' enterHC _ ?k1 ?k2 ?k3 ?k4 ?k5 ?kA ?kF ?kK ?k6 ?k7 ?k8 ?k9 ?kB ?kD ?_ ?c2 ?c3 ?c4; (case kA => exact rfl); (case kF => exact rfl); (case kK => assumption); (case k1 => k_asm); (case k2 => k_asm); (case k3 => k_asm); (case k4 => k_asm); (case k5 => k_asm); (case k6 => k_is); (case k7 => k_is); (case k8 => (dsimp only [ktrTop]; omega)); (case k9 => exact BindsTo.of_eq rfl); (case kB => exact rfl); (case kD => decide +kernel); (case c2 => exact rfl); (case c3 => exact rfl); (case c4 => exact rfl))
  k_whole
  intro g L' h' tk cells F' N' Y' B' X' T' hg hlt
  clear N F X T B
  k_cells Y'
  (try simp only [List.cons_append, List.nil_append] at N')
  (try dsimp only)
  (try k_fold)
  rename_i oc1 oc2 dc1 dc2
  have hPL : @LT.lt Nat _ P L' := hlt (P, o) (List.mem_singleton.mpr rfl)
  k_steps
  unfold Stop
  rename News _ _ _ _ => N1
  have hpen : PenIs _ (k + 1) := PenIs.mono ho (by omega)
  refine' Calls.useM (leaf_ok w P _ (k + 1) hpen (by omega)) [] ?hm (fun _ h => nomatch h) (fun _ h => nomatch h) ?k1 ?k2 ?k3 N1 ?k5 ?k6 ?k7 ?k8 ?_
  case hm => k_mem
  case k1 => k_asm
  case k2 => k_asm
  case k3 => k_asm
  case k5 => k_asm
  case k6 => first | rfl | assumption
  case k7 => k_room
  case k8 => ((try simp only [units_in1, units_deeper, Around.mark_units]); (try dsimp only [ktrTop]); omega)
  intro r' h' tk' l2 o2 F' N' hf hpen2 hR
  k_steps
  refine hret _ _ _ (fun b o hb e => Fr.keep (by assumption) b o (hg b o hb e)) (PenPost.of hg N' (.head _) (PenIs.mono hpen2 (by omega)) fun l' hl => ?_)
  exact TreeR.up hR (by omega) fun q hq => hl q (.tail _ hq) (hf (P, _) (by k_mem) q hq)
end Mine
section
open PySem PySem.W PySem.Calls PySem.Spec PyProof.Rows PyProof.Rows.LCg
set_option maxRecDepth 100000
namespace Mine
theorem Calls.mono {w : World} {f : Addr} {hide : List Addr} {vs : List Value} {dd uu dd' uu' : Nat} {Pre : Heap → Prop} {Post : Heap → Heap → Value → Prop} (C : Calls w f hide vs dd uu Pre Post) (hd : dd ≤ dd') (hu : uu ≤ uu') : Calls w f hide vs dd' uu' Pre Post :=
  fun p loose mean mg mb dp un gd cn cs L a ccd cl outer A₀ base h₀ m s Q E B F X T hk h1 h2 => C p loose mean mg mb dp un gd cn cs L a ccd cl outer A₀ base h₀ m s Q E B F X T hk (by omega) (by omega)
theorem ltree1 (w : World) (P : Addr) (o : Obj) (k : Int) (v : Tok) (ho : PenIs o k) (hk9 : k ≤ 889000) :
    Calls w 249 [P] [.ref P, .int 1 v] 8 30 (fun h => h.get? P = some o) (PenPost P (k + 9) (TreeR w 4)) := by
  have := ltree_step w 1 2 890000 1 4 20 (by decide) (by decide) (by decide) (by decide) (by decide) (by decide) (by decide) (by decide) (by decide) (fun P o k v ho hk => (ltree_base w P o k v ho hk).mono (by decide) (by decide)) P o k v ho (by omega)
  rw [show k + 3 + 3 * 2 = k + 9 by omega] at this
  exact this
theorem ltree2 (w : World) (P : Addr) (o : Obj) (k : Int) (v : Tok) (ho : PenIs o k) (hk9 : k ≤ 888000) :
    Calls w 249 [P] [.ref P, .int 2 v] 12 40 (fun h => h.get? P = some o) (PenPost P (k + 30) (TreeR w 13)) := by
  have := ltree_step w 2 9 889000 4 8 30 (by decide) (by decide) (by decide) (by decide) (by decide) (by decide) (by decide) (by decide) (by decide) (fun P o k v ho hk => ltree1 w P o k v ho hk) P o k v ho (by omega)
  rw [show k + 3 + 3 * 9 = k + 30 by omega] at this
  exact this
theorem ltree3 (w : World) (P : Addr) (o : Obj) (k : Int) (v : Tok) (ho : PenIs o k) (hk9 : k ≤ 887000) :
    Calls w 249 [P] [.ref P, .int 3 v] 16 50 (fun h => h.get? P = some o) (PenPost P (k + 93) (TreeR w 40)) := by
  have := ltree_step w 3 30 888000 13 12 40 (by decide) (by decide) (by decide) (by decide) (by decide) (by decide) (by decide) (by decide) (by decide) (fun P o k v ho hk => ltree2 w P o k v ho hk) P o k v ho (by omega)
  rw [show k + 3 + 3 * 30 = k + 93 by omega] at this
  exact this
theorem ltree4 (w : World) (P : Addr) (o : Obj) (k : Int) (v : Tok) (ho : PenIs o k) (hk9 : k ≤ 886000) :
    Calls w 249 [P] [.ref P, .int 4 v] 20 60 (fun h => h.get? P = some o) (PenPost P (k + 282) (TreeR w 121)) := by
  have := ltree_step w 4 93 887000 40 16 50 (by decide) (by decide) (by decide) (by decide) (by decide) (by decide) (by decide) (by decide) (by decide) (fun P o k v ho hk => ltree3 w P o k v ho hk) P o k v ho (by omega)
  rw [show k + 3 + 3 * 93 = k + 282 by omega] at this
  exact this
end Mine
end

section
open PySem PySem.W PySem.Calls PySem.Spec PyProof.Rows
set_option maxRecDepth 100000
namespace Mine
section
variable {prog : Program} {w : World} {A : Around} {E : Value → Shared → Prop} {s : Shared} {env : Env} {h₀ : Heap} {x : Str} {body : List Stmt} {Q : Flow → Shared → Prop}

/-- a for over a range of any length, its body keeping an invariant -/
theorem loop_rng {r : Addr} {a₀ b₀ : Int} {t₀ u₀ v₀ : Tok} {n : Nat} {m₀ : Str → Option Value} {news : List (Addr × Obj)} (J : Nat → (Str → Option Value) → List (Addr × Obj) → Prop)
    (hh : A.handled = none) (hr : IsRange s.heap r a₀ b₀ 1 t₀ u₀ v₀) (hsmall : Builtin.Range.small a₀ b₀ 1 = true) (hn : Builtin.Range.rangeSize a₀ b₀ 1 = (n : Int)) (F : Fr h₀ env.locals s.heap m₀) (N : News h₀ env.locals s.heap news) (hJ : J 0 m₀ news)
    (turn : ∀ i t m₁ nx h tk I oI, i < n → J i m₁ nx → (∀ p ∈ nx, p.1 ≠ I) → Fr h₀ env.locals h (fun y => if y = x then some (.int (a₀ + (i : Int)) t) else m₁ y) → News h₀ env.locals h ((I, oI) :: nx) →
      wpAny (model prog w) A (execs body env) (UnrPost h₀ env.locals { s with heap := h, toks := tk } I oI (J (i + 1)) Q) E { s with heap := h, toks := tk })
    (done : ∀ m₁ nx h tk, J n m₁ nx → Fr h₀ env.locals h m₁ → News h₀ env.locals h nx → Q .next { s with heap := h, toks := tk }) :
    wpAny (model prog w) A (pyIter (.ref r)) (fun it s₂ => LoopAtV prog w A h₀ env x body Q E it s₂) E s := by
  refine wpAny_pyIter_range hr hsmall ?_
  have W : Walks prog w A s.heap.objs.size [s.heap.objs.size] [s.heap.objs.size] n (fun i v => i < n ∧ ∃ t, v = .int (a₀ + i * 1) t)
      (fun i h => IsRangeIter h s.heap.objs.size (a₀ + (i : Nat) * 1) ((n : Int) - (i : Nat)) 1) := (Walks.range hh _ a₀ 1 n).bound
  have hnew := next_is_new F
  refine ⟨_, _, _, n, _, _, m₀, news, J, rfl, W, ?_, ?_, ?_, (by show IsRangeIter _ _ _ _ _; rw [hn]; simpa using Heap.get?_push_size _ rfl), F.push _, (fun p hp => ⟨Heap.get?_push_of_some _ (N p hp).1, (N p hp).2⟩), hJ, ?_, ?_⟩
  · intro hm
    exact absurd F.ns.lt ((List.mem_singleton.mp hm) ▸ Nat.lt_irrefl _)
  · intro b hb
    rw [List.mem_singleton.mp hb]
    exact hnew
  · intro p hp hI
    exact absurd (Heap.lt_size (N p hp).1) ((List.mem_singleton.mp hI) ▸ Nat.lt_irrefl _)
  · rintro i v m₁ news₁ s₁ own ⟨hh', tk', rfl⟩ hin ⟨_, t, rfl⟩ hJ₁ hoff hown hget hall hst F₁ N₁
    have hst' : hh'.get? s.heap.objs.size = some (krsIt (a₀ + ((i + 1 : Nat) : Int) * 1) ((n : Int) - ((i + 1 : Nat) : Int)) 1) := hst
    have hmem := hall s.heap.objs.size (List.mem_singleton.mpr rfl) hnew _ hst'
    have N₂ : News h₀ env.locals hh' ((s.heap.objs.size, krsIt (a₀ + ((i + 1 : Nat) : Int) * 1) ((n : Int) - ((i + 1 : Nat) : Int)) 1) :: news₁) := fun p hp => by
      rcases List.mem_cons.mp hp with rfl | hp
      · exact N₁ _ (List.mem_append_left _ hmem)
      · exact N₁ _ (List.mem_append_right _ hp)
    have hoff' : ∀ p ∈ news₁, p.1 ≠ s.heap.objs.size := fun p hp e => hoff p hp (List.mem_singleton.mpr e)
    have e1 : a₀ + (i : Int) * 1 = a₀ + (i : Int) := by omega
    rw [e1] at F₁
    refine wpAny_mono (turn i t m₁ news₁ hh' tk' _ _ hin hJ₁ hoff' F₁ N₂) (fun f s₂ p => ?_) fun _ _ e => e
    have fin : UnrEnd h₀ env.locals { s with heap := hh', toks := tk' } s.heap.objs.size (krsIt (a₀ + ((i + 1 : Nat) : Int) * 1) ((n : Int) - ((i + 1 : Nat) : Int)) 1) (J (i + 1)) s₂ →
        LoopStepU h₀ env.locals [s.heap.objs.size] own (J (i + 1)) { s with heap := hh', toks := tk' } .next s₂ := by
      rintro ⟨h', tk, m', news', e, F', N', ho, r⟩
      refine ⟨rfl, h', tk, m', news', e, F', fun p hp => ?_, fun p hp hI => ho p hp (List.mem_singleton.mp hI), r⟩
      rcases List.mem_append.mp hp with hp | hp
      · have h1 : p.1 = s.heap.objs.size := List.mem_singleton.mp (hown p hp)
        have h2 : hh'.get? p.1 = some p.2 := hget p hp
        have h3 : p = (s.heap.objs.size, krsIt (a₀ + ((i + 1 : Nat) : Int) * 1) ((n : Int) - ((i + 1 : Nat) : Int)) 1) := by
          rw [h1, hst'] at h2
          exact Prod.ext h1 (Option.some.inj h2).symm
        rw [h3]; exact N' _ (List.mem_cons_self ..)
      · exact N' _ (List.mem_cons_of_mem _ hp)
    cases f with
    | ret v => exact .ret p
    | brk => exact .brk p
    | next => exact .next (fin p)
    | cont => exact .cont (fin p)
  · rintro h' tk m' news' F' N' _ hJ'
    exact done m' news' h' tk hJ' F' N'
end
section
variable {w : World} {f : Addr} {vs : List Value} {dd uu : Nat} {Pre : Heap → Prop} {R : List (Addr × Obj) → Value → Prop}
  {p : Program} {loose : List Str} {mean : ExcName → Option Value} {mg mb : Str → Option Value}
  {dp un : Nat} {gd : Option (List Code)} {cn : Str} {cs : Scope} {L a : Addr} {ccd : Value} {cl : List (Str × Addr)} {outer : List Env} {A₀ : Around} {base h₀ : Heap} {m : Str → Option Value} {s : Shared}
  {Q E : Value → Shared → Prop} {news : List (Addr × Obj)}
/-- a def that makes things and changes none, called -/
theorem Calls.useF (C : Calls w f [] vs dd uu Pre (fun h h' r => R (fresh h h') r)) (B : Below A₀ base outer h₀) (F : Fr h₀ L s.heap m) (X : (mk.heap_1 w.params).In h₀) (N : News h₀ L s.heap news) (T : Top p loose mean mg mb h₀) (hk : cs.kind = .function)
    (hd' : dp + dd < recursionLimit) (hu : un + uu < cLine) (hp : Pre s.heap)
    (ret : ∀ r h' tk' l, Fr h₀ L h' m → News h₀ L h' (news ++ l) → (∀ q ∈ news, ∀ x ∈ l, x.1 ≠ q.1) → R l r → Q r { s with heap := h', toks := tk' }) :
    wpAny (model PySem.Challenge.rw_qd0055_01.row.prog w) (ktrTop dp un gd cn cs L a ccd cl outer) (call (.ref f) vs) Q E s := by
  refine Calls.use0 C B F X N T hk hd' hu hp fun r h' tk' F' N' hkeep hR => ?_
  refine ret r h' tk' (fresh s.heap h') F' ?_ ?_ hR
  · intro q hq
    rcases List.mem_append.mp hq with hq | hq
    · exact N' q hq
    · obtain ⟨x, ox⟩ := q
      obtain ⟨b1, b2⟩ := mem_fresh.mp hq
      refine ⟨b2, fun e => ?_, ?_⟩
      · obtain ⟨oL, _, _, hL, _⟩ := F.ns
        dsimp only at e
        rw [e, hL] at b1; cases b1
      · cases hz : h₀.get? x with
        | none => rfl
        | some z => rw [F.keep _ _ hz] at b1; cases b1
  · intro q hq x hx e
    obtain ⟨y, oy⟩ := x
    have b1 := (mem_fresh.mp hx).1
    dsimp only at e
    rw [e, (N q hq).1] at b1; cases b1
theorem fresh_of0 {g h h' : Heap} {L a : Addr} {o : Obj} {news : List (Addr × Obj)} (N : News g L h' news) (hg : ∀ b o, b ∉ ([] : List Addr) → h.get? b = some o → g.get? b = some o) (hm : (a, o) ∈ news) : (a, o) ∈ fresh h h' := by
  refine mem_fresh.mpr ⟨?_, (N _ hm).1⟩
  cases hq : h.get? a with
  | none => rfl
  | some x => have := (N _ hm).2.2; rw [hg _ _ (by simp) hq] at this; cases this
end
end Mine
end

section
open PySem PySem.W PySem.Calls PySem.Spec PyProof.Rows
set_option maxRecDepth 100000
namespace Mine
theorem pick30 (vs : List Value) : (slicePick vs.toArray none (some 30) none).toList = vs.take 30 := by
  have e : sliceBounds none (some (30 : Int)) none vs.toArray.size = (((0 : Nat) : Int), ((min 30 vs.length : Nat) : Int), 1) := by
    simp only [sliceBounds, Option.getD_none, show (1 : Int) > 0 by decide, if_true, if_neg (show ¬ ((30 : Int) < 0) by decide), List.size_toArray]
    congr 1
    congr 1
    omega
  rw [kmk_pick_nat _ e]
  simp only [List.drop_zero, Nat.sub_zero]
  by_cases h : 30 ≤ vs.length
  · rw [Nat.min_eq_left h]
  · rw [Nat.min_eq_right (by omega), List.take_length, List.take_of_length_le (by omega)]
section
variable {prog : Program} {w : World} {A : Around} {E : Value → Shared → Prop} {s : Shared} {t u : Tok} {Q : Value → Shared → Prop}
theorem powG {a b : Int} (hb : 0 ≤ b) (hb2 : b ≤ 1000000) (ha : 0 < a) (ha2 : a < 100) (h : ∀ c, 0 < c → Q (.int c s.toks) { s with toks := s.toks + 1 }) : wpAny (model prog w) A (binaryOp .Pow (.int a t) (.int b u)) Q E s :=
  pow_int_small hb hb2 (by omega) (h _ (Int.pow_pos ha))
theorem int01 {b : Bool} (h : ∀ c v tk, c = 0 ∨ c = 1 → Q (.int c v) { s with toks := tk }) : wpAny (model prog w) A (call (.type "int") [.bool b]) Q E s :=
  call_int_bool (h _ _ _ (by cases b <;> simp))
theorem absG {a : Int} (h : ∀ c v tk, 0 ≤ c → Q (.int c v) { s with toks := tk }) : wpAny (model prog w) A (call (.builtin "abs") [.int a t]) Q E s :=
  call_abs_int fun v tk => h _ v tk (by split <;> omega)
theorem modG {a b : Int} (hb : 0 < b) (h : ∀ c, 0 ≤ c → Q (.int c s.toks) { s with toks := s.toks + 1 }) : wpAny (model prog w) A (binaryOp .Mod (.int a t) (.int b u)) Q E s :=
  mod_int' (by omega) (h _ (Int.fmod_nonneg_of_pos _ hb))
theorem mulG {a b : Int} (ha : 0 ≤ a) (hb : 0 ≤ b) (hs : a ≤ 2000 ∨ b ≤ 2000) (h : ∀ c, 0 ≤ c → Q (.int c s.toks) { s with toks := s.toks + 1 }) : wpAny (model prog w) A (binaryOp .Mult (.int a t) (.int b u)) Q E s :=
  mul_int (h _ (Int.mul_nonneg ha hb)) (hs.elim (fun h => .of_left (intBits_le_64 (by omega) (by omega))) fun h => .of_right (intBits_le_64 (by omega) (by omega)))
theorem addG {a b : Int} (ha : 0 ≤ a) (hb : 0 ≤ b) (h : ∀ c, 0 ≤ c → Q (.int c s.toks) { s with toks := s.toks + 1 }) : wpAny (model prog w) A (binaryOp .Add (.int a t) (.int b u)) Q E s :=
  add_int (h _ (Int.add_nonneg ha hb))
end
local macro_rules | `(tactic| walk_at "exec For Name Subscript cons nil") => `(tactic| walk_at "#f")
local macro_rules | `(tactic| walk_at "pyIter ref") => `(tactic| walk_at "#s")
local macro_rules | `(tactic| walk_at "UnrEnd") => `(tactic| walk_at "#s")
set_option hygiene false in
local macro_rules | `(tactic| walk_at "binaryOp Pow int int") => `(tactic| (k_dflt (refine powG (by decide) (by decide) (by decide) (by decide) ?_); intro _ _))
local macro_rules | `(tactic| walk_at "binaryOp Mod int int") => `(tactic| (k_dflt (refine modG (by assumption) ?_); intro _ _))
set_option hygiene false in
local macro_rules | `(tactic| walk_at "binaryOp Mult int int") => `(tactic| (k_dflt (refine mulG (by omega) (by omega) (by omega) ?_); intro _ _))
local macro_rules | `(tactic| walk_at "binaryOp Add int int") => `(tactic| (k_dflt (refine addG (by omega) (by omega) ?_); intro _ _))
local macro_rules | `(tactic| walk_at "call builtin:abs") => `(tactic| (k_dflt (refine absG ?_); intro _ _ _ _))
set_option hygiene false in
local macro_rules | `(tactic| walk_at "call type:int") => `(tactic| ((with_reducible show wpAny _ _ (call _ [Value.bool _]) _ _ _); k_dflt (refine int01 ?_); intro _ _ _ _))
set_option hygiene false in
local macro_rules | `(tactic| walk_at "call builtin:len") => `(tactic| (k_here; (with_reducible show wpAny _ _ (call _ [Value.ref _]) _ _ _); k_dflt (refine KM.len_K (by k_asm) (by k_mem) rfl ?_ ?_; (simp only [List.size_toArray]; omega))))
local macro_rules | `(tactic| walk_at "subscriptTail Name Slice ref ref") => `(tactic| (k_here; (with_reducible show wpAny _ _ (subscriptTail _ (PySem.Expr.Slice _ _ none _) (Value.ref _) (Value.ref _)) _ _ _); k_dflt (refine' kmk_slice_lit ?F ?N ?l ?p ?q ?e ?_ ?s ?t ?z; (case F => k_asm); (case N => k_asm); (case l => exact isList_keeps (Fr.keep (by k_asm)) (by assumption)); (case p => kmk_part); (case q => kmk_part); (case e => exact pick30 _); (case s => with_unfolding_all rfl); (case t => kmk_pure); (case z => (simp only [List.size_toArray]; rw [sizeLine_eq]; omega))); walk_at "#l"))

/-- between the turns of _law_pen's loop -/
noncomputable def JN (D : Addr) (vs : List Value) (e : Nat) (sc : Value) (m : Str → Option Value) (nx : List (Addr × Obj)) : Prop :=
  ∃ (k : Int) (t : Tok), 0 ≤ k ∧ m (Str.ofString "number") = some (.int k t) ∧ m (Str.ofString "script") = some sc ∧ nx = [(D, W.listOf vs.toArray e)]
noncomputable def PenR (l : List (Addr × Obj)) (r : Value) : Prop := ∃ P o, r = .ref P ∧ (P, o) ∈ l ∧ PenIs o 30

set_option maxHeartbeats 8000000 in
theorem pen_ok (w : World) (S : Addr) (vs : List Value) (ns : List Int) (hi : IntsAre vs ns) (hz : vs.length ≤ 2000000) :
    Calls w 220 [] [.ref S] 2 6 (fun h => h.IsList S vs.toArray) (fun h h' r => PenR (fresh h h') r) := by
  w_top off
  unfold Calls
  k_fill
  intro p loose mean mg mb dp un gd cn cs L a ccd cl outer A₀ base h₀ m s Q E B F X T hk0 hdp hun hhide hpre hret
  have N : News h₀ L s.heap [] := News.nil
  k_dflt (refine' enterH [] ?k1 ?k2 ?k3 ?k4 ?k5 ?kA ?kF ?kK ?k6 ?k7 ?k8 ?k9 ?kB ?_ ?c2 ?c3 ?c4 ?c5; (case kA => exact rfl); (case kF => exact rfl); (case kK => assumption); (case k1 => k_asm); (case k2 => k_asm); (case k3 => k_asm); (case k4 => k_asm); (case k5 => k_asm); (case k6 => k_is); (case k7 => k_is); (case k8 => (dsimp only [ktrTop]; omega)); (case k9 => exact BindsTo.of_eq rfl); (case c5 => decide); (case kB => exact locs rfl); (case c2 => exact rfl); (case c3 => exact rfl); (case c4 => exact rfl))
  k_whole
  intro g L' h' tk F' N' B' X' T' hg hlt
  have hl : g.IsList S vs.toArray := isList_keeps (fun b o e => hg b o (by simp) e) hpre
  clear N F X T B
  (try dsimp only)
  (try k_fold)
  have h30 : (vs.take 30).length ≤ 30 := by rw [List.length_take]; omega
  k_steps
  unfold Stop
  rename News _ _ _ _ => N1
  rename Fr _ _ _ _ => F1
  rename_i D1 _ _
  refine loop_any (vs := vs.take 30) (lo := W.listOf (vs.take 30).toArray 0) (fun _ => JN D1 (vs.take 30) 0 (.ref S)) (by with_unfolding_all rfl) rfl ⟨_, rfl⟩ F1 N1 ⟨0, _, Int.le_refl _, rfl, rfl, rfl⟩ ?kX ?turn ?done
  case kX =>
    rintro i m nx ⟨k, t, _, _, _, rfl⟩
    exact .inr (.head _)
  case done =>
    clear N1 F1
    rintro m₂ nx2 h₂ tk₂ ⟨k, t, hk, h1, h2, rfl⟩ F₂ N₂
    rw [map_two h1 h2] at F₂
    k_steps
    rename News _ _ _ _ => N3
    refine hret _ _ _ (fun b o hb e => Fr.keep (by assumption) b o (hg b o hb e)) ⟨_, _, rfl, fresh_of0 N3 hg (.head _), ⟨_, _, _, _, _, rfl, hk, ?_, ?_⟩⟩
    all_goals (first | omega | (simp only [List.size_toArray]; omega))
  case turn =>
    clear N1 F1
    rintro i v' m₂ nx2 h₂ tk₂ I oI hv ⟨k, t, hk, h1, h2, rfl⟩ hoff hcI F₂ N₂
    obtain ⟨n, tn, rfl, _⟩ := (hi.take 30).at i v' hv
    have hI1 := hoff _ (.head _)
    rw [map_two h1 h2] at F₂
    k_steps
    unfold Stop
    rename News _ _ _ _ => N1
    exact UnrEnd.intro (by assumption) N1 [(_, W.listOf (vs.take 30).toArray 0)] (fun p hp => hp) (fun p hp => by obtain rfl := List.mem_singleton.mp hp; exact hI1) ⟨_, _, by assumption, rfl, rfl, rfl⟩
end Mine
end

section
open PySem PySem.W PySem.Calls PySem.Spec PyProof.Rows
set_option maxRecDepth 100000
namespace Mine
section
variable {prog : Program} {w : World} {A : Around} {E : Value → Shared → Prop} {s : Shared} {t u : Tok} {Q : Value → Shared → Prop}
/-- a sign, n times -/
noncomputable def rp (c n : Nat) : Str := ⟨(List.replicate n c).toArray⟩
theorem rp_mul (c n : Nat) : Txt.mul ⟨#[c]⟩ (n : Int) = rp c n := by
  have := mul_one_list c (n : Int)
  apply Str.ext'
  apply Array.ext'
  rw [this]
  simp [rp]
theorem rp_len (c n : Nat) : (rp c n).length = n := by show (List.replicate n c).toArray.size = n; simp
theorem rp_succ (c n : Nat) : rp c (n + 1) = ⟨#[c]⟩ ++ rp c n := by
  apply Str.ext'
  rw [Str.cps_append]
  simp [rp, List.replicate_succ]
theorem rp_snoc (c n : Nat) : rp c (n + 1) = rp c n ++ ⟨#[c]⟩ := by
  apply Str.ext'
  rw [Str.cps_append]
  apply Array.ext'
  show (List.replicate (n + 1) c).toArray.toList = ((List.replicate n c).toArray ++ #[c]).toList
  rw [Array.toList_append, List.replicate_succ']
theorem mulR {c : Nat} (h : ∀ t' k, Q (.str (rp c 1010) t') { s with toks := k }) : wpAny (model prog w) A (binaryOp .Mult (.str ⟨#[c]⟩ t) (.int 1010 u)) Q E s :=
  SB.mul (mulOk_of 16 1048576 (show 1 ≤ 16 by decide) (by decide) (by decide) (by decide) (by decide)) fun t' k => by
    rw [show (1010 : Int) = ((1010 : Nat) : Int) from rfl, rp_mul]; exact h t' k
theorem mulA (h : ∀ t' k, Q (.str (rp 91 1010) t') { s with toks := k }) : wpAny (model prog w) A (binaryOp .Mult (.str (Str.ofString "[") t) (.int 1010 u)) Q E s := by
  rw [show Str.ofString "[" = ⟨#[91]⟩ by decide +kernel]; exact mulR h
theorem mulB (h : ∀ t' k, Q (.str (rp 93 1010) t') { s with toks := k }) : wpAny (model prog w) A (binaryOp .Mult (.str (Str.ofString "]") t) (.int 1010 u)) Q E s := by
  rw [show Str.ofString "]" = ⟨#[93]⟩ by decide +kernel]; exact mulR h
theorem eqT {x y : Str} (e : x = y) (h : Q (.bool true) s) : wpAny (model prog w) A (compareOp .Eq (.str x t) (.str y u)) Q E s :=
  eq_str (by subst e; rw [beq_self_eq_true]; exact h)
end
noncomputable def coreT : Str := Str.ofString "[7, \"x\"]"
noncomputable def deepT (i : Nat) : Str := rp 91 i ++ coreT ++ rp 93 i
theorem core_len : (Str.ofString "[7, \"x\"]").length = 8 := by decide +kernel
theorem deepT_eq : deepT 1010 = rp 91 1010 ++ Str.ofString "[7, \"x\"]" ++ rp 93 1010 := rfl
theorem deepT_len (i : Nat) : (deepT i).length = 2 * i + 8 := by
  unfold deepT
  rw [Str.length_append, Str.length_append, rp_len, rp_len]
  have : coreT.length = 8 := by decide +kernel
  omega
theorem deepT_succ (i : Nat) (d : V) (b : Bool) (h : d.show = deepT i) : (V.s1 b d).show = deepT (i + 1) := by
  show cat [Str.ofString "[", d.show, Str.ofString "]"] = _
  have e1 : Str.ofString "[" = ⟨#[91]⟩ := by decide +kernel
  have e2 : Str.ofString "]" = ⟨#[93]⟩ := by decide +kernel
  rw [cat_cons, cat_cons, cat_one, h, e1, e2]
  unfold deepT
  rw [rp_succ 91, rp_snoc 93]
  simp only [Str.append_assoc]
local macro_rules | `(tactic| walk_at "exec For Name Call cons nil") => `(tactic| walk_at "#f")
local macro_rules | `(tactic| walk_at "call type:range") => `(tactic| walk_at "#r")
local macro_rules | `(tactic| walk_at "pyIter ref") => `(tactic| walk_at "#s")
local macro_rules | `(tactic| walk_at "UnrEnd") => `(tactic| walk_at "#s")
set_option hygiene false in
local macro_rules | `(tactic| walk_at "binaryOp Mult str int") => `(tactic| (first | (with_reducible refine mulA ?_) | (with_reducible refine mulB ?_); intro _ _))
set_option hygiene false in
local macro_rules | `(tactic| walk_at "binaryOp Add str str") => `(tactic| (k_here; (with_reducible show wpAny _ _ (binaryOp Operator.Add (Value.str _ _) (Value.str _ _)) _ _ _); k_dflt (refine addS ?_ ?_; (simp only [Str.length_append, rp_len, core_len]; omega)); intro _ _))
local macro_rules | `(tactic| walk_at "compareOp Eq str str") => `(tactic| walk_at "#s")
local macro_rules | `(tactic| walk_at "call ref") => `(tactic| walk_at "#s")

/-- between the turns of _law_deep_value_right's loop -/
noncomputable def JR (i : Nat) (m : Str → Option Value) (nx : List (Addr × Obj)) : Prop :=
  ∃ v d, m (Str.ofString "value") = some v ∧ (∀ hp, Sub nx hp → DatH hp v d) ∧ d.show = deepT i ∧ d.wt = 6 + 3 * i
theorem JR.step {i : Nat} {m : Str → Option Value} {nx : List (Addr × Obj)} {v : Value} {d : V} {D : Addr} {b : Bool} {n : Nat} (hm : m (Str.ofString "value") = some (.ref D)) (hD : ∀ hp, Sub nx hp → DatH hp v d) (hs : d.show = deepT i) (hw : d.wt = 6 + 3 * i) :
    JR (i + 1) m ((D, sqO b #[v] n) :: nx) :=
  ⟨_, .s1 b d, hm, fun hp S => .s1 (sqO_is (S _ (.head _))) (hD hp (S.mono fun q hq => .tail _ hq)), deepT_succ i d b hs, by simp only [V.wt]; omega⟩
theorem JR.fin {g h' : Heap} {L I D : Addr} {oI : Obj} {s₁ : Shared} {tk : Nat} {m' : Str → Option Value} {i : Nat} {nx : List (Addr × Obj)} {v : Value} {d : V} (b : Bool) {n : Nat} (F : Fr g L h' m') (N : News g L h' ((D, sqO b #[v] n) :: (I, oI) :: nx)) (hoff : ∀ p ∈ nx, p.1 ≠ I) (l1 : @LT.lt Nat _ I D)
    (hm : m' (Str.ofString "value") = some (.ref D)) (hD : ∀ hp, Sub nx hp → DatH hp v d) (hs : d.show = deepT i) (hw : d.wt = 6 + 3 * i) : UnrEnd g L s₁ I oI (JR (i + 1)) { s₁ with heap := h', toks := tk } :=
  UnrEnd.intro F N ((D, sqO b #[v] n) :: nx) (fun p hp => by
    rcases List.mem_cons.mp hp with rfl | hp
    · exact .tail _ (.head _)
    · rcases List.mem_cons.mp hp with rfl | hp
      · exact .head _
      · exact .tail _ (.tail _ hp)) (fun p hp => by
    rcases List.mem_cons.mp hp with rfl | hp
    · exact Nat.ne_of_gt l1
    · exact hoff p hp) (JR.step hm hD hs hw)

set_option maxHeartbeats 8000000 in
theorem right_ok (w : World) :
    Calls w 263 [] [] 14 60 (fun _ => True) (fun _ _ r => r = .bool true) := by
  w_top off
  unfold Calls
  k_fill
  intro p loose mean mg mb dp un gd cn cs L a ccd cl outer A₀ base h₀ m s Q E B F X T hk0 hdp hun hhide hpre hret
  have N : News h₀ L s.heap [] := News.nil
  k_dflt (refine' enterH [] ?k1 ?k2 ?k3 ?k4 ?k5 ?kA ?kF ?kK ?k6 ?k7 ?k8 ?k9 ?kB ?_ ?c2 ?c3 ?c4 ?c5; (case kA => exact rfl); (case kF => exact rfl); (case kK => assumption); (case k1 => k_asm); (case k2 => k_asm); (case k3 => k_asm); (case k4 => k_asm); (case k5 => k_asm); (case k6 => k_is); (case k7 => k_is); (case k8 => (dsimp only [ktrTop]; omega)); (case k9 => exact BindsTo.of_eq rfl); (case c5 => decide); (case kB => exact locs rfl); (case c2 => exact rfl); (case c3 => exact rfl); (case c4 => exact rfl))
  k_whole
  intro g L' h' tk F' N' B' X' T' hg hlt
  clear N F X T B
  (try dsimp only)
  (try k_fold)
  k_steps
  unfold Stop
  rename News _ _ _ _ => N1
  rename Fr _ _ _ _ => F1
  rename IsRange _ _ _ _ _ _ _ _ => R1
  refine loop_rng (n := 1010) JR (by with_unfolding_all rfl) R1 (by first | decide | rfl) (by first | rfl | decide) F1 N1 ⟨_, .s2 true (.lf (.int 7)) (.lf (.txt (Str.ofString "x"))), rfl, fun hp S => ?start, by decide +kernel, rfl⟩ ?turn ?done
  case start => exact .s2 (sqO_is (b := true) (S _ (by k_mem))) (.lf .int ⟨by decide, by decide⟩) (.lf .txt (by simp only [Lf.ok]; decide +kernel))
  case done =>
    clear N1 F1 R1
    rintro m₂ nx2 h₂ tk₂ ⟨v, d, h1, hD, hs, hw⟩ F₂ N₂
    rw [map_one h1] at F₂
    have hln := deepT_len 1010
    rw [← hs] at hln
    k_steps
    unfold Stop
    refine' Calls.use0 (value_ok w v d (by omega) (by omega)) ?k1 ?k2 ?k3 ?k4 ?k5 ?k6 ?k7 ?k8 ?hpre ?_
    case hpre => exact hD _ (Sub.news N₂ fun q hq => hq)
    case k1 => k_asm
    case k2 => k_asm
    case k3 => k_asm
    case k4 => k_asm
    case k5 => k_asm
    case k6 => first | rfl | assumption
    case k7 => k_room
    case k8 => ((try simp only [units_in1, units_deeper, Around.mark_units]); (try dsimp only [ktrTop]); omega)
    rintro _ h' tk' F' N' hk' ⟨u, rfl⟩
    k_steps
    unfold Stop
    refine eqT (hs.trans deepT_eq) ?_
    k_steps
    exact hret _ _ _ (fun b o hb e => Fr.keep (by assumption) b o (hg b o hb e)) rfl
  case turn =>
    clear N1 F1 R1
    rintro i t₀ m₂ nx2 h₂ tk₂ I oI hi ⟨v, d, h1, hD, hs, hw⟩ hoff F₂ N₂
    rw [map_one h1] at F₂
    k_steps
    all_goals (
      unfold Stop
      rename News _ _ _ _ => N1
      first
      | exact JR.fin true (n := 0) (by assumption) N1 hoff (by omega) rfl hD hs hw
      | exact JR.fin false (n := 0) (by assumption) N1 hoff (by omega) rfl hD hs hw)
end Mine
end

section
open PySem PySem.W PySem.Calls PySem.Spec PyProof.Rows PyProof.Rows.LCg
set_option maxRecDepth 100000
namespace Mine
section
variable {prog : Program} {w : World} {A : Around} {E : Value → Shared → Prop} {s : Shared} {t u : Tok} {Q : Value → Shared → Prop} {h₀ : Heap} {L : Addr} {m : Str → Option Value} {news : List (Addr × Obj)}
noncomputable def AB (a b : Int) : Prop := a = 0 ∧ b = 1 ∨ a = 1 ∧ b = 0
theorem intAB {x : Bool} {a b : Int} (hab : AB a b) (h : ∀ c v tk, c = 0 ∨ c = 1 → a * c = 0 ∨ a * c = 1 → b * c = 0 ∨ b * c = 1 → a * c = 0 ∨ b * c = 0 → Q (.int c v) { s with toks := tk }) : wpAny (model prog w) A (call (.type "int") [.bool x]) Q E s :=
  call_int_bool (by
    rcases hab with ⟨rfl, rfl⟩ | ⟨rfl, rfl⟩ <;> cases x
    · exact h 0 _ _ (.inl rfl) (.inl rfl) (.inl rfl) (.inl rfl)
    · exact h 1 _ _ (.inr rfl) (.inl rfl) (.inr rfl) (.inl rfl)
    · exact h 0 _ _ (.inl rfl) (.inl rfl) (.inl rfl) (.inl rfl)
    · exact h 1 _ _ (.inr rfl) (.inr rfl) (.inl rfl) (.inr rfl))
theorem mulC {a c : Int} (hc : c = 0 ∨ c = 1) (h : Q (.int (a * c) s.toks) { s with toks := s.toks + 1 }) : wpAny (model prog w) A (binaryOp .Mult (.int a t) (.int c u)) Q E s :=
  mul_int h (.of_right (intBits_le_64 (by omega) (by omega)))
theorem mulL {l : Addr} {v : Value} {x : Int} (hx : x = 0 ∨ x = 1) (F : Fr h₀ L s.heap m) (N : News h₀ L s.heap news) (hl : s.heap.IsList l [v].toArray)
    (h : ∀ D h' ls, ls.length ≤ 1 → (x = 0 ∧ ls = [] ∨ x = 1 ∧ ls = [v]) → Fr h₀ L h' m → News h₀ L h' ((D, W.listOf ls.toArray 0) :: news) → (∀ p ∈ news, p.1 < D) → Q (.ref D) { s with heap := h' }) : wpAny (model prog w) A (binaryOp .Mult (.ref l) (.int x u)) Q E s := by
  rcases hx with rfl | rfl
  · exact KMa.mul (ws := []) F N hl (by decide) (by decide) (Nat.zero_le _) rfl fun D h' => h D h' [] (by decide) (.inl ⟨rfl, rfl⟩)
  · exact KMa.mul (ws := [v]) F N hl (by decide) (by decide) (by simp) rfl fun D h' => h D h' [v] (by simp) (.inr ⟨rfl, rfl⟩)
theorem mulS {x : Str} {n : Int} (hx : x.length ≤ 16) (hn : n = 0 ∨ n = 1) (h : ∀ t' k y, y.length ≤ x.length → (n = 0 ∧ y = ⟨#[]⟩ ∨ n = 1 ∧ y = x) → Q (.str y t') { s with toks := k }) : wpAny (model prog w) A (binaryOp .Mult (.str x t) (.int n u)) Q E s :=
  SB.mul (mulOk_of 16 1048576 hx (by omega) (by omega) (by decide) (by decide)) fun t' k => by
    rcases hn with rfl | rfl
    · exact h t' k _ (Nat.zero_le _) (.inl ⟨rfl, rfl⟩)
    · exact h t' k _ (Nat.le_refl _) (.inr ⟨rfl, rfl⟩)
end
theorem s_len : (Str.ofString "(S ").length = 3 := by decide +kernel
theorem a_len : (Str.ofString "a=b ").length = 4 := by decide +kernel
theorem b_len : (Str.ofString " a=b").length = 4 := by decide +kernel
theorem e_len : (Str.ofString "(E)").length = 3 := by decide +kernel
theorem i_len : (Str.ofString "").length = 0 := by decide +kernel
noncomputable def leafAB : T := .leaf (Str.ofString "a") (Str.ofString "b")
theorem leafAB_show : leafAB.show = Str.ofString "a=b" := by decide +kernel
theorem app_empty (x : Str) : (⟨#[]⟩ : Str) ++ x = x := Str.empty_append x
/-- the next tree's text -/
theorem deep_show {t t' : T} {bs es ya yb : Str} {x y : Int} (h : bs ++ Str.ofString "(E)" ++ es = t.show) (h3 : x = 0 ∨ y = 0) (h1 : x = 0 ∧ ya = ⟨#[]⟩ ∨ x = 1 ∧ ya = Str.ofString "a=b ") (h2 : y = 0 ∧ yb = ⟨#[]⟩ ∨ y = 1 ∧ yb = Str.ofString " a=b")
    (ht : x = 0 ∧ y = 0 ∧ t' = .n1 (Str.ofString "S") t ∨ x = 1 ∧ y = 0 ∧ t' = .n2 (Str.ofString "S") leafAB t ∨ x = 0 ∧ y = 1 ∧ t' = .n2 (Str.ofString "S") t leafAB) :
    (Str.ofString "(S " ++ ya ++ bs) ++ Str.ofString "(E)" ++ (es ++ yb ++ Str.ofString ")") = t'.show := by
  have e0 : Str.ofString "(S " = Str.ofString "(" ++ (Str.ofString "S" ++ Str.ofString " ") := by decide +kernel
  have e1 : Str.ofString "a=b " = Str.ofString "a=b" ++ Str.ofString " " := by decide +kernel
  have e2 : Str.ofString " a=b" = Str.ofString " " ++ Str.ofString "a=b" := by decide +kernel
  rcases ht with ⟨rfl, rfl, rfl⟩ | ⟨rfl, rfl, rfl⟩ | ⟨rfl, rfl, rfl⟩
  · rcases h1 with ⟨_, rfl⟩ | ⟨h, _⟩
    · rcases h2 with ⟨_, rfl⟩ | ⟨h, _⟩
      · show _ = Str.ofString "(" ++ (Str.ofString "S" ++ sp ++ t.show) ++ Str.ofString ")"
        rw [← h, e0]
        unfold sp
        simp only [Str.append_assoc, app_empty]
      · cases h
    · cases h
  · rcases h1 with ⟨h, _⟩ | ⟨_, rfl⟩
    · cases h
    · rcases h2 with ⟨_, rfl⟩ | ⟨h, _⟩
      · show _ = Str.ofString "(" ++ (Str.ofString "S" ++ sp ++ (leafAB.show ++ sp ++ t.show)) ++ Str.ofString ")"
        rw [← h, e0, e1, leafAB_show]
        unfold sp
        simp only [Str.append_assoc, app_empty]
      · cases h
  · rcases h1 with ⟨_, rfl⟩ | ⟨h, _⟩
    · rcases h2 with ⟨h, _⟩ | ⟨_, rfl⟩
      · cases h
      · show _ = Str.ofString "(" ++ (Str.ofString "S" ++ sp ++ (t.show ++ sp ++ leafAB.show)) ++ Str.ofString ")"
        rw [← h, e0, e2, leafAB_show]
        unfold sp
        simp only [Str.append_assoc, app_empty]
    · cases h
noncomputable def JD (w : World) (a b : Int) (i : Nat) (m : Str → Option Value) (nx : List (Addr × Obj)) : Prop :=
  ∃ v t x bs es t1 t2 t3 t4, m (Str.ofString "tree") = some v ∧ m (Str.ofString "leaf") = some (.ref x) ∧ m (Str.ofString "begins") = some (.str bs t1) ∧ m (Str.ofString "ends") = some (.str es t2) ∧
    m (Str.ofString "ahead") = some (.int a t3) ∧ m (Str.ofString "behind") = some (.int b t4) ∧ TreeAt w 1 nx (.ref x) leafAB ∧ TreeAt w (1 + 2 * i) nx v t ∧ bs ++ Str.ofString "(E)" ++ es = t.show
theorem TreeAt.n0 {w : World} {l : List (Addr × Obj)} {X c dx : Addr} {u1 u2 u3 u4 u5 : Tok} {rl : Int} {n : Nat} {nm : Str} {oc : Obj} (h2 : (X, instObj 141 dx) ∈ l) (h3 : (dx, dictOf [ent w "name" u1 (.str nm u2), ent w "rule" u3 (.int rl u4), ent w "children" u5 (.ref c)] n) ∈ l)
    (h4 : (c, oc) ∈ l) (hc : oc.cls = .type "list") (hd : ∃ e, oc.data = .seq #[] e) (hn : nm.length ≤ 8) (hs : (brack nm []).length ≤ 20) : TreeAt w 1 l (.ref X) (.n0 nm) :=
  ⟨Nat.le_refl _, hs, fun hp S => .n0 ⟨_, _, _, _, _, _, dx, n, S _ h2, S _ h3⟩ ⟨oc, S _ h4, hc, hd⟩ hn⟩
theorem JD.start {w : World} {a b : Int} {m : Str → Option Value} {nx : List (Addr × Obj)} {X x : Addr} {t1 t2 t3 t4 : Tok} (m1 : m (Str.ofString "tree") = some (.ref X)) (m2 : m (Str.ofString "leaf") = some (.ref x)) (m3 : m (Str.ofString "begins") = some (.str (Str.ofString "") t1)) (m4 : m (Str.ofString "ends") = some (.str (Str.ofString "") t2))
    (m5 : m (Str.ofString "ahead") = some (.int a t3)) (m6 : m (Str.ofString "behind") = some (.int b t4)) (hL : TreeAt w 1 nx (.ref x) leafAB) (hT : TreeAt w 1 nx (.ref X) (.n0 (Str.ofString "E"))) : JD w a b 0 m nx :=
  ⟨_, _, _, _, _, _, _, _, _, m1, m2, m3, m4, m5, m6, hL, hT, by decide +kernel⟩
theorem map_six {m : Str → Option Value} {a b c d e f : Str} {va vb vc vd ve vf : Value} (h1 : m a = some va) (h2 : m b = some vb) (h3 : m c = some vc) (h4 : m d = some vd) (h5 : m e = some ve) (h6 : m f = some vf) :
    m = fun y => if y = a then some va else if y = b then some vb else if y = c then some vc else if y = d then some vd else if y = e then some ve else if y = f then some vf else m y := by
  funext y
  by_cases q : y = a
  · rw [if_pos q, q, h1]
  rw [if_neg q]; by_cases q : y = b
  · rw [if_pos q, q, h2]
  rw [if_neg q]; by_cases q : y = c
  · rw [if_pos q, q, h3]
  rw [if_neg q]; by_cases q : y = d
  · rw [if_pos q, q, h4]
  rw [if_neg q]; by_cases q : y = e
  · rw [if_pos q, q, h5]
  rw [if_neg q]; by_cases q : y = f
  · rw [if_pos q, q, h6]
  rw [if_neg q]
/-- the next tree -/
theorem deep_tree {w : World} {B : Nat} {nx l : List (Addr × Obj)} {X c dx x : Addr} {u1 u2 u3 u4 u5 : Tok} {rl : Int} {n e : Nat} {v : Value} {t : T} {bs es ya yb : Str} {xa xb : Int} {ls ls2 : List Value} (k : ∀ q ∈ nx, q ∈ l)
    (h2 : (X, instObj 141 dx) ∈ l) (h3 : (dx, dictOf [ent w "name" u1 (.str (Str.ofString "S") u2), ent w "rule" u3 (.int rl u4), ent w "children" u5 (.ref c)] n) ∈ l) (h4 : (c, W.listOf (ls ++ [v] ++ ls2).toArray e) ∈ l)
    (hL : TreeAt w 1 nx (.ref x) leafAB) (hT : TreeAt w B nx v t) (h : bs ++ Str.ofString "(E)" ++ es = t.show) (hx : xa = 0 ∨ xb = 0)
    (hl1 : xa = 0 ∧ ls = [] ∨ xa = 1 ∧ ls = [.ref x]) (hl2 : xb = 0 ∧ ls2 = [] ∨ xb = 1 ∧ ls2 = [.ref x]) (h1 : xa = 0 ∧ ya = ⟨#[]⟩ ∨ xa = 1 ∧ ya = Str.ofString "a=b ") (h2' : xb = 0 ∧ yb = ⟨#[]⟩ ∨ xb = 1 ∧ yb = Str.ofString " a=b") :
    ∃ t', TreeAt w (B + 2) l (.ref X) t' ∧ (Str.ofString "(S " ++ ya ++ bs) ++ Str.ofString "(E)" ++ (es ++ yb ++ Str.ofString ")") = t'.show := by
  have hn : (Str.ofString "S").length ≤ 8 := by decide +kernel
  have hya : ya.length ≤ 4 := by rcases h1 with ⟨_, rfl⟩ | ⟨_, rfl⟩; exact Nat.zero_le _; exact Nat.le_of_eq a_len
  have hyb : yb.length ≤ 4 := by rcases h2' with ⟨_, rfl⟩ | ⟨_, rfl⟩; exact Nat.zero_le _; exact Nat.le_of_eq b_len
  have hlen : ((Str.ofString "(S " ++ ya ++ bs) ++ Str.ofString "(E)" ++ (es ++ yb ++ Str.ofString ")")).length ≤ 20 * (B + 2) := by
    have := hT.2.1
    rw [← h] at this
    simp only [Str.length_append, s_len, e_len, par_len2] at this ⊢
    omega
  have N : ∀ hp, Sub l hp → NodeH w hp X c (Str.ofString "S") := fun hp S => ⟨_, _, _, _, _, _, dx, n, S _ h2, S _ h3⟩
  have I : ∀ hp, Sub l hp → hp.IsList c (ls ++ [v] ++ ls2).toArray := fun hp S => ⟨_, S _ h4, rfl, _, rfl⟩
  have hB := hT.1
  have hB1 := hL.1
  rcases hl1 with ⟨rfl, rfl⟩ | ⟨rfl, rfl⟩
  · rcases hl2 with ⟨rfl, rfl⟩ | ⟨rfl, rfl⟩
    · have e := deep_show h hx h1 h2' (.inl ⟨rfl, rfl, rfl⟩)
      exact ⟨_, ⟨by simp only [T.nodes]; omega, e ▸ hlen, fun hp S => .n1 (N hp S) (I hp S) hn (hT.2.2 hp (S.mono k))⟩, e⟩
    · have e := deep_show h hx h1 h2' (.inr (.inr ⟨rfl, rfl, rfl⟩))
      exact ⟨_, ⟨by simp only [T.nodes]; omega, e ▸ hlen, fun hp S => .n2 (N hp S) (I hp S) hn (hT.2.2 hp (S.mono k)) (hL.2.2 hp (S.mono k))⟩, e⟩
  · rcases hl2 with ⟨rfl, rfl⟩ | ⟨rfl, rfl⟩
    · have e := deep_show h hx h1 h2' (.inr (.inl ⟨rfl, rfl, rfl⟩))
      exact ⟨_, ⟨by simp only [T.nodes]; omega, e ▸ hlen, fun hp S => .n2 (N hp S) (I hp S) hn (hL.2.2 hp (S.mono k)) (hT.2.2 hp (S.mono k))⟩, e⟩
    · rcases hx with h | h <;> cases h
theorem JD.fin {g h' : Heap} {L I : Addr} {oI : Obj} {s₁ : Shared} {tk : Nat} {m' : Str → Option Value} {i : Nat} {nx : List (Addr × Obj)} {w : World} {a b : Int} {p1 p5 p6 p7 p8 p9 p10 p11 : Addr × Obj} {X c dx x : Addr} {u1 u2 u3 u4 u5 t1 t2 t3 t4 : Tok} {rl : Int} {n e : Nat} {v : Value} {t : T} {bs es ya yb : Str} {xa xb : Int} {ls ls2 : List Value}
    (F : Fr g L h' m') (N : News g L h' (p1 :: (c, W.listOf (ls ++ [v] ++ ls2).toArray e) :: (X, instObj 141 dx) :: (dx, dictOf [ent w "name" u1 (.str (Str.ofString "S") u2), ent w "rule" u3 (.int rl u4), ent w "children" u5 (.ref c)] n) :: p5 :: p6 :: p7 :: p8 :: p9 :: p10 :: p11 :: (I, oI) :: nx))
    (hoff : ∀ p ∈ nx, p.1 ≠ I) (hc : c ≠ I) (hX : X ≠ I) (hdx : dx ≠ I)
    (m1 : m' (Str.ofString "tree") = some (.ref X)) (m2 : m' (Str.ofString "leaf") = some (.ref x)) (m3 : m' (Str.ofString "begins") = some (.str (Str.ofString "(S " ++ ya ++ bs) t1)) (m4 : m' (Str.ofString "ends") = some (.str (es ++ yb ++ Str.ofString ")") t2))
    (m5 : m' (Str.ofString "ahead") = some (.int a t3)) (m6 : m' (Str.ofString "behind") = some (.int b t4))
    (hL : TreeAt w 1 nx (.ref x) leafAB) (hT : TreeAt w (1 + 2 * i) nx v t) (h : bs ++ Str.ofString "(E)" ++ es = t.show) (hx : xa = 0 ∨ xb = 0)
    (hl1 : xa = 0 ∧ ls = [] ∨ xa = 1 ∧ ls = [.ref x]) (hl2 : xb = 0 ∧ ls2 = [] ∨ xb = 1 ∧ ls2 = [.ref x]) (h1 : xa = 0 ∧ ya = ⟨#[]⟩ ∨ xa = 1 ∧ ya = Str.ofString "a=b ") (h2' : xb = 0 ∧ yb = ⟨#[]⟩ ∨ xb = 1 ∧ yb = Str.ofString " a=b") :
    UnrEnd g L s₁ I oI (JD w a b (i + 1)) { s₁ with heap := h', toks := tk } := by
  have k : ∀ q ∈ nx, q ∈ (c, W.listOf (ls ++ [v] ++ ls2).toArray e) :: (X, instObj 141 dx) :: (dx, dictOf [ent w "name" u1 (.str (Str.ofString "S") u2), ent w "rule" u3 (.int rl u4), ent w "children" u5 (.ref c)] n) :: nx := fun q hq => .tail _ (.tail _ (.tail _ hq))
  obtain ⟨t', hT', hs'⟩ := deep_tree k (.tail _ (.head _)) (.tail _ (.tail _ (.head _))) (.head _) hL hT h hx hl1 hl2 h1 h2'
  refine UnrEnd.intro F N ((c, W.listOf (ls ++ [v] ++ ls2).toArray e) :: (X, instObj 141 dx) :: (dx, dictOf [ent w "name" u1 (.str (Str.ofString "S") u2), ent w "rule" u3 (.int rl u4), ent w "children" u5 (.ref c)] n) :: nx) (fun p hp => ?_) (fun p hp => ?_)
    ⟨_, t', x, _, _, _, _, _, _, m1, m2, m3, m4, m5, m6, hL.mono k, ?_, hs'⟩
  · simp only [List.mem_cons] at hp ⊢
    rcases hp with hp | hp | hp | hp | hp <;> simp [hp]
  · simp only [List.mem_cons] at hp
    rcases hp with rfl | rfl | rfl | hp
    · exact hc
    · exact hX
    · exact hdx
    · exact hoff p hp
  · rw [show 1 + 2 * (i + 1) = 1 + 2 * i + 2 by omega]; exact hT'
local macro_rules | `(tactic| walk_at "exec For Name Call cons nil") => `(tactic| walk_at "#f")
local macro_rules | `(tactic| walk_at "call type:range") => `(tactic| walk_at "#r")
local macro_rules | `(tactic| walk_at "pyIter ref") => `(tactic| walk_at "#s")
local macro_rules | `(tactic| walk_at "UnrEnd") => `(tactic| walk_at "#s")
set_option hygiene false in
local macro_rules | `(tactic| walk_at "call type:int") => `(tactic| ((with_reducible show wpAny _ _ (call _ [Value.bool _]) _ _ _); k_dflt (refine intAB (by assumption) ?_); intro _ _ _ _ _ _ _))
local macro_rules | `(tactic| walk_at "binaryOp Mult int int") => `(tactic| (k_dflt (refine mulC (by assumption) ?_)))
set_option hygiene false in
local macro_rules | `(tactic| walk_at "binaryOp Mult str int") => `(tactic| (k_dflt (refine mulS (by decide +kernel) (by assumption) ?_); intro _ _ _ _ _))
local macro_rules | `(tactic| walk_at "binaryOp Mult ref int") => `(tactic| (k_here; (with_reducible show wpAny _ _ (binaryOp Operator.Mult (Value.ref _) (Value.int _ _)) _ _ _); k_dflt (refine' mulL ?x ?F ?N ?l ?_; (case x => assumption); (case F => k_asm); (case N => k_asm); (case l => walk_at "#n")); walk_at "#lm"))
set_option hygiene false in
local macro_rules | `(tactic| walk_at "binaryOp Add str str") => `(tactic| (k_here; (with_reducible show wpAny _ _ (binaryOp Operator.Add (Value.str _ _) (Value.str _ _)) _ _ _); k_dflt (refine addS ?_ ?_; (simp only [Str.length_append, s_len, a_len, b_len, e_len, par_len2] at *; omega)); intro _ _))
local macro_rules | `(tactic| walk_at "call type:list") => `(tactic| walk_at "#lst")
local macro_rules | `(tactic| walk_at "binaryOp Add ref ref") => `(tactic| walk_at "#add")


set_option maxHeartbeats 8000000 in
theorem deep_ok (w : World) (na nb : Int) (ta tb : Tok) (hab : AB na nb) :
    Calls w 256 [] [.int na ta, .int nb tb] 6 20 (fun _ => True) (fun h h' r => TreeR w 2021 (fresh h h') r) := by
  w_top off
  unfold Calls
  k_fill
  intro p loose mean mg mb dp un gd cn cs L a ccd cl outer A₀ base h₀ m s Q E B F X T hk0 hdp hun hhide hpre hret
  have N : News h₀ L s.heap [] := News.nil
  k_dflt (refine' enterH [] ?k1 ?k2 ?k3 ?k4 ?k5 ?kA ?kF ?kK ?k6 ?k7 ?k8 ?k9 ?kB ?_ ?c2 ?c3 ?c4 ?c5; (case kA => exact rfl); (case kF => exact rfl); (case kK => assumption); (case k1 => k_asm); (case k2 => k_asm); (case k3 => k_asm); (case k4 => k_asm); (case k5 => k_asm); (case k6 => k_is); (case k7 => k_is); (case k8 => (dsimp only [ktrTop]; omega)); (case k9 => exact BindsTo.of_eq rfl); (case c5 => decide); (case kB => exact locs rfl); (case c2 => exact rfl); (case c3 => exact rfl); (case c4 => exact rfl))
  k_whole
  intro g L' h' tk F' N' B' X' T' hg hlt
  clear N F X T B
  (try dsimp only)
  (try k_fold)
  k_steps
  unfold Stop
  rename News _ _ _ _ => N1
  rename Fr _ _ _ _ => F1
  rename IsRange _ _ _ _ _ _ _ _ => R1
  refine loop_rng (n := 1010) (JD w na nb) (by with_unfolding_all rfl) R1 (by first | decide | rfl) (by first | rfl | decide) F1 N1 ?hJ ?turn ?done
  case hJ =>
    refine' JD.start ?m1 ?m2 ?m3 ?m4 ?m5 ?m6 ?startL ?startT
    case m1 => exact rfl
    case m2 => exact rfl
    case m3 => exact rfl
    case m4 => exact rfl
    case m5 => exact rfl
    case m6 => exact rfl
    case startL => exact TreeAt.leaf (by k_mem) (by k_mem) (by k_mem) rfl ⟨_, rfl⟩ (by k_mem) (by k_mem) (by decide +kernel)
    case startT => exact TreeAt.n0 (by k_mem) (by k_mem) (by k_mem) rfl ⟨_, rfl⟩ (by decide +kernel) (by decide +kernel)
  case done =>
    clear N1 F1 R1
    rintro m₂ nx2 h₂ tk₂ ⟨v, t, x, bs, es, t1, t2, t3, t4, h1, h2, h3, h4, h5, h6, hL, hT, hs⟩ F₂ N₂
    rw [map_six h1 h2 h3 h4 h5 h6] at F₂
    have hln := hT.2.1
    rw [← hs] at hln
    simp only [Str.length_append, e_len] at hln
    k_steps
    rename News _ _ _ _ => N1
    rw [hs] at N1
    refine hret _ _ _ (fun b o hb e => Fr.keep (by assumption) b o (hg b o hb e)) ⟨t, _, v, _, rfl, fresh_of0 N1 hg (by k_mem), hT.mono fun q hq => fresh_of0 N1 hg (by k_mem)⟩
  case turn =>
    clear N1 F1 R1
    rintro i t₀ m₂ nx2 h₂ tk₂ I oI hi ⟨v, t, x, bs, es, t1, t2, t3, t4, h1, h2, h3, h4, h5, h6, hL, hT, hs⟩ hoff F₂ N₂
    rw [map_six h1 h2 h3 h4 h5 h6] at F₂
    have hln := hT.2.1
    rw [← hs] at hln
    simp only [Str.length_append, e_len] at hln
    k_steps
    unfold Stop
    rename News _ _ _ _ => N1
    exact JD.fin (by assumption) N1 hoff (neN (by omega)) (neN (by omega)) (neN (by omega)) rfl rfl rfl rfl rfl rfl hL hT hs (by assumption) (by assumption) (by assumption) (by assumption) (by assumption)
end Mine
end

section
open PySem PySem.W PySem.Calls PySem.Spec PyProof.Rows PyProof.Rows.LCg
set_option maxRecDepth 100000
namespace Mine
theorem neF {prog : Program} {w : World} {A : Around} {E : Value → Shared → Prop} {s : Shared} {t u : Tok} {Q : Value → Shared → Prop} {x : Str} (h : Q (.bool false) s) : wpAny (model prog w) A (compareOp .NotEq (.str x t) (.str x u)) Q E s :=
  ne_str (by rw [bne_self_eq_false]; exact h)
theorem eqR {prog : Program} {w : World} {A : Around} {E : Value → Shared → Prop} {s : Shared} {t u : Tok} {Q : Value → Shared → Prop} {x : Str} (h : Q (.bool true) s) : wpAny (model prog w) A (compareOp .Eq (.str x t) (.str x u)) Q E s := eqT rfl h
theorem TreeAt.at {w : World} {B : Nat} {l news : List (Addr × Obj)} {v : Value} {t : T} {g h : Heap} {L : Addr} (x : TreeAt w B l v t) (N : News g L h news) (k : ∀ q ∈ l, q ∈ news) : TreeH w h v t := x.2.2 _ (Sub.news N k)
theorem DatAt.at {B : Nat} {l news : List (Addr × Obj)} {v : Value} {t : V} {g h : Heap} {L : Addr} (x : DatAt B l v t) (N : News g L h news) (k : ∀ q ∈ l, q ∈ news) : DatH h v t := x.2.2 _ (Sub.news N k)
theorem TreeAt.nodes_le {w : World} {B : Nat} {l : List (Addr × Obj)} {v : Value} {t : T} (x : TreeAt w B l v t) : t.nodes ≤ B := x.1
theorem DatAt.wt_le {B : Nat} {l : List (Addr × Obj)} {v : Value} {t : V} (x : DatAt B l v t) : t.wt ≤ B := x.1
theorem DatAt.len_le {B : Nat} {l : List (Addr × Obj)} {v : Value} {t : V} (x : DatAt B l v t) : t.show.length ≤ 20 * B := x.2.1
theorem ab_of {d : Int} (h0 : 0 ≤ d) (h3 : d < 3) (hn : ¬ d = 0) : AB (d - 1) (2 - d) := by unfold AB; omega
local macro_rules | `(tactic| k_qdec) => `(tactic| decide +kernel)
local macro_rules | `(tactic| k_mem) => `(tactic| (focus ((repeat (first | exact List.Mem.head _ | assumption | exact List.mem_append_left _ (by assumption) | exact List.mem_append_right _ (by assumption) | refine List.Mem.tail _ ?_)); done)))
local macro_rules | `(tactic| walk_at "compareOp Eq str str") => `(tactic| (with_reducible refine eqR ?_))
local macro_rules | `(tactic| walk_at "compareOp NotEq str str") => `(tactic| (with_reducible refine neF ?_))
local macro_rules | `(tactic| walk_at "call ref") => `(tactic| walk_at "#s")
set_option hygiene false in
local macro_rules | `(tactic| walk_at "call ref") => `(tactic| (k_here; (with_reducible show wpAny _ _ (call (Value.ref 227) _) _ _ _); walk_at "#d"))
local macro_rules | `(tactic| walk_at "call ref") => do `(tactic| (k_here; (with_reducible show wpAny _ _ (call (Value.ref 263) _) _ _ _); $(← Mine.u0 (← `(right_ok _)) (← `(trivial)) (← `(tactic| (skip)))); walk_at "#g0"))
local macro_rules | `(tactic| walk_at "call ref") => do `(tactic| (k_here; (with_reducible show wpAny _ _ (call (Value.ref 213) _) _ _ _); $(← Mine.u0 (← `(showtree_ok _ _ _ ?hn)) (← `(?hpre)) (← `(tactic| ((case hpre => exact TreeAt.at (by assumption) (by k_asm) (by intro q hq; k_mem)); (case hn => exact Nat.le_trans (TreeAt.nodes_le (by assumption)) (by decide)))))); walk_at "#g"))
local macro_rules | `(tactic| walk_at "call ref") => do `(tactic| (k_here; (with_reducible show wpAny _ _ (call (Value.ref 199) _) _ _ _); $(← Mine.u0 (← `(value_ok _ _ _ ?hn ?hn2)) (← `(?hpre)) (← `(tactic| ((case hpre => exact DatAt.at (by assumption) (by k_asm) (by intro q hq; k_mem)); (case hn => exact Nat.le_trans (DatAt.wt_le (by assumption)) (by decide)); (case hn2 => exact Nat.le_trans (DatAt.len_le (by assumption)) (by decide)))))); walk_at "#g"))

set_option maxHeartbeats 8000000 in
theorem law_ok : PySem.Challenge.rw_qd0055_01.Holds := by
  w_on
  refine holds_law said fun said => ?_
  refine holds_open (q := view) (loose := loose) (Xt := xtG view recs) (XP := XL view []) (Yf := (kHook mk.heap_1 kAddrs kE).obs) (Ya := (kHook mk.heap_1 kAddrs kE).val) (YP := (kHook mk.heap_1 kAddrs kE).says) (N := 3638) hl (Hook.of (kHook mk.heap_1 kAddrs kE)) (Hook.keeps (kHook mk.heap_1 kAddrs kE)) (fun s e => xl_of s (Bool.and_eq_true_iff.mp e).1) XL.keeps (by rfl) (by rfl) (by rfl) (fun s e => recFacts_of (Bool.and_eq_true_iff.mp e).2) (by rfl) (by first | assumption | decide +kernel) (by decide +kernel) ⟨rfl, rfl, rfl, rfl, rfl, by decide +kernel⟩ ?hw ?hc
  case hw => w_witness2
  w_strict (k_go0; (all_goals try k_fold); k_steps)
  unfold Stop
  rename IntsAre _ _ => hI
  have hlen := hI.length
  have hz : ∀ {a b : Nat}, a = b → ¬ ((63 : Nat) : Int) < (b : Int) → a ≤ 2000000 := fun h1 h2 => by omega
  rename News _ _ _ _ => N1
  refine' Calls.useF (pen_ok _ _ _ _ hI (hz hlen (by assumption))) ?k1 ?k2 ?k3 N1 ?k5 ?k6 ?k7 ?k8 ?hpre ?_
  case hpre => exact isList_keeps (Fr.keep (by k_asm)) (by assumption)
  case k1 => k_asm
  case k2 => k_asm
  case k3 => k_asm
  case k5 => k_asm
  case k6 => first | rfl | assumption
  case k7 => decide +kernel
  case k8 => decide +kernel
  clear hz
  rintro _ h1 tk1 l1 F1 N2 hf ⟨P, o, rfl, hP, ho⟩
  replace N2 := news_sub2 N2 (news' := [(P, o)]) (fun q hq => by obtain rfl := List.mem_singleton.mp hq; exact List.mem_append.mpr (.inr hP))
  clear hf hP l1 N1
  k_steps
  rotate_left
  case' _ =>
    unfold Stop
    rename News _ _ _ _ => N1
    refine' Calls.useF (deep_ok _ _ _ _ _ (ab_of (by assumption) (by assumption) (by assumption))) ?k1 ?k2 ?k3 N1 ?k5 ?k6 ?k7 ?k8 trivial ?_
    case k1 => k_asm
    case k2 => k_asm
    case k3 => k_asm
    case k5 => k_asm
    case k6 => first | rfl | assumption
    case k7 => decide +kernel
    case k8 => decide +kernel
    rintro _ h' tk' l' F' N' hf' ⟨t, T, v, u, rfl, hT, hA⟩
    replace N' := news_sub2 N' (news' := (T, tup #[v, .str t.show u]) :: (P, _) :: l') (List.forall_mem_cons.mpr ⟨.tail _ hT, List.forall_mem_cons.mpr ⟨.head _, fun q hq => .tail _ hq⟩⟩)
    clear hf' N1 hT
    k_steps
  all_goals (
    unfold Stop
    rename News _ _ _ _ => N1
    rename PenIs _ (30 + 1) => hp1
    refine' Calls.useM (lvalue4 _ P _ (30 + 1) _ hp1 (by decide)) [] ?hm (fun _ h => nomatch h) (fun _ h => nomatch h) ?k1 ?k2 ?k3 N1 ?k5 ?k6 ?k7 ?k8 ?_
    case hm => k_mem
    case k1 => k_asm
    case k2 => k_asm
    case k3 => k_asm
    case k5 => k_asm
    case k6 => first | rfl | assumption
    case k7 => decide +kernel
    case k8 => decide +kernel
    rintro _ h2 tk2 l2 o2 F2 N2 hf2 hp2 ⟨d, T2, v2, u2, rfl, hT2, hA2⟩
    have hf3 : ∀ x ∈ l2, x.1 ≠ P := hf2 (P, _) (by k_mem)
    replace N2 := news_sub2 N2 (news' := (T2, tup #[v2, .str d.show u2]) :: (P, o2) :: l2) (List.forall_mem_cons.mpr ⟨.tail _ hT2, List.forall_mem_cons.mpr ⟨.head _, fun q hq => .tail _ hq⟩⟩)
    have hTP : T2 ≠ P := hf3 _ hT2
    clear hf2 N1
    k_steps
    unfold Stop
    rename News _ _ _ _ => N1
    refine' Calls.useM (ltree4 _ P _ (30 + 1 + 242) _ hp2 (by decide)) ((T2, tup #[v2, .str d.show u2]) :: l2) ?hm (fun q hq => by rcases List.mem_cons.mp hq with rfl | hq; exact .head _; exact .tail _ (.tail _ hq)) (fun q hq => by rcases List.mem_cons.mp hq with rfl | hq; exact hTP; exact hf3 q hq) ?k1 ?k2 ?k3 N1 ?k5 ?k6 ?k7 ?k8 ?_
    case hm => k_mem
    case k1 => k_asm
    case k2 => k_asm
    case k3 => k_asm
    case k5 => k_asm
    case k6 => first | rfl | assumption
    case k7 => decide +kernel
    case k8 => decide +kernel
    rintro _ h3 tk3 l3 o3 F3 N3 hf4 hp3 ⟨t3, T3, v3, u3, rfl, hT3, hA3⟩
    replace N3 := news_sub2 N3 (news' := (T3, tup #[v3, .str t3.show u3]) :: (T2, tup #[v2, .str d.show u2]) :: (P, o3) :: (l2 ++ l3)) (List.forall_mem_cons.mpr ⟨.tail _ (List.mem_append_right _ (.tail _ hT3)), List.forall_mem_cons.mpr ⟨.head _, List.forall_mem_cons.mpr ⟨.tail _ (List.mem_append_right _ (.head _)), fun q hq => (List.mem_append.mp hq).elim (fun h => .tail _ (List.mem_append_left _ h)) fun h => .tail _ (List.mem_append_right _ (.tail _ h))⟩⟩⟩)
    clear hf4 hf3 hTP hT2 hT3 N1
    k_steps)
end Mine
end

end

open PySem PySem.W PyProof.Rows
set_option maxRecDepth 100000 in
set_option maxHeartbeats 8000000 in
theorem PySem.Challenge.cw_qd0055_01_holds : PySem.Challenge.rw_qd0055_01.Holds := by
  exact Mine.law_ok
