import PyProof.Rows.All
import Wide.All
import OpenK.AllK
import Wide.FinOn
import Lean
import PySem.Challenge.RW_nt0423_01
open PySem PySem.W PySem.Calls PyProof.Rows
set_option Elab.async false
set_option maxRecDepth 100000
namespace Mine
/-! the head: the program's parts by their places, the written heap, one equation by the kernel -/
noncomputable def prog0 : Program := PySem.Challenge.rw_nt0423_01.row.prog
noncomputable def st1 : {x : Stmt // prog0.main.body[1]? = some x} := ⟨_, rfl⟩
noncomputable def st2 : {x : Stmt // prog0.main.body[2]? = some x} := ⟨_, rfl⟩
noncomputable def st3 : {x : Stmt // prog0.main.body[3]? = some x} := ⟨_, rfl⟩
noncomputable def st4 : {x : Stmt // prog0.main.body[4]? = some x} := ⟨_, rfl⟩
noncomputable def st5 : {x : Stmt // prog0.main.body[5]? = some x} := ⟨_, rfl⟩
noncomputable def st6 : {x : Stmt // prog0.main.body[6]? = some x} := ⟨_, rfl⟩
noncomputable def st7 : {x : Stmt // prog0.main.body[7]? = some x} := ⟨_, rfl⟩
noncomputable def st8 : {x : Stmt // prog0.main.body[8]? = some x} := ⟨_, rfl⟩
noncomputable def st9 : {x : Stmt // prog0.main.body[9]? = some x} := ⟨_, rfl⟩
noncomputable def st10 : {x : Stmt // prog0.main.body[10]? = some x} := ⟨_, rfl⟩
noncomputable def st12 : {x : Stmt // prog0.main.body[12]? = some x} := ⟨_, rfl⟩
noncomputable def st13 : {x : Stmt // prog0.main.body[13]? = some x} := ⟨_, rfl⟩
noncomputable def st14 : {x : Stmt // prog0.main.body[14]? = some x} := ⟨_, rfl⟩
noncomputable def st16 : {x : Stmt // prog0.main.body[16]? = some x} := ⟨_, rfl⟩
noncomputable def st17 : {x : Stmt // prog0.main.body[17]? = some x} := ⟨_, rfl⟩
noncomputable def st18 : {x : Stmt // prog0.main.body[18]? = some x} := ⟨_, rfl⟩
noncomputable def st19 : {x : Stmt // prog0.main.body[19]? = some x} := ⟨_, rfl⟩
noncomputable def st20 : {x : Stmt // prog0.main.body[20]? = some x} := ⟨_, rfl⟩
noncomputable def st21 : {x : Stmt // prog0.main.body[21]? = some x} := ⟨_, rfl⟩
noncomputable def st22 : {x : Stmt // prog0.main.body[22]? = some x} := ⟨_, rfl⟩
noncomputable def st23 : {x : Stmt // prog0.main.body[23]? = some x} := ⟨_, rfl⟩
noncomputable def st24 : {x : Stmt // prog0.main.body[24]? = some x} := ⟨_, rfl⟩
noncomputable def st25 : {x : Stmt // prog0.main.body[25]? = some x} := ⟨_, rfl⟩
noncomputable def st26 : {x : Stmt // prog0.main.body[26]? = some x} := ⟨_, rfl⟩
noncomputable def st27 : {x : Stmt // prog0.main.body[27]? = some x} := ⟨_, rfl⟩
noncomputable def st28 : {x : Stmt // prog0.main.body[28]? = some x} := ⟨_, rfl⟩
noncomputable def st29 : {x : Stmt // prog0.main.body[29]? = some x} := ⟨_, rfl⟩
noncomputable def st30 : {x : Stmt // prog0.main.body[30]? = some x} := ⟨_, rfl⟩
noncomputable def st31 : {x : Stmt // prog0.main.body[31]? = some x} := ⟨_, rfl⟩
noncomputable def st32 : {x : Stmt // prog0.main.body[32]? = some x} := ⟨_, rfl⟩
noncomputable def st34 : {x : Stmt // prog0.main.body[34]? = some x} := ⟨_, rfl⟩
noncomputable def st35 : {x : Stmt // prog0.main.body[35]? = some x} := ⟨_, rfl⟩
noncomputable def st36 : {x : Stmt // prog0.main.body[36]? = some x} := ⟨_, rfl⟩
noncomputable def st37 : {x : Stmt // prog0.main.body[37]? = some x} := ⟨_, rfl⟩
noncomputable def st38 : {x : Stmt // prog0.main.body[38]? = some x} := ⟨_, rfl⟩
noncomputable def st39 : {x : Stmt // prog0.main.body[39]? = some x} := ⟨_, rfl⟩
noncomputable def st41 : {x : Stmt // prog0.main.body[41]? = some x} := ⟨_, rfl⟩
noncomputable def st42 : {x : Stmt // prog0.main.body[42]? = some x} := ⟨_, rfl⟩
noncomputable def st43 : {x : Stmt // prog0.main.body[43]? = some x} := ⟨_, rfl⟩
noncomputable def st44 : {x : Stmt // prog0.main.body[44]? = some x} := ⟨_, rfl⟩
noncomputable def st45 : {x : Stmt // prog0.main.body[45]? = some x} := ⟨_, rfl⟩
noncomputable def st46 : {x : Stmt // prog0.main.body[46]? = some x} := ⟨_, rfl⟩
noncomputable def st47 : {x : Stmt // prog0.main.body[47]? = some x} := ⟨_, rfl⟩
noncomputable def st48 : {x : Stmt // prog0.main.body[48]? = some x} := ⟨_, rfl⟩
noncomputable def st49 : {x : Stmt // prog0.main.body[49]? = some x} := ⟨_, rfl⟩
noncomputable def st50 : {x : Stmt // prog0.main.body[50]? = some x} := ⟨_, rfl⟩
noncomputable def st51 : {x : Stmt // prog0.main.body[51]? = some x} := ⟨_, rfl⟩
noncomputable def st52 : {x : Stmt // prog0.main.body[52]? = some x} := ⟨_, rfl⟩
noncomputable def st53 : {x : Stmt // prog0.main.body[53]? = some x} := ⟨_, rfl⟩
noncomputable def st54 : {x : Stmt // prog0.main.body[54]? = some x} := ⟨_, rfl⟩
noncomputable def st55 : {x : Stmt // prog0.main.body[55]? = some x} := ⟨_, rfl⟩
noncomputable def hd.view_39 : Program := { prog0 with main := { prog0.main with body := [st1.1, st2.1, st3.1, st4.1, st5.1, st6.1, st7.1, st8.1, st9.1, st10.1, st12.1, st13.1, st14.1, st16.1, st17.1, st18.1, st19.1, st20.1, st21.1, st22.1, st23.1, st24.1, st25.1, st26.1, st27.1, st28.1, st29.1, st30.1, st31.1, st32.1, st34.1, st35.1, st36.1, st37.1, st38.1, st39.1, st41.1, st42.1, st43.1, st44.1, st45.1, st46.1, st47.1, st48.1, st49.1, st50.1, st51.1, st52.1, st53.1, st54.1, st55.1] } }
/-! what the law's own words say, in four looks (the library's quick twins are written in first) -/
theorem looks0 : looksOpen (OpenRow.toRowW (OpenLaw.row PySem.Challenge.rw_nt0423_01)).prog = true := by
  delta looksOpen
  (try rw [Fast.te11788848310118352699]); (try rw [Fast.te9807087744658564304]); (try rw [Fast.te12862048085361865435]); (try rw [Fast.te8377067652309620493]); (try rw [Fast.te18344453789297297638]); (try rw [Fast.te14412699480532031325]); (try rw [Fast.te8326940854005059898]); (try rw [Fast.te5923862056798008813]); (try rw [Fast.te17691160309236699985]); (try rw [Fast.te13343964577679436407]); (try rw [Fast.te17119622794617984870]); (try rw [Fast.te17868728402115742887])
  repeat' (with_reducible refine look_both ?_ ?_)
  all_goals decide +kernel
theorem part0 : OpenRow.partSaid (OpenLaw.row PySem.Challenge.rw_nt0423_01) = true := by
  delta OpenRow.partSaid
  rw [looks0]
  (try rw [Fast.te18344453789297297638]); (try rw [Fast.te2357444279172408678]); (try rw [Fast.te4857012375875476094]); (try rw [Fast.named_eq])
  decide +kernel
theorem row0 : OpenRow.wellSaid (OpenLaw.row PySem.Challenge.rw_nt0423_01) = true := by
  delta OpenRow.wellSaid
  rw [part0]
  (try rw [Fast.te18344453789297297638]); (try rw [Fast.te12749700546528644094])
  decide +kernel
theorem said0 : OpenLaw.wellSaid PySem.Challenge.rw_nt0423_01 = true := by
  delta OpenLaw.wellSaid
  rw [row0]
  (try rw [Fast.te17119622794617984870]); (try rw [Fast.te8326940854005059898]); (try rw [Fast.named_eq]); (try rw [Fast.te6984425678791042302]); (try rw [Fast.te12879404354523853263]); (try rw [Fast.te482687673346738481]); (try rw [Fast.te10792542408131684335]); (try rw [Fast.te7723801398212525404])
  decide +kernel
local macro_rules | `(tactic| o_law) => `(tactic| refine holds_law (l := PySem.Challenge.rw_nt0423_01) said0 fun said => ?_)
local macro_rules | `(tactic| o_head $H) => `(tactic| (
  refine (fun (x : _ ∧ _) => holds_open (q := hd.view_39) (loose := []) (Xt := fun s => xlAt hd.view_39 [] s && recOk (RowW.records (OpenRow.toRowW (OpenLaw.row PySem.Challenge.rw_nt0423_01))) s) (XP := XL hd.view_39 []) (Yf := Hook.obs $H) (Ya := Hook.val $H) (YP := Hook.says $H) (N := 4268) x.1 (Hook.of $H) (Hook.keeps $H) (fun s e => xl_of s (Bool.and_eq_true_iff.mp e).1) XL.keeps (by rfl) (by rfl) (by rfl) (fun s e => recFacts_of (Bool.and_eq_true_iff.mp e).2) (by rfl) (by first | assumption | decide +kernel) (by decide +kernel) ⟨rfl, rfl, rfl, rfl, rfl, by decide +kernel⟩ ?hw x.2) ?hc))
set_option maxHeartbeats 0 in
open_top hd for PySem.Challenge.rw_nt0423_01
def Fst {A B C : Prop} (_ : A ∧ B → C) : Prop := A
section
variable {p q : Program} {loose : List Str} {Xt : Shared → Bool} {α : Type} {Yf : Shared → α} {Ya : World → α} {N : Nat} {g0 : Bool} {B C : Prop}
theorem four {A B C D E : Type} {x y : A × B × C × D × E} (h : (x.1, x.2.1, x.2.2.1, x.2.2.2.1) = (y.1, y.2.1, y.2.2.1, y.2.2.2.1)) (h5 : x.2.2.2.2 = y.2.2.2.2) : x = y :=
  Prod.ext (congrArg (fun z => z.1) h) (Prod.ext (congrArg (fun z => z.2.1) h) (Prod.ext (congrArg (fun z => z.2.2.1) h) (Prod.ext (congrArg (fun z => z.2.2.2) h) h5)))
def LooksA (_ : LeftO p q loose Xt Yf Ya N g0 ∧ B → C) : Prop := ∀ w, (openEnds treeTable p w N).map (fun s => ((openSeen q loose (importedModules p.main.body) Xt g0 s).1, (openSeen q loose (importedModules p.main.body) Xt g0 s).2.1, (openSeen q loose (importedModules p.main.body) Xt g0 s).2.2.1, (openSeen q loose (importedModules p.main.body) Xt g0 s).2.2.2.1)) = some ((openGood q loose).1, (openGood q loose).2.1, (openGood q loose).2.2.1, (openGood q loose).2.2.2.1)
def LooksB (_ : LeftO p q loose Xt Yf Ya N g0 ∧ B → C) : Prop := ∀ w, (openEnds treeTable p w N).map (fun s => ((openSeen q loose (importedModules p.main.body) Xt g0 s).2.2.2.2, Yf s)) = some ((openGood q loose).2.2.2.2, Ya w)
theorem looks_both {h : LeftO p q loose Xt Yf Ya N g0 ∧ B → C} (a : LooksA h) (b : LooksB h) : LeftO p q loose Xt Yf Ya N g0 := fun w => by
  obtain ⟨s, e, h1⟩ := Option.map_eq_some_iff.mp (a w)
  have h2 := b w
  rw [e] at h2 ⊢
  have h3 := Option.some.inj h2
  have h4 : Yf s = Ya w := congrArg Prod.snd h3
  show some (_, Yf s) = some (_, Ya w)
  rw [h4, four h1 (congrArg Prod.fst h3)]
end
/-! the head's equation in two declarations, each one check by the kernel, over the library's quick twins (which may be missing) -/
theorem leftA : LooksA hd := by
  intro w
  delta openEnds fencedOpening topFrom opening
  (try rw [PySem.W.Fast.te14082659384304107361]); (try rw [PySem.W.Fast.te10274390034422433532]); (try rw [PySem.W.Fast.te14289696077712309145]); (try rw [PySem.W.Fast.te1435165496053646825]); (try rw [PySem.W.Fast.te14364793385576792824])
  (try (rw [PySem.W.Fast.te4187177175401517315]; delta PySem.W.Fast.tw4187177175401517315)); (try delta openSeen)
  delta openGood
  dsimp only
  kernel_rfl
theorem leftB : LooksB hd := by
  intro w
  delta openEnds fencedOpening topFrom opening
  (try rw [PySem.W.Fast.te14082659384304107361]); (try rw [PySem.W.Fast.te10274390034422433532]); (try rw [PySem.W.Fast.te14289696077712309145]); (try rw [PySem.W.Fast.te1435165496053646825]); (try rw [PySem.W.Fast.te14364793385576792824])
  (try (rw [PySem.W.Fast.te4187177175401517315]; delta PySem.W.Fast.tw4187177175401517315)); (try delta openSeen)
  delta openGood
  dsimp only
  kernel_rfl
theorem left0 : Fst hd := looks_both leftA leftB

/-! a call that keeps the whole heap: the callee's own ledger starts empty -/
theorem code_keep {prog : Program} {w : World} {A A₀ : Around} {s : Shared} {K : Frag} {base h₀ : Heap} {L : Addr} {m mg mb : Str → Option Value} {p : Program} {loose : List Str} {mean : ExcName → Option Value}
    {env : Env} {outer : List Env} {R : Result → Shared → Prop} {name qual : Str} {params : Arguments} {body : List Stmt} {scope : Scope} {dV kV doc pm cdv ct oc : Value} {an od : Option Addr} {osl : Array (Option Value)} {f : Addr} {args : Args} {binds : List (Str × Value)}
    (B : Below A₀ base outer h₀) (F : Fr h₀ L s.heap m) (X₀ : K.In h₀) (T : Top p loose mean mg mb h₀) (hA : A.frames = some (env :: outer)) (hf : env.frame = some L) (hke : env.scope.kind = .function)
    (ho : K.lookup f = some ⟨oc, od, .func (fnOf name qual params body scope dV kV doc pm an cdv ct), osl⟩) (hcd : codeIn K cdv qual = true) (hroom : A.depth < recursionLimit)
    (hbind : BindsTo s (fnOf name qual params body scope dV kV doc pm an cdv ct) args binds) (hloc : ∀ y ∈ binds, scope.names.lookup y.1 = some .local)
    (h : ∀ g L' h₁, s.heap = g → Fr g L' h₁ (fun y => binds.reverse.lookup y) → News g L' h₁ [] → Below A base (env :: outer) g → K.In g → Top p loose mean mg mb g →
      wpAny (model prog w) (A.deeper (envOf qual scope L' f cdv)) (execs body (envOf qual scope L' f cdv))
        (fun fl s' => LeaveK h₀ L m g (fun r s' => g.StaysIn s'.heap → R r s') (match fl with | .ret v => v | _ => .none) s')
        (fun e s' => wpAny (model prog w) (A.deeper (envOf qual scope L' f cdv)) (leaving (envOf qual scope L' f cdv) e) (fun _ s'' => R (.error e) s'') (fun e' s'' => R (.error e') s'') s')
        { s with heap := h₁, toks := s.toks + binds.length })
    (hco : scope.isCoroutine = false) (hgen : scope.isGenerator = false) (hk : scope.kind = .function)
    (hcell : ∀ x ∈ scope.names, x.2 ≠ .cell) : codeAny (model prog w) A (.call (.ref f) args) R s := by
  have N0 : News h₀ L s.heap [] := News.nil
  obtain ⟨_, BG, _, lv⟩ := groundX (R := fun r s' => s.heap.StaysIn s'.heap → R r s') B F N0 hA hf hke
  have BG' : Below A base (env :: outer) s.heap := BG
  refine codeAny_call_def (fd := fnOf name qual params body scope dV kV doc pm an cdv ct) (body := body) (binds := binds) hroom ((X₀.keeps F.keep) _ _ ho) rfl (T.nolimit.keeps F.keep) (codeRec_of (X₀.keeps F.keep) hcd) rfl hbind hcell hloc (fun h₁ hns hk₁ => ?_) hco hgen hk
  refine wpAny_mono (h s.heap s.heap.objs.size h₁ rfl ⟨hns, hk₁, Nat.le_refl _⟩ News.nil BG' (X₀.keeps F.keep) (T.keeps F.keep)) (fun fl s' hl => ?_) fun _ _ y => y
  have st : s.heap.StaysIn s'.heap := by
    obtain ⟨L', m', news', F', N', k⟩ := hl
    exact F'.keep
  exact lv _ s' hl st

/-- the around of a def's own frame -/
@[reducible] noncomputable def aTop (env : Env) (outer : List Env) (R : Around) : Around := ⟨none, R.depth, some (env :: outer), R.guards, R.units⟩

/-- what the call of the def at `f` gives: it keeps the heap, and hands back what `post` says -/
noncomputable def Cl (w : World) (mean : ExcName → Option Value) (mg mb : Str → Option Value) (f : Addr) (D : Nat) (vs : List Value) (pre : Heap → Prop) (post : Heap → Value → Heap → Prop) : Prop :=
  ∀ (env : Env) (outer : List Env) (R A₀ : Around) (base h₀ : Heap) (L : Addr) (m : Str → Option Value) (g : Heap) (gs : Array GenState) (dr : Drawn) (tk : Nat) (os : OsState) (Q E : Value → Shared → Prop),
    Below A₀ base outer h₀ → Fr h₀ L g m → Frag.In (hd.heap_1 w.params) h₀ → Top hd.view_39 (looseW hd.view_39 []) mean mg mb h₀ → env.frame = some L → env.scope.kind = .function → pre g → R.depth + D < recursionLimit → R.units + 8 * D < cLine →
    (∀ (v : Value) (h' : Heap) (tk' : Nat), Fr h₀ L h' m → g.StaysIn h' → post g v h' → Q v ⟨h', gs, dr, tk', os⟩) →
    wpAny (model Challenge.rw_nt0423_01.row.prog w) (aTop env outer R) (call (.ref f) vs) Q E ⟨g, gs, dr, tk, os⟩

/-- a def's own body: what it may lean on, and how it comes back -/
noncomputable def Body (w : World) (mean : ExcName → Option Value) (mg mb : Str → Option Value) (D : Nat) (pre : Heap → Prop) (post : Heap → Value → Heap → Prop) (envF : Addr → Env) (body : List Stmt) (m₁ : Addr → Str → Option Value) : Prop :=
  ∀ (outer : List Env) (R A₀ : Around) (base g : Heap) (L : Addr) (h₁ : Heap) (tk : Nat) (gs : Array GenState) (dr : Drawn) (os : OsState) (Q : Flow → Shared → Prop) (E : Value → Shared → Prop),
    Below A₀ base outer g → Fr g L h₁ (m₁ L) → News g L h₁ [] → Frag.In (hd.heap_1 w.params) g → Top hd.view_39 (looseW hd.view_39 []) mean mg mb g → pre g → R.depth + D ≤ recursionLimit → R.units + 8 * D < cLine + 3 →
    PassesOwn (model Challenge.rw_nt0423_01.row.prog w) (aTop (envF L) outer R) (envF L) E →
    (∀ {m' : Str → Option Value} {news' : List (Addr × Obj)} (v : Value) (h' : Heap) (tk' : Nat), Fr g L h' m' → News g L h' news' → post g v h' → Q (.ret v) ⟨h', gs, dr, tk', os⟩) →
    wpAny (model Challenge.rw_nt0423_01.row.prog w) (aTop (envF L) outer R) (execs body (envF L)) Q E ⟨h₁, gs, dr, tk, os⟩

theorem Cl.enter {w : World} {mean : ExcName → Option Value} {mg mb : Str → Option Value} {f : Addr} {D : Nat} {vs : List Value} {pre : Heap → Prop} {post : Heap → Value → Heap → Prop}
    {name qual : Str} {params : Arguments} {body : List Stmt} {scope : Scope} {dV kV doc pm cdv ct oc : Value} {an od : Option Addr} {osl : Array (Option Value)} {binds : List (Str × Value)}
    (ho : (hd.heap_1 w.params).lookup f = some ⟨oc, od, .func (fnOf name qual params body scope dV kV doc pm an cdv ct), osl⟩) (hcd : codeIn (hd.heap_1 w.params) cdv qual = true)
    (hbind : bindArgs (fnOf name qual params body scope dV kV doc pm an cdv ct) ⟨vs, []⟩ = pure binds) (hloc : ∀ y ∈ binds, scope.names.lookup y.1 = some .local)
    (hD : 0 < D) (hco : scope.isCoroutine = false) (hgen : scope.isGenerator = false) (hk : scope.kind = .function) (hcell : ∀ x ∈ scope.names, x.2 ≠ .cell)
    (h : Body w mean mg mb D pre post (fun L => envOf qual scope L f cdv) body (fun _ y => binds.reverse.lookup y)) : Cl w mean mg mb f D vs pre post := by
  intro env outer R A₀ base h₀ L m g gs dr tk os Q E B F X T hf hke hpre hd hu ret
  refine wpAny_call ?_
  refine code_keep (binds := binds) B F X T rfl hf hke ho hcd (show R.depth < _ by omega) (BindsTo.of_eq hbind) hloc (fun g' L' h₁ hg F' N' B' X' T' => ?_) hco hgen hk hcell
  subst hg
  refine wpAny_mono (h (env :: outer) ((aTop env outer R).deeper (envOf qual scope L' f cdv)) _ _ _ L' h₁ _ gs dr os _ _ B' F' N' X' T' hpre (show R.depth + 1 + D ≤ _ by omega) (show R.units + 3 + 8 * D < _ by omega) PassesOwn.leaving (fun {m' news'} v h' tk' F9 N9 hp => ?_)) (fun _ _ y => y) fun _ _ y => y
  refine leaveK_ F9 N9 fun F8 _ st => ?_
  exact ret v h' tk' F8 st hp

noncomputable def RInt (x : Int) : Heap → Value → Heap → Prop := fun _ v _ => ∃ t, v = .int x t
noncomputable def RBool (x : Bool) : Heap → Value → Heap → Prop := fun _ v _ => v = .bool x
noncomputable def RStr (x : Str) : Heap → Value → Heap → Prop := fun _ v _ => ∃ t, v = .str x t
noncomputable def RInts (ns : List Int) : Heap → Value → Heap → Prop := fun h v h' => ∃ l vs n, v = .ref l ∧ h'.get? l = some (listOf vs.toArray n) ∧ IntsAre vs ns ∧ h.get? l = none
noncomputable def PTrue : Heap → Prop := fun _ => True

theorem rint_of {x y : Int} {t : Tok} {h h' : Heap} (e : x = y) : RInt y h (.int x t) h' := ⟨t, by rw [e]⟩
theorem rbool_of {x y : Bool} {h h' : Heap} (e : x = y) : RBool y h (.bool x) h' := congrArg Value.bool e
theorem rstr_of {x y : Str} {t : Tok} {h h' : Heap} (e : x = y) : RStr y h (.str x t) h' := ⟨t, by rw [e]⟩

theorem rints_of {l : Addr} {vs : List Value} {n : Nat} {ns : List Int} {g h' : Heap} {L' : Addr} {news : List (Addr × Obj)} (N : News g L' h' news) (hm : (l, listOf vs.toArray n) ∈ news) (I : IntsAre vs ns) : RInts ns g (.ref l) h' :=
  ⟨l, vs, n, rfl, (N _ hm).1, I, (N _ hm).2.2⟩

theorem news_tail {h₀ h : Heap} {L : Addr} {p : Addr × Obj} {news : List (Addr × Obj)} (N : News h₀ L h (p :: news)) : News h₀ L h news := fun q hq => N q (.tail _ hq)
theorem news_stays {h₀ h h' : Heap} {L : Addr} {news : List (Addr × Obj)} (N : News h₀ L h news) (S : h.StaysIn h') : News h₀ L h' news :=
  fun p hp => ⟨S _ _ (N p hp).1, (N p hp).2⟩

section
variable {w : World} {mean : ExcName → Option Value} {mg mb : Str → Option Value} {f : Addr} {D : Nat} {vs : List Value} {pre : Heap → Prop} {A A₀ : Around} {env : Env} {outer : List Env} {base h₀ : Heap} {L : Addr} {m : Str → Option Value} {g : Heap} {gs : Array GenState} {dr : Drawn} {tk : Nat} {os : OsState} {Q E : Value → Shared → Prop} {news : List (Addr × Obj)}
theorem Cl.at {post : Heap → Value → Heap → Prop} (C : Cl w mean mg mb f D vs pre post) (B : Below A₀ base outer h₀) (F : Fr h₀ L g m) (X : Frag.In (hd.heap_1 w.params) h₀) (T : Top hd.view_39 (looseW hd.view_39 []) mean mg mb h₀) (h1 : A.handled = none) (h2 : A.frames = some (env :: outer)) (hf : env.frame = some L) (hk : env.scope.kind = .function) (hp : pre g) (hd : A.depth + D < recursionLimit) (hu : A.units + 8 * D < cLine)
    (ret : ∀ (v : Value) (h' : Heap) (tk' : Nat), Fr h₀ L h' m → g.StaysIn h' → post g v h' → Q v ⟨h', gs, dr, tk', os⟩) :
    wpAny (model Challenge.rw_nt0423_01.row.prog w) A (call (.ref f) vs) Q E ⟨g, gs, dr, tk, os⟩ := by
  obtain ⟨a, b, c, d, e⟩ := A
  subst h1 h2
  exact C env outer ⟨none, b, some (env :: outer), d, e⟩ A₀ base h₀ L m g gs dr tk os Q E B F X T hf hk hp hd hu ret
theorem Cl.useI {x : Int} (C : Cl w mean mg mb f D vs pre (RInt x)) (B : Below A₀ base outer h₀) (F : Fr h₀ L g m) (X : Frag.In (hd.heap_1 w.params) h₀) (N : News h₀ L g news) (T : Top hd.view_39 (looseW hd.view_39 []) mean mg mb h₀) (h1 : A.handled = none) (h2 : A.frames = some (env :: outer)) (hf : env.frame = some L) (hk : env.scope.kind = .function) (hp : pre g) (hd : A.depth + D < recursionLimit) (hu : A.units + 8 * D < cLine)
    (ret : ∀ (t : Tok) (h' : Heap) (tk' : Nat), Fr h₀ L h' m → News h₀ L h' news → Q (.int x t) ⟨h', gs, dr, tk', os⟩) :
    wpAny (model Challenge.rw_nt0423_01.row.prog w) A (call (.ref f) vs) Q E ⟨g, gs, dr, tk, os⟩ :=
  C.at B F X T h1 h2 hf hk hp hd hu fun v h' tk' F' S' hv => by
    obtain ⟨t, rfl⟩ := hv
    exact ret t h' tk' F' (news_stays N S')
theorem Cl.useB {x : Bool} (C : Cl w mean mg mb f D vs pre (RBool x)) (B : Below A₀ base outer h₀) (F : Fr h₀ L g m) (X : Frag.In (hd.heap_1 w.params) h₀) (N : News h₀ L g news) (T : Top hd.view_39 (looseW hd.view_39 []) mean mg mb h₀) (h1 : A.handled = none) (h2 : A.frames = some (env :: outer)) (hf : env.frame = some L) (hk : env.scope.kind = .function) (hp : pre g) (hd : A.depth + D < recursionLimit) (hu : A.units + 8 * D < cLine)
    (ret : ∀ (h' : Heap) (tk' : Nat), Fr h₀ L h' m → News h₀ L h' news → Q (.bool x) ⟨h', gs, dr, tk', os⟩) :
    wpAny (model Challenge.rw_nt0423_01.row.prog w) A (call (.ref f) vs) Q E ⟨g, gs, dr, tk, os⟩ :=
  C.at B F X T h1 h2 hf hk hp hd hu fun v h' tk' F' S' hv => by
    obtain rfl := hv
    exact ret h' tk' F' (news_stays N S')
theorem Cl.useS {x : Str} (C : Cl w mean mg mb f D vs pre (RStr x)) (B : Below A₀ base outer h₀) (F : Fr h₀ L g m) (X : Frag.In (hd.heap_1 w.params) h₀) (N : News h₀ L g news) (T : Top hd.view_39 (looseW hd.view_39 []) mean mg mb h₀) (h1 : A.handled = none) (h2 : A.frames = some (env :: outer)) (hf : env.frame = some L) (hk : env.scope.kind = .function) (hp : pre g) (hd : A.depth + D < recursionLimit) (hu : A.units + 8 * D < cLine)
    (ret : ∀ (t : Tok) (h' : Heap) (tk' : Nat), Fr h₀ L h' m → News h₀ L h' news → Q (.str x t) ⟨h', gs, dr, tk', os⟩) :
    wpAny (model Challenge.rw_nt0423_01.row.prog w) A (call (.ref f) vs) Q E ⟨g, gs, dr, tk, os⟩ :=
  C.at B F X T h1 h2 hf hk hp hd hu fun v h' tk' F' S' hv => by
    obtain ⟨t, rfl⟩ := hv
    exact ret t h' tk' F' (news_stays N S')
theorem Cl.useL {ns : List Int} (C : Cl w mean mg mb f D vs pre (RInts ns)) (B : Below A₀ base outer h₀) (F : Fr h₀ L g m) (X : Frag.In (hd.heap_1 w.params) h₀) (N : News h₀ L g news) (T : Top hd.view_39 (looseW hd.view_39 []) mean mg mb h₀) (h1 : A.handled = none) (h2 : A.frames = some (env :: outer)) (hf : env.frame = some L) (hk : env.scope.kind = .function) (hp : pre g) (hd : A.depth + D < recursionLimit) (hu : A.units + 8 * D < cLine)
    (ret : ∀ (l : Addr) (vs : List Value) (n : Nat) (h' : Heap) (tk' : Nat), IntsAre vs ns → Fr h₀ L h' m → News h₀ L h' ((l, listOf vs.toArray n) :: news) → (∀ p ∈ news, p.1 ≠ l) → Q (.ref l) ⟨h', gs, dr, tk', os⟩) :
    wpAny (model Challenge.rw_nt0423_01.row.prog w) A (call (.ref f) vs) Q E ⟨g, gs, dr, tk, os⟩ :=
  C.at B F X T h1 h2 hf hk hp hd hu fun v h' tk' F' S' hv => by
    obtain ⟨l, vs, n, rfl, hl, hi, hn⟩ := hv
    have hL : l ≠ L := fun e => by
      obtain ⟨oL, _, _, hL, _⟩ := F.ns
      rw [e, hL] at hn; cases hn
    have h0 : h₀.get? l = none := by
      cases q : h₀.get? l with
      | none => rfl
      | some o => rw [F.keep _ _ q] at hn; cases hn
    refine ret l vs n h' tk' hi F' (fun p hp => ?_) fun p hp e => ?_
    · rcases List.mem_cons.mp hp with rfl | hp
      · exact ⟨hl, hL, h0⟩
      · exact news_stays N S' p hp
    · rw [← e, (N p hp).1] at hn; cases hn
end
theorem room_use {env : Env} {outer : List Env} {R : Around} {D₀ D : Nat} (h : R.depth + D₀ ≤ recursionLimit) (hD : Nat.ble (D + 1) D₀ = true) : (aTop env outer R).depth + D < recursionLimit := by
  have := Nat.le_of_ble_eq_true hD
  show R.depth + D < _
  omega
theorem units_use {env : Env} {outer : List Env} {R : Around} {D₀ D : Nat} (h : R.units + 8 * D₀ < cLine + 3) (hD : Nat.ble (D + 3) (8 * D₀) = true) : (aTop env outer R).units + D < cLine := by
  have := Nat.le_of_ble_eq_true hD
  show R.units + D < _
  omega
theorem units_use0 {env : Env} {outer : List Env} {R : Around} {D₀ : Nat} (h : R.units + 8 * D₀ < cLine + 3) (hD : Nat.ble 3 (8 * D₀) = true) : (aTop env outer R).units < cLine := by
  have := Nat.le_of_ble_eq_true hD
  show R.units < _
  omega

section
variable {M : Model} {A : Around} {E : Value → Shared → Prop} {s : Shared} {env : Env} {st : Stmt} {rest : List Stmt} {Q : Flow → Shared → Prop}
theorem execs_one (h : wpAny M A (exec st env) Q E s) : wpAny M A (execs [st] env) Q E s := by
  refine wpAny_execs_cons (wpAny_mono h (fun f s' q => ?_) fun _ _ y => y)
  cases f with
  | next => exact wpAny_execs_nil q
  | _ => exact q
theorem execs_let (h : let qk : Flow → Shared → Prop := fun f s' => (match f with | .next => wpAny M A (execs rest env) Q E s' | f => Q f s'); wpAny M A (exec st env) qk E s) : wpAny M A (execs (st :: rest) env) Q E s := wpAny_execs_cons h
end
/-! the frame's map by a name -/
theorem fold_fr {h₀ h : Heap} {L : Addr} {m : Str → Option Value} {P : Prop} (F : Fr h₀ L h m) (k : let m' := m; Fr h₀ L h m' → P) : P := k F
theorem storeL {M : Model} {A : Around} {E : Value → Shared → Prop} {h₀ h : Heap} {L a : Addr} {gs : Array GenState} {dr : Drawn} {tk : Nat} {os : OsState} {m : Str → Option Value} {cn : Str} {cs : Scope} {ccd : Value} {cl : List (Str × Addr)} {x : Str} {v : Value} {Q : Unit → Shared → Prop} {news : List (Addr × Obj)} (F : Fr h₀ L h m) (N : News h₀ L h news)
    (k : ∀ h', let m' : Str → Option Value := (fun y => if y = x then some v else m y); Fr h₀ L h' m' → News h₀ L h' news → Q () ⟨h', gs, dr, tk + 1, os⟩)
    (hk : cs.kind = .function) (hx : (envX cn cs L a ccd cl).kindOf x = some .local) : wpAny M A (storeName (envX cn cs L a ccd cl) x v) Q E ⟨h, gs, dr, tk, os⟩ :=
  storeX_L (s := ⟨h, gs, dr, tk, os⟩) F N (fun h' F' N' => k h' F' N') hk hx
/-- a goal at which the walk is to stand still -/
noncomputable def Stop (P : Prop) : Prop := P
theorem stop_here {P : Prop} (h : Stop P) : P := h
theorem go_on {P : Prop} (h : P) : Stop P := h

/-! simple expressions at once: names of the frame, ints, their sums, differences and bits -/
noncomputable def svA (env : Env) (m : Str → Option Value) (e : Expr) (tk : Nat) : Option (Value × Nat) := match e with
  | .Name x _ => (match env.kindOf x with
    | some .local => (match x == ("__debug__" : Str) with
      | false => (match m x with | some v => some (v, tk) | none => none)
      | true => none)
    | _ => none)
  | .Constant (.int i) _ _ => some (.int i tk, tk + 1)
  | _ => none
theorem no_some {α : Type} {x : α} {P : Prop} (h : (none : Option α) = some x) : P := nomatch h
noncomputable def modV (x y : Int) : Option Int := @Decidable.rec (y = 0) (fun _ => Option Int) (fun _ => some (x.fmod y)) (fun _ => none) (Int.instDecidableEq y 0)
noncomputable def shrV (x y : Int) : Option Int := @Decidable.rec (0 ≤ y) (fun _ => Option Int) (fun _ => none) (fun _ => some (x.fdiv (2 ^ y.toNat))) (Int.decLe 0 y)
theorem modV_some {x y z : Int} (h : modV x y = some z) : y ≠ 0 ∧ x.fmod y = z := by
  unfold modV at h
  generalize Int.instDecidableEq y 0 = d at h
  cases d with
  | isFalse hy => exact ⟨hy, Option.some.inj h⟩
  | isTrue hy => exact no_some h
theorem shrV_some {x y z : Int} (h : shrV x y = some z) : 0 ≤ y ∧ x.fdiv (2 ^ y.toNat) = z := by
  unfold shrV at h
  generalize Int.decLe 0 y = d at h
  cases d with
  | isTrue hy => exact ⟨hy, Option.some.inj h⟩
  | isFalse hy => exact no_some h
noncomputable def opV (op : Operator) (x y : Int) : Option Int := match op with
  | .Add => some (x + y)
  | .Sub => some (x - y)
  | .BitAnd => some (Builtin.bitAnd x y)
  | .BitOr => some (Builtin.bitOr x y)
  | .BitXor => some (Builtin.bitXor x y)
  | .Mod => modV x y
  | .RShift => shrV x y
  | _ => none
noncomputable def svB (r : Expr → Nat → Option (Value × Nat)) (e : Expr) (tk : Nat) : Option (Value × Nat) := match e with
  | .BinOp a op b _ => (match r a tk with
    | some (.int x _, t1) => (match r b t1 with
      | some (.int y _, t2) => (match opV op x y with | some z => some (.int z t2, t2 + 1) | none => none)
      | _ => none)
    | _ => none)
  | .UnaryOp .USub a _ => (match r a tk with | some (.int x _, t1) => some (.int (-x) t1, t1 + 1) | _ => none)
  | e => r e tk
noncomputable def sv (env : Env) (m : Str → Option Value) : Expr → Nat → Option (Value × Nat) := svB (svB (svB (svA env m)))
noncomputable def svs (r : Expr → Nat → Option (Value × Nat)) : List Expr → Nat → Option (List Value × Nat)
  | [], tk => some ([], tk)
  | e :: es, tk => (match r e tk with
    | some (v, t1) => (match svs r es t1 with | some (vs, t2) => some (v :: vs, t2) | none => none)
    | none => none)
noncomputable def cmpV (op : CmpOp) (x y : Int) : Option Bool := match op with
  | .Eq => some (x == y)
  | .NotEq => some (x != y)
  | .Lt => some (decide (x < y))
  | .LtE => some (decide (x ≤ y))
  | .Gt => some (decide (x > y))
  | .GtE => some (decide (x ≥ y))
  | _ => none
section
variable {w : World} {A : Around} {E : Value → Shared → Prop} {h₀ h : Heap} {gs : Array GenState} {dr : Drawn} {os : OsState} {env : Env} {m : Str → Option Value}
noncomputable def SvOk (w : World) (A : Around) (E : Value → Shared → Prop) (h : Heap) (gs : Array GenState) (dr : Drawn) (os : OsState) (env : Env) (r : Expr → Nat → Option (Value × Nat)) : Prop :=
  ∀ (e : Expr) (tk : Nat) (v : Value) (tk' : Nat) (Q : Value → Shared → Prop), r e tk = some (v, tk') → Q v ⟨h, gs, dr, tk', os⟩ → wpAny (model Challenge.rw_nt0423_01.row.prog w) A (eval e env) Q E ⟨h, gs, dr, tk, os⟩
theorem svA_ok (F : Fr h₀ env.locals h m) (hk : env.scope.kind = .function) : SvOk w A E h gs dr os env (svA env m) := by
  intro e tk v tk' Q hv q
  unfold svA at hv
  split at hv
  · rename_i x p
    split at hv
    · rename_i hx
      split at hv
      · rename_i hd
        split at hv
        · rename_i u hm
          cases hv
          exact wpAny_Name (wpAny_loadName_local hk hx F.ns hm q) hd
        · cases hv
      · cases hv
    · cases hv
  · cases hv
    exact wpAny_Constant_int (s := ⟨h, gs, dr, tk, os⟩) q
  · cases hv
theorem opV_ok {op : Operator} {x y z : Int} (hv : opV op x y = some z) {s : Shared} {t u : Tok} {Q : Value → Shared → Prop} (q : Q (.int z s.toks) { s with toks := s.toks + 1 }) : wpAny (model Challenge.rw_nt0423_01.row.prog w) A (binaryOp op (.int x t) (.int y u)) Q E s := by
  cases op
  case Add => cases hv; exact add_int q
  case Sub => cases hv; exact sub_int q
  case BitAnd => cases hv; exact and_int q
  case BitOr => cases hv; exact or_int q
  case BitXor => cases hv; exact xor_int q
  case Mod =>
    obtain ⟨hy, rfl⟩ := modV_some hv
    exact mod_int' hy q
  case RShift =>
    obtain ⟨hy, rfl⟩ := shrV_some hv
    exact rshift_int hy q
  all_goals exact no_some hv
theorem opI_ok {op : Operator} {x y z : Int} (hv : opV op x y = some z) {s : Shared} {t u : Tok} {Q : Value → Shared → Prop} (q : Q (.int z s.toks) { s with toks := s.toks + 1 }) : wpAny (model Challenge.rw_nt0423_01.row.prog w) A (inplaceOp op (.int x t) (.int y u)) Q E s := by
  cases op
  case Add => cases hv; exact iadd_int q
  case Sub => cases hv; exact isub_int q
  case BitAnd => cases hv; exact iand_int q
  case BitOr => cases hv; exact ior_int q
  case BitXor => cases hv; exact ixor_int q
  case Mod =>
    obtain ⟨hy, rfl⟩ := modV_some hv
    exact imod_int hy q
  case RShift =>
    obtain ⟨hy, rfl⟩ := shrV_some hv
    exact irshift_int hy q
  all_goals exact no_some hv
theorem svB_ok {r : Expr → Nat → Option (Value × Nat)} (R : SvOk w A E h gs dr os env r) : SvOk w A E h gs dr os env (svB r) := by
  intro e tk v tk' Q hv q
  unfold svB at hv
  split at hv
  · split at hv
    · rename_i ha
      split at hv
      · rename_i hb
        split at hv
        · rename_i ho
          cases hv
          exact wpAny_BinOp (R _ _ _ _ _ ha (R _ _ _ _ _ hb (opV_ok (s := ⟨h, gs, dr, _, os⟩) ho q)))
        · cases hv
      · cases hv
    · cases hv
  · split at hv
    · rename_i ha
      cases hv
      exact wpAny_UnaryOp (R _ _ _ _ _ ha (neg_int (s := ⟨h, gs, dr, _, os⟩) q))
    · cases hv
  · exact R _ _ _ _ _ hv q
theorem sv_ok (F : Fr h₀ env.locals h m) (hk : env.scope.kind = .function) : SvOk w A E h gs dr os env (sv env m) := svB_ok (svB_ok (svB_ok (svA_ok F hk)))

theorem sv_plain {e : Expr} {tk : Nat} {r : Value × Nat} (hv : sv env m e tk = some r) : (∀ tgt l, swapsWith e tgt l env = pure false) ∧ (∀ rest, starEach (e :: rest) env = (false, eval e env) :: starEach rest env) ∧ ∀ op, behindInMarks op e = false := by
  cases e <;> first | exact ⟨fun _ _ => rfl, fun _ => rfl, fun _ => rfl⟩ | exact no_some hv
variable {L : Addr}
theorem sv_eval {e : Expr} {tk : Nat} {v : Value} {tk' : Nat} {Q : Value → Shared → Prop} (F : Fr h₀ L h m) (hL : env.locals = L) (hk : env.scope.kind = .function) (hv : sv env m e tk = some (v, tk')) (q : Q v ⟨h, gs, dr, tk', os⟩) :
    wpAny (model Challenge.rw_nt0423_01.row.prog w) A (eval e env) Q E ⟨h, gs, dr, tk, os⟩ := by
  subst hL
  exact sv_ok F hk e tk v tk' Q hv q
theorem sv_ret {e : Expr} {p : Pos} {tk : Nat} {v : Value} {tk' : Nat} {Q : Flow → Shared → Prop} (F : Fr h₀ L h m) (hL : env.locals = L) (hk : env.scope.kind = .function) (hv : sv env m e tk = some (v, tk')) (q : Q (.ret v) ⟨h, gs, dr, tk', os⟩) :
    wpAny (model Challenge.rw_nt0423_01.row.prog w) A (exec (.Return (some e) p) env) Q E ⟨h, gs, dr, tk, os⟩ := wpAny_Return_some (sv_eval F hL hk hv q)
theorem cmpV_ok {op : CmpOp} {x y : Int} {c : Bool} (hc : cmpV op x y = some c) {s : Shared} {t u : Tok} {Q : Value → Shared → Prop} (q : Q (.bool c) s) : wpAny (model Challenge.rw_nt0423_01.row.prog w) A (compareOp op (.int x t) (.int y u)) Q E s := by
  cases op
  case Eq => cases hc; exact eq_int q
  case NotEq => cases hc; exact ne_int q
  case Lt => cases hc; exact lt_int q
  case LtE => cases hc; exact le_int q
  case Gt => cases hc; exact gt_int q
  case GtE => cases hc; exact ge_int q
  all_goals exact no_some hc
theorem sv_test {a b : Expr} {op : CmpOp} {p : Pos} {whole : Sem Value} {tk t1 t2 : Nat} {x y : Int} {u1 u2 : Tok} {c : Bool} {Q : Bool → Shared → Prop} (F : Fr h₀ L h m) (hL : env.locals = L) (hk : env.scope.kind = .function) (ha : sv env m a tk = some (.int x u1, t1)) (hb : sv env m b t1 = some (.int y u2, t2)) (hc : cmpV op x y = some c) (q : Q c ⟨h, gs, dr, t2, os⟩) :
    wpAny (model Challenge.rw_nt0423_01.row.prog w) A (isTrue (.Compare a [op] [b] p) env whole) Q E ⟨h, gs, dr, tk, os⟩ :=
  wpAny_isTrue_Compare1 (sv_eval F hL hk ha (sv_eval F hL hk hb (cmpV_ok hc (wpAny_truthy_bool q)))) ((sv_plain hb).2.2 op)
theorem sv_cmp {a b : Expr} {op : CmpOp} {p : Pos} {tk t1 t2 : Nat} {x y : Int} {u1 u2 : Tok} {c : Bool} {Q : Value → Shared → Prop} (F : Fr h₀ L h m) (hL : env.locals = L) (hk : env.scope.kind = .function) (ha : sv env m a tk = some (.int x u1, t1)) (hb : sv env m b t1 = some (.int y u2, t2)) (hc : cmpV op x y = some c) (q : Q (.bool c) ⟨h, gs, dr, t2, os⟩) :
    wpAny (model Challenge.rw_nt0423_01.row.prog w) A (eval (.Compare a [op] [b] p) env) Q E ⟨h, gs, dr, tk, os⟩ :=
  wpAny_Compare1 (sv_eval F hL hk ha (sv_eval F hL hk hb (cmpV_ok hc q))) ((sv_plain hb).2.2 op)
theorem storeE {x : Str} {v : Value} {tk : Nat} {Q : Unit → Shared → Prop} {news : List (Addr × Obj)} (F : Fr h₀ L h m) (N : News h₀ L h news) (hL : env.locals = L) (hk : env.scope.kind = .function) (hx : env.kindOf x = some .local)
    (k : ∀ h', let m' : Str → Option Value := (fun y => if y = x then some v else m y); Fr h₀ L h' m' → News h₀ L h' news → Q () ⟨h', gs, dr, tk + 1, os⟩) : wpAny (model Challenge.rw_nt0423_01.row.prog w) A (storeName env x v) Q E ⟨h, gs, dr, tk, os⟩ := by
  subst hL
  exact wpAny_storeName_local (s := ⟨h, gs, dr, tk, os⟩) hx F.ns (fun h' hn hs => k h' (F.set hn hs) (N.set hs)) (by rw [hk]; rfl)
theorem sv_assign {e : Expr} {x : Str} {p p' : Pos} {tk : Nat} {v : Value} {tk' : Nat} {Q : Flow → Shared → Prop} {news : List (Addr × Obj)} (F : Fr h₀ L h m) (N : News h₀ L h news) (hL : env.locals = L) (hk : env.scope.kind = .function) (hx : env.kindOf x = some .local) (hv : sv env m e tk = some (v, tk'))
    (k : ∀ h', let m' : Str → Option Value := (fun y => if y = x then some v else m y); Fr h₀ L h' m' → News h₀ L h' news → Q .next ⟨h', gs, dr, tk' + 1, os⟩) :
    wpAny (model Challenge.rw_nt0423_01.row.prog w) A (exec (.Assign [.Name x p'] e p) env) Q E ⟨h, gs, dr, tk, os⟩ :=
  wpAny_Assign_Name (sv_eval F hL hk hv (storeE F N hL hk hx k)) ((sv_plain hv).1 _ _)
theorem sv_aug {e : Expr} {x : Str} {op : Operator} {p p' : Pos} {tk tk' : Nat} {a b z : Int} {t u : Tok} {Q : Flow → Shared → Prop} {news : List (Addr × Obj)} (F : Fr h₀ L h m) (N : News h₀ L h news) (hL : env.locals = L) (hk : env.scope.kind = .function) (hx : env.kindOf x = some .local) (ha : m x = some (.int a t)) (hv : sv env m e tk = some (.int b u, tk')) (ho : opV op a b = some z)
    (k : ∀ h', let m' : Str → Option Value := (fun y => if y = x then some (.int z tk') else m y); Fr h₀ L h' m' → News h₀ L h' news → Q .next ⟨h', gs, dr, tk' + 1 + 1, os⟩) :
    wpAny (model Challenge.rw_nt0423_01.row.prog w) A (exec (.AugAssign (.Name x p') op e p) env) Q E ⟨h, gs, dr, tk, os⟩ := by
  refine wpAny_AugAssign_Name ?_
  refine wpAny_loadName_local hk hx (hL ▸ F.ns) ha ?_
  exact sv_eval F hL hk hv (opI_ok (s := ⟨h, gs, dr, tk', os⟩) ho (storeE F N hL hk hx k))

theorem svs_ok (F : Fr h₀ L h m) (hL : env.locals = L) (hk : env.scope.kind = .function) {pos : Pos} : ∀ {es : List Expr} {tk : Nat} {vs : List Value} {tk' : Nat} {Q : List Value → Shared → Prop}, svs (sv env m) es tk = some (vs, tk') → Q vs ⟨h, gs, dr, tk', os⟩ →
    wpAny (model Challenge.rw_nt0423_01.row.prog w) A (spliced (backTo pos (starEach es env))) Q E ⟨h, gs, dr, tk, os⟩
  | [], tk, vs, tk', Q, hv, q => by
    cases hv
    exact args_nil q
  | e :: es, tk, vs, tk', Q, hv, q => by
    unfold svs at hv
    split at hv
    · rename_i he
      split at hv
      · rename_i hs
        cases hv
        exact args_cons (sv_eval F hL hk he (svs_ok F hL hk hs q)) ((sv_plain he).2.1 _)
      · cases hv
    · cases hv
theorem svs_plain {pos : Pos} : ∀ {es : List Expr} {tk : Nat} {r : List Value × Nat}, svs (sv env m) es tk = some r → (backTo pos (starEach es env)).any (·.1) = false
  | [], tk, r, hv => rfl
  | e :: es, tk, r, hv => by
    unfold svs at hv
    split at hv
    · rename_i he
      split at hv
      · rename_i hs
        rw [(sv_plain he).2.1]
        show (false || (backTo pos (starEach es env)).any (·.1)) = false
        rw [svs_plain hs]; rfl
      · cases hv
    · cases hv
theorem sv_call {f : Str} {fa : Addr} {e : Expr} {es : List Expr} {p1 p2 : Pos} {tk : Nat} {vs : List Value} {tk' : Nat} {mean : ExcName → Option Value} {mg mb : Str → Option Value} {Q : Value → Shared → Prop}
    (F : Fr h₀ L h m) (X : Frag.In (hd.heap_1 w.params) h₀) (T : Top hd.view_39 (looseW hd.view_39 []) mean mg mb h₀) (hL : env.locals = L) (hG : env.globals = mainGlobals) (hk : env.scope.kind = .function) (hx : env.kindOf f = some .globalImplicit) (hdb : (f == ("__debug__" : Str)) = false) (hn : nsIn (hd.heap_1 w.params) mainGlobals f = some (some (.ref fa))) (hf : keepIn (hd.heap_1 w.params) (.ref fa) = true)
    (hv : svs (sv env m) (e :: es) tk = some (vs, tk')) (q : wpAny (model Challenge.rw_nt0423_01.row.prog w) A (call (.ref fa) vs) Q E ⟨h, gs, dr, tk', os⟩) :
    wpAny (model Challenge.rw_nt0423_01.row.prog w) A (eval (.Call (.Name f p1) (e :: es) [] p2) env) Q E ⟨h, gs, dr, tk, os⟩ := by
  refine Call_ ?_
  refine Name_function_global hk hx (loadGlobal_global (by rw [hG]; exact T.g.keeps F.keep) (mg_of X T.g hn) ?_) hdb
  have he : ∃ r, sv env m e tk = some r := by
    unfold svs at hv
    split at hv
    · rename_i he; exact ⟨_, he⟩
    · cases hv
  obtain ⟨r, he⟩ := he
  have hs : (backTo p2 (starEach (e :: es) env)).any (·.1) = false := svs_plain hv
  refine callWith_K X hf (svs_ok F hL hk hv ⟨X.keeps F.keep, q⟩) ((sv_plain he).2.1 _) ?_
  rw [(sv_plain he).2.1] at hs
  exact hs
end

local macro_rules | `(tactic| walk_at $s:str) => `(tactic| k_extra $s)
local macro_rules | `(tactic| ktr_room) => `(tactic| exact room_use (by assumption) rfl)
local macro_rules | `(tactic| ktr_units) => `(tactic| first | exact units_use (by assumption) rfl | exact units_use0 (by assumption) rfl)
local macro_rules | `(tactic| passes_own) => `(tactic| assumption)
example : True := by
  k_with_none
  exact True.intro
example : True := by
  k_with "exec While" => (k_here; refine stop_here ?_)
  k_with "pyIter ref" => (k_here; refine stop_here ?_)
  k_with "WPost" => (dsimp only [WPost])
  k_with "WEnd" => (refine stop_here ?_)
  k_with "FPost" => (dsimp only [FPost])
  k_with "FEnd" => (refine stop_here ?_)
  k_with "M on" => ((try dsimp only); repeat' (first | (k_unfold; (try dsimp only)) | walk1 | (dsimp only; walk1) | (leave1; try dsimp only)))
  k_with "M fold" => ((with_reducible refine fold_fr (by assumption) ?_); intro m0x F0x)
  k_with "M go" => ((try walk_at "M fold"); walk_at "M on")
  k_with "M all" => (simp only [List.forall_mem_cons]; repeat' (first | exact rfl | exact (fun _ h => nomatch h) | refine ⟨?_, ?_⟩))
  k_with "call ref" => (k_here; refine stop_here ?_)
  k_with "compareOp NotEq ref ref" => (k_here; k_dflt (refine' ne_intsK ?k1Zq ?k2Zq ?k3Zq ?k4Zq ?k5Zq ?_; (case k1Zq => is_list); (case k2Zq => l_ints); (case k3Zq => is_list); (case k4Zq => l_ints); (case k5Zq => ktr_units)))
  k_with "compareOp Eq ref ref" => (k_here; k_dflt (refine' eq_intsK ?k1Zq ?k2Zq ?k3Zq ?k4Zq ?k5Zq ?_; (case k1Zq => is_list); (case k2Zq => l_ints); (case k3Zq => is_list); (case k4Zq => l_ints); (case k5Zq => ktr_units)))
  k_with "subscriptTail Name Name ref int" => (k_here; (with_reducible show wpAny _ _ (subscriptTail _ _ (Value.ref _) (Value.int _ _)) _ _ _); k_dflt (refine' item_anyK ?k1Zq ?k2Zq ?k3Zq ?k4Zq ?k5Zq ?_ ?k6Zq; (case k1Zq => is_list); (case k2Zq => l_ints); (case k3Zq => first | ((walk_at "M ne"); omega) | omega); (case k4Zq => first | ((walk_at "M ne"); omega) | omega); (case k5Zq => first | ((walk_at "M ne"); omega) | omega); (case k6Zq => with_unfolding_all rfl); k_whole); intro _)
  k_with "subscriptTail Name BinOp ref int" => (k_here; (with_reducible show wpAny _ _ (subscriptTail _ _ (Value.ref _) (Value.int _ _)) _ _ _); k_dflt (refine' item_anyK ?k1Zq ?k2Zq ?k3Zq ?k4Zq ?k5Zq ?_ ?k6Zq; (case k1Zq => is_list); (case k2Zq => l_ints); (case k3Zq => first | ((walk_at "M ne"); omega) | omega); (case k4Zq => first | ((walk_at "M ne"); omega) | omega); (case k5Zq => first | ((walk_at "M ne"); omega) | omega); (case k6Zq => with_unfolding_all rfl); k_whole); intro _)
  k_with "subscriptTail" => (k_here; (with_reducible show wpAny _ _ (subscriptTail _ _ (Value.ref _) (Value.int _ _)) _ _ _); k_dflt (refine' item_anyK ?k1Zq ?k2Zq ?k3Zq ?k4Zq ?k5Zq ?_ ?k6Zq; (case k1Zq => is_list); (case k2Zq => l_ints); (case k3Zq => first | ((walk_at "M ne"); omega) | omega); (case k4Zq => first | ((walk_at "M ne"); omega) | omega); (case k5Zq => first | ((walk_at "M ne"); omega) | omega); (case k6Zq => with_unfolding_all rfl); k_whole); intro _)
  k_with "M less" => (repeat ((rename (@LT.lt Nat _ _ _) ∧ _ => lZx); clear lZx))
  k_with "M drop2" => ((repeat ((rename News _ _ _ (_ :: _ :: _ :: _) => nZx); (have nYx := news_tail nZx); (clear nZx))); walk_at "M less")
  k_with "M drop1" => ((repeat ((rename News _ _ _ (_ :: _ :: _) => nZx); (have nYx := news_tail nZx); (clear nZx))); walk_at "M less")
  k_with "subscriptTail Name UnaryOp ref int" => (k_here; (with_reducible show wpAny _ _ (subscriptTail _ _ (Value.ref _) (Value.int _ _)) _ _ _); k_dflt (refine' item_list_ints_neg ?k1Zq ?k2Zq ?k3Zq ?k4Zq ?k5Zq ?_; (case k1Zq => is_list); (case k2Zq => l_ints); (case k3Zq => first | ((walk_at "M ne"); omega) | omega); (case k4Zq => first | ((walk_at "M ne"); omega) | omega); (case k5Zq => first | ((walk_at "M ne"); omega) | omega); k_whole); intro _)
  k_with "execs cons" => (k_here; first | (with_reducible refine execs_one ?_) | ((with_reducible refine execs_let ?_); intro qkx))
  k_with "execs nil" => (k_here; (with_reducible refine wpAny_execs_nil ?_))
  k_with "storeName" => (k_here; k_dflt (refine' storeE ?FZq ?NZq ?lZq ?kZq ?xZq ?_; (case lZq => exact rfl); (case kZq => exact rfl); (case xZq => exact rfl); (case FZq => k_asm); (case NZq => k_asm); k_whole; intro hx' mx' Fx' Nx'; (try k_sweep)))
  k_with "M ev" => (k_here; (first | with_reducible show wpAny _ _ (eval _ (envOf _ _ _ _ _)) _ _ _ | with_reducible show wpAny _ _ (eval _ (envOfC _ _ _ _ _)) _ _ _); k_dflt (refine' sv_eval ?FZq ?lZq ?kZq ?vZq ?_; (case lZq => exact rfl); (case kZq => exact rfl); (case FZq => k_asm); (case vZq => exact rfl); k_whole))
  k_with "eval Name" => walk_at "M ev"
  k_with "eval BinOp" => walk_at "M ev"
  k_with "eval UnaryOp" => walk_at "M ev"
  k_with "eval Constant int" => walk_at "M ev"
  k_with "exec Return some" => (k_here; k_dflt (refine' sv_ret ?FZq ?lZq ?kZq ?vZq ?_; (case lZq => exact rfl); (case kZq => exact rfl); (case FZq => k_asm); (case vZq => exact rfl); k_whole))
  k_with "isTrue Compare" => (k_here; (first | with_reducible show wpAny _ _ (isTrue _ (envOf _ _ _ _ _) _) _ _ _ | with_reducible show wpAny _ _ (isTrue _ (envOfC _ _ _ _ _) _) _ _ _); k_dflt (refine' sv_test ?FZq ?lZq ?kZq ?aZq ?bZq ?cZq ?_; (case lZq => exact rfl); (case kZq => exact rfl); (case FZq => k_asm); (case aZq => exact rfl); (case bZq => exact rfl); (case cZq => exact rfl); k_whole))
  k_with "eval Compare" => (k_here; (first | with_reducible show wpAny _ _ (eval _ (envOf _ _ _ _ _)) _ _ _ | with_reducible show wpAny _ _ (eval _ (envOfC _ _ _ _ _)) _ _ _); k_dflt (refine' sv_cmp ?FZq ?lZq ?kZq ?aZq ?bZq ?cZq ?_; (case lZq => exact rfl); (case kZq => exact rfl); (case FZq => k_asm); (case aZq => exact rfl); (case bZq => exact rfl); (case cZq => exact rfl); k_whole))
  k_with "exec Assign" => (k_here; k_dflt (refine' sv_assign ?FZq ?NZq ?lZq ?kZq ?xZq ?vZq ?_; (case lZq => exact rfl); (case kZq => exact rfl); (case xZq => exact rfl); (case FZq => k_asm); (case NZq => k_asm); (case vZq => exact rfl); k_whole; intro hx' mx' Fx' Nx'; (try k_sweep)))
  k_with "exec AugAssign" => (k_here; k_dflt (refine' sv_aug ?FZq ?NZq ?lZq ?kZq ?xZq ?aZq ?vZq ?oZq ?_; (case lZq => exact rfl); (case kZq => exact rfl); (case xZq => exact rfl); (case FZq => k_asm); (case NZq => k_asm); (case aZq => exact rfl); (case vZq => exact rfl); (case oZq => exact rfl); k_whole; intro hx' mx' Fx' Nx'; (try k_sweep)))
  k_with "eval Call" => (k_here; k_dflt (refine' sv_call ?FZq ?XZq ?TZq ?lZq ?gZq ?kZq ?xZq ?dZq ?nZq ?fZq ?vZq ?_; (case lZq => exact rfl); (case gZq => exact rfl); (case kZq => exact rfl); (case xZq => exact rfl); (case dZq => decide); (case FZq => k_asm); (case XZq => k_asm); (case TZq => k_asm); (case nZq => k_is); (case fZq => k_is); (case vZq => exact rfl); k_whole))
  k_with "M all" => (with_reducible exact List.forall_mem_nil _)
  k_with "M ne" => ((repeat ((rename @Ne Nat _ _ ∧ _ => lZx); clear lZx)); (repeat ((rename (@Ne Nat _ _ ∧ _) ∧ _ => lZx); clear lZx)))
  exact True.intro
theorem kstB_same {m : Str → Option Value} {ps : List (Str × Value)} (h : ∀ p ∈ ps, m p.1 = some p.2) : kstB m ps = m :=
  funext fun _ => kstB_eq h fun _ => rfl

noncomputable def WEnd {σ : Type} (h₀ : Heap) (L : Addr) (s : Shared) (Led : σ → List (Addr × Obj)) (ps : σ → List (Str × Value)) (P : σ → Prop) (μ : σ → Nat) (c : σ) (s₂ : Shared) : Prop :=
  ∃ (c' : σ) (h' : Heap) (tk : Nat) (m' : Str → Option Value) (news' : List (Addr × Obj)), s₂ = { s with heap := h', toks := tk } ∧ Fr h₀ L h' m' ∧ News h₀ L h' news' ∧ (∀ p ∈ Led c', p ∈ news') ∧ (∀ p ∈ ps c', m' p.1 = some p.2) ∧ P c' ∧ μ c' < μ c
noncomputable def WPost {σ : Type} (h₀ : Heap) (L : Addr) (s : Shared) (Led : σ → List (Addr × Obj)) (ps : σ → List (Str × Value)) (P : σ → Prop) (μ : σ → Nat) (Q : Flow → Shared → Prop) (c : σ) (f : Flow) (s₂ : Shared) : Prop :=
  match f with
  | .ret v => Q (.ret v) s₂
  | .brk => Q .next s₂
  | _ => WEnd h₀ L s Led ps P μ c s₂
theorem w_end {σ : Type} {h₀ : Heap} {L : Addr} {s : Shared} {Led : σ → List (Addr × Obj)} {ps : σ → List (Str × Value)} {m' : Str → Option Value} {P : σ → Prop} {μ : σ → Nat} {c : σ} {h' : Heap} {tk : Nat} {news' : List (Addr × Obj)} (c' : σ)
    (F : Fr h₀ L h' m') (N : News h₀ L h' news') (hn : ∀ p ∈ Led c', p ∈ news') (hk : ∀ p ∈ ps c', m' p.1 = some p.2) (hp : P c') (hm : μ c' < μ c) :
    WEnd h₀ L s Led ps P μ c { s with heap := h', toks := tk } := ⟨c', h', tk, m', news', rfl, F, N, hn, hk, hp, hm⟩

noncomputable def FEnd {σ : Type} (h₀ : Heap) (L : Addr) (s : Shared) (Led : σ → List (Addr × Obj)) (ps : σ → List (Str × Value)) (P : σ → Prop) (own : List (Addr × Obj)) (adr : List Addr) (s₂ : Shared) : Prop :=
  ∃ (c' : σ) (h' : Heap) (tk : Nat) (m' : Str → Option Value) (news' : List (Addr × Obj)), s₂ = { s with heap := h', toks := tk } ∧ Fr h₀ L h' m' ∧ News h₀ L h' news' ∧ (∀ p ∈ Led c' ++ own, p ∈ news') ∧ (Led c').map (·.1) = adr ∧ (∀ p ∈ ps c', m' p.1 = some p.2) ∧ P c'
noncomputable def FPost {σ : Type} (h₀ : Heap) (L : Addr) (s : Shared) (Led : σ → List (Addr × Obj)) (ps : σ → List (Str × Value)) (P : σ → Prop) (own : List (Addr × Obj)) (adr : List Addr) (Q : Flow → Shared → Prop) (f : Flow) (s₂ : Shared) : Prop :=
  match f with
  | .ret v => Q (.ret v) s₂
  | .brk => Q .next s₂
  | _ => FEnd h₀ L s Led ps P own adr s₂
theorem f_end {σ : Type} {h₀ : Heap} {L : Addr} {s : Shared} {Led : σ → List (Addr × Obj)} {ps : σ → List (Str × Value)} {m' : Str → Option Value} {P : σ → Prop} {own : List (Addr × Obj)} {adr : List Addr} {h' : Heap} {tk : Nat} {news' : List (Addr × Obj)} (c' : σ)
    (F : Fr h₀ L h' m') (N : News h₀ L h' news') (hn : ∀ p ∈ Led c' ++ own, p ∈ news') (ha : (Led c').map (·.1) = adr) (hk : ∀ p ∈ ps c', m' p.1 = some p.2) (hp : P c') :
    FEnd h₀ L s Led ps P own adr { s with heap := h', toks := tk } := ⟨c', h', tk, m', news', rfl, F, N, hn, ha, hk, hp⟩

section
variable {prog : Program} {w : World} {A : Around} {E : Value → Shared → Prop} {s : Shared} {env : Env} {h₀ : Heap} {x : Str} {body : List Stmt} {Q : Flow → Shared → Prop}

theorem m_while {σ : Type} {L : Addr} {test : Expr} {pos : Pos} {m₀ : Str → Option Value} (Led : σ → List (Addr × Obj)) (ps : σ → List (Str × Value)) (P : σ → Prop) (μ : σ → Nat) (c₀ : σ)
    (F : Fr h₀ L s.heap m₀) (N : News h₀ L s.heap (Led c₀)) (hk : ∀ p ∈ ps c₀, m₀ p.1 = some p.2) (hp : P c₀)
    (turn : ∀ (c : σ) (u : Str → Option Value) h tk, P c → Fr h₀ L h (kstB u (ps c)) → News h₀ L h (Led c) →
      wpAny (model prog w) A (isTrue test env (eval test env)) (fun b s₂ =>
        if b = true then wpAny (model prog w) A (execs body env) (WPost h₀ L s Led ps P μ Q c) E s₂ else Q .next s₂) E { s with heap := h, toks := tk })
    (hE : PassesOwn (model prog w) A env E := by passes_own) :
    wpAny (model prog w) A (exec (.While test body [] pos) env) Q E s := by
  refine While_inv2 (fun n m nx => ∃ c : σ, nx = Led c ∧ μ c = n ∧ (∀ p ∈ ps c, m p.1 = some p.2) ∧ P c) F N ⟨c₀, rfl, rfl, hk, hp⟩ ?_ hE
  rintro n m₁ nx h tk F₁ N₁ ⟨c, hnx, hsz, h1, hp'⟩
  subst hnx hsz
  have F₂ : Fr h₀ L h (kstB m₁ (ps c)) := by rw [kstB_same h1]; exact F₁
  refine wpAny_mono (turn c m₁ h tk hp' F₂ N₁) (fun b s₂ p => ?_) fun _ _ x => x
  cases b with
  | false => simpa using p
  | true =>
    simp only [if_true] at p ⊢
    refine wpAny_mono p (fun f s₃ q => ?_) fun _ _ x => x
    cases f with
    | ret v => exact q
    | brk => exact q
    | next =>
      obtain ⟨c', h', tk', m', news', rfl, F', N', hn, hk9, hp9, hm9⟩ := q
      exact ⟨h', tk', m', Led c', μ c', rfl, F', fun p hp => N' p (hn p hp), hm9, c', rfl, rfl, hk9, hp9⟩
    | cont =>
      obtain ⟨c', h', tk', m', news', rfl, F', N', hn, hk9, hp9, hm9⟩ := q
      exact ⟨h', tk', m', Led c', μ c', rfl, F', fun p hp => N' p (hn p hp), hm9, c', rfl, rfl, hk9, hp9⟩

theorem m_range {σ : Type} {r : Addr} {a₀ b₀ st : Int} {t₀ u₀ v₀ : Tok} {m₀ : Str → Option Value} (Led : σ → List (Addr × Obj)) (ps : σ → List (Str × Value)) (P : Nat → σ → Prop) (c₀ : σ) (n : Nat)
    (hh : A.handled = none) (hr : IsRange s.heap r a₀ b₀ st t₀ u₀ v₀) (hsmall : Builtin.Range.small a₀ b₀ st = true) (hn : Builtin.Range.rangeSize a₀ b₀ st = (n : Int)) (F : Fr h₀ env.locals s.heap m₀) (N : News h₀ env.locals s.heap (Led c₀)) (hk : ∀ p ∈ ps c₀, m₀ p.1 = some p.2) (hp : P 0 c₀)
    (turn : ∀ (i : Nat) (c : σ) t (u : Str → Option Value) h tk own, i < n → OwnOff own ((Led c₀).map (·.1)) → P i c →
      Fr h₀ env.locals h (kstB u ((x, .int (a₀ + i * st) t) :: ps c)) → News h₀ env.locals h (Led c ++ own) →
      wpAny (model prog w) A (execs body env) (FPost h₀ env.locals { s with heap := h, toks := tk } Led ps (P (i + 1)) own ((Led c₀).map (·.1)) Q) E { s with heap := h, toks := tk })
    (done : ∀ (c : σ) (u : Str → Option Value) h tk, P n c → Fr h₀ env.locals h (kstB u (ps c)) → News h₀ env.locals h (Led c) → Q .next { s with heap := h, toks := tk }) :
    wpAny (model prog w) A (pyIter (.ref r)) (fun it s₂ => LoopAtV prog w A h₀ env x body Q E it s₂) E s := by
  refine wpAny_pyIter_range hr hsmall ?_
  have W : Walks prog w A s.heap.objs.size [s.heap.objs.size] [s.heap.objs.size] n (fun i v => i < n ∧ ∃ t, v = .int (a₀ + i * st) t)
      (fun i h => IsRangeIter h s.heap.objs.size (a₀ + (i : Nat) * st) ((n : Int) - (i : Nat)) st) := (Walks.range hh _ a₀ st n).bound
  refine loop_invN (fun i m nx => ∃ c : σ, nx = Led c ∧ (∀ p ∈ ps c, m p.1 = some p.2) ∧ P i c) W ?_ ?_ ?_ ?_ (by show IsRangeIter _ _ _ _ _; rw [hn]; simpa using Heap.get?_push_size _ rfl) (F.push _) (fun p hp => ⟨Heap.get?_push_of_some _ (N p hp).1, (N p hp).2⟩) ⟨c₀, rfl, hk, hp⟩ ?_ ?_
  · intro hm
    exact absurd F.ns.lt ((List.mem_singleton.mp hm) ▸ Nat.lt_irrefl _)
  · intro b hb
    rw [List.mem_singleton.mp hb]
    exact next_is_new F
  · intro p hp hI
    exact absurd (Heap.lt_size (N p hp).1) ((List.mem_singleton.mp hI) ▸ Nat.lt_irrefl _)
  · intro p hp hI
    exact absurd (Heap.lt_size (N p hp).1) ((List.mem_singleton.mp hI) ▸ Nat.lt_irrefl _)
  · rintro i v m₁ nx h tk own hi ⟨_, t, rfl⟩ _ hoff ⟨c, rfl, h1, hp'⟩ F₁ N₁
    have F₂ : Fr h₀ env.locals h (kstB m₁ ((x, .int (a₀ + i * st) t) :: ps c)) := by
      have e : kstB m₁ ((x, .int (a₀ + i * st) t) :: ps c) = fun y => if y = x then some (.int (a₀ + i * st) t) else m₁ y := by
        show (fun z => if z = x then some (Value.int (a₀ + i * st) t) else kstB m₁ (ps c) z) = _
        rw [kstB_same h1]
      rw [e]; exact F₁
    refine wpAny_mono (turn i c t m₁ h tk own hi hoff hp' F₂ N₁) (fun f s₂ p => ?_) fun _ _ y => y
    have fin : FEnd h₀ env.locals { s with heap := h, toks := tk } Led ps (P (i + 1)) own ((Led c₀).map (·.1)) s₂ → InvEndN h₀ env.locals (fun m nx => ∃ c : σ, nx = Led c ∧ (∀ p ∈ ps c, m p.1 = some p.2) ∧ P (i + 1) c) own ((Led c₀).map (·.1)) { s with heap := h, toks := tk } s₂ := by
      rintro ⟨c', h', tk', m', news', e, F', N', hn', ha, hk', hp9⟩
      exact ⟨h', tk', m', news', Led c', e, F', N', fun p hp => hn' p (List.mem_append.mpr (.inl hp)), fun p hp => hn' p (List.mem_append.mpr (.inr hp)), ha, c', rfl, hk', hp9⟩
    cases f with
    | ret v => exact p
    | brk => exact p
    | next => exact fin p
    | cont => exact fin p
  · rintro m₁ nx h tk ⟨c, rfl, h1, hp'⟩ F₁ N₁
    exact done c m₁ h tk hp' (by rw [kstB_same h1]; exact F₁) N₁

/-! the same, the list that the loop grows on top of the ledger -/
theorem m_range1 {σ : Type} {r lo : Addr} {rest : List (Addr × Obj)} {a₀ b₀ st : Int} {t₀ u₀ v₀ : Tok} {m₀ : Str → Option Value} (ws : σ → List Value) (cp : σ → Nat) (ps : Addr → σ → List (Str × Value)) (P : Nat → σ → Prop) (c₀ : σ) (n : Nat)
    (hh : A.handled = none) (hr : IsRange s.heap r a₀ b₀ st t₀ u₀ v₀) (hsmall : Builtin.Range.small a₀ b₀ st = true) (hn : Builtin.Range.rangeSize a₀ b₀ st = (n : Int)) (F : Fr h₀ env.locals s.heap m₀) (N : News h₀ env.locals s.heap ((lo, listOf (ws c₀).toArray (cp c₀)) :: rest)) (hk : ∀ p ∈ ps lo c₀, m₀ p.1 = some p.2) (hp : P 0 c₀)
    (turn : ∀ (i : Nat) (c : σ) t (u : Str → Option Value) h tk own, i < n → OwnOff own (((lo, listOf (ws c₀).toArray (cp c₀)) :: rest).map (·.1)) → P i c →
      Fr h₀ env.locals h (kstB u ((x, .int (a₀ + i * st) t) :: ps lo c)) → News h₀ env.locals h (((lo, listOf (ws c).toArray (cp c)) :: rest) ++ own) →
      wpAny (model prog w) A (execs body env) (FPost h₀ env.locals { s with heap := h, toks := tk } (fun c => (lo, listOf (ws c).toArray (cp c)) :: rest) (ps lo) (P (i + 1)) own (((lo, listOf (ws c₀).toArray (cp c₀)) :: rest).map (·.1)) Q) E { s with heap := h, toks := tk })
    (done : ∀ (c : σ) (u : Str → Option Value) h tk, P n c → Fr h₀ env.locals h (kstB u (ps lo c)) → News h₀ env.locals h ((lo, listOf (ws c).toArray (cp c)) :: rest) → Q .next { s with heap := h, toks := tk }) :
    wpAny (model prog w) A (pyIter (.ref r)) (fun it s₂ => LoopAtV prog w A h₀ env x body Q E it s₂) E s :=
  m_range (fun c => (lo, listOf (ws c).toArray (cp c)) :: rest) (ps lo) P c₀ n hh hr hsmall hn F N hk hp turn done
theorem m_range2 {σ : Type} {r lo : Addr} {g : Addr} {og : Obj} {rest : List (Addr × Obj)} {a₀ b₀ st : Int} {t₀ u₀ v₀ : Tok} {m₀ : Str → Option Value} (ws : σ → List Value) (cp : σ → Nat) (ps : Addr → Addr → σ → List (Str × Value)) (P : Nat → σ → Prop) (c₀ : σ) (n : Nat)
    (hh : A.handled = none) (hr : IsRange s.heap r a₀ b₀ st t₀ u₀ v₀) (hsmall : Builtin.Range.small a₀ b₀ st = true) (hn : Builtin.Range.rangeSize a₀ b₀ st = (n : Int)) (F : Fr h₀ env.locals s.heap m₀) (N : News h₀ env.locals s.heap ((lo, listOf (ws c₀).toArray (cp c₀)) :: (g, og) :: rest)) (hk : ∀ p ∈ ps lo g c₀, m₀ p.1 = some p.2) (hp : P 0 c₀)
    (turn : ∀ (i : Nat) (c : σ) t (u : Str → Option Value) h tk own, i < n → OwnOff own (((lo, listOf (ws c₀).toArray (cp c₀)) :: (g, og) :: rest).map (·.1)) → P i c →
      Fr h₀ env.locals h (kstB u ((x, .int (a₀ + i * st) t) :: ps lo g c)) → News h₀ env.locals h (((lo, listOf (ws c).toArray (cp c)) :: (g, og) :: rest) ++ own) →
      wpAny (model prog w) A (execs body env) (FPost h₀ env.locals { s with heap := h, toks := tk } (fun c => (lo, listOf (ws c).toArray (cp c)) :: (g, og) :: rest) (ps lo g) (P (i + 1)) own (((lo, listOf (ws c₀).toArray (cp c₀)) :: (g, og) :: rest).map (·.1)) Q) E { s with heap := h, toks := tk })
    (done : ∀ (c : σ) (u : Str → Option Value) h tk, P n c → Fr h₀ env.locals h (kstB u (ps lo g c)) → News h₀ env.locals h ((lo, listOf (ws c).toArray (cp c)) :: (g, og) :: rest) → Q .next { s with heap := h, toks := tk }) :
    wpAny (model prog w) A (pyIter (.ref r)) (fun it s₂ => LoopAtV prog w A h₀ env x body Q E it s₂) E s :=
  m_range (fun c => (lo, listOf (ws c).toArray (cp c)) :: (g, og) :: rest) (ps lo g) P c₀ n hh hr hsmall hn F N hk hp turn done

/-! the ledger stands still; its first two addresses go to the names -/
theorem m_rangeK2 {σ : Type} {r lo g : Addr} {ox og : Obj} {rest : List (Addr × Obj)} {a₀ b₀ st : Int} {t₀ u₀ v₀ : Tok} {m₀ : Str → Option Value} (ps : Addr → Addr → σ → List (Str × Value)) (P : Nat → σ → Prop) (c₀ : σ) (n : Nat)
    (hh : A.handled = none) (hr : IsRange s.heap r a₀ b₀ st t₀ u₀ v₀) (hsmall : Builtin.Range.small a₀ b₀ st = true) (hn : Builtin.Range.rangeSize a₀ b₀ st = (n : Int)) (F : Fr h₀ env.locals s.heap m₀) (N : News h₀ env.locals s.heap ((lo, ox) :: (g, og) :: rest)) (hk : ∀ p ∈ ps lo g c₀, m₀ p.1 = some p.2) (hp : P 0 c₀)
    (turn : ∀ (i : Nat) (c : σ) t (u : Str → Option Value) h tk own, i < n → OwnOff own (((lo, ox) :: (g, og) :: rest).map (·.1)) → P i c →
      Fr h₀ env.locals h (kstB u ((x, .int (a₀ + i * st) t) :: ps lo g c)) → News h₀ env.locals h (((lo, ox) :: (g, og) :: rest) ++ own) →
      wpAny (model prog w) A (execs body env) (FPost h₀ env.locals { s with heap := h, toks := tk } (fun _ : σ => (lo, ox) :: (g, og) :: rest) (ps lo g) (P (i + 1)) own (((lo, ox) :: (g, og) :: rest).map (·.1)) Q) E { s with heap := h, toks := tk })
    (done : ∀ (c : σ) (u : Str → Option Value) h tk, P n c → Fr h₀ env.locals h (kstB u (ps lo g c)) → News h₀ env.locals h ((lo, ox) :: (g, og) :: rest) → Q .next { s with heap := h, toks := tk }) :
    wpAny (model prog w) A (pyIter (.ref r)) (fun it s₂ => LoopAtV prog w A h₀ env x body Q E it s₂) E s :=
  m_range (fun _ => (lo, ox) :: (g, og) :: rest) (ps lo g) P c₀ n hh hr hsmall hn F N hk hp turn done

/-! a for over a list of the ledger's; its turns keep what ps says and nothing else -/
theorem m_listV {l : Addr} {items : Array Value} {k : Nat} {rest : List (Addr × Obj)} {m₀ : Str → Option Value} (ps : List (Str × Value))
    (hh : A.handled = none) (F : Fr h₀ env.locals s.heap m₀) (N : News h₀ env.locals s.heap ((l, listOf items k) :: rest)) (hk : ∀ p ∈ ps, m₀ p.1 = some p.2)
    (turn : ∀ (i : Nat) v (u : Str → Option Value) h tk own, items[i]? = some v → Fr h₀ env.locals h (kstB u ((x, v) :: ps)) → News h₀ env.locals h own →
      wpAny (model prog w) A (execs body env) (FPost h₀ env.locals { s with heap := h, toks := tk } (fun _ : Unit => []) (fun _ => ps) (fun _ => True) own [] Q) E { s with heap := h, toks := tk })
    (done : ∀ (u : Str → Option Value) h tk, Fr h₀ env.locals h (kstB u ps) → News h₀ env.locals h [] → Q .next { s with heap := h, toks := tk }) :
    wpAny (model prog w) A (pyIter (.ref l)) (fun it s₂ => LoopAtV prog w A h₀ env x body Q E it s₂) E s := by
  have hl : s.heap.IsList l items := News.isList N (List.Mem.head _)
  have hlL : l ≠ env.locals := (N _ (List.Mem.head _)).2.1
  have hlt : l < s.heap.objs.size := Heap.lt_size (N _ (List.Mem.head _)).1
  refine wpAny_pyIter_list hl ?_
  have W := Walks.list (prog := prog) (w := w) hh s.heap.objs.size l (Nat.ne_of_lt hlt) items
  refine loop_invN (fun _ m nx => nx = [] ∧ ∀ p ∈ ps, m p.1 = some p.2) W ?_ ?_ ?_ ?_ ⟨⟨_, Heap.get?_push_size _ rfl, rfl, rfl⟩, hl.at fun o e => Heap.get?_push_of_some _ e⟩ (F.push _) News.nil ⟨rfl, hk⟩ ?_ ?_
  · intro hm
    rcases List.mem_cons.mp hm with e | hm
    · exact absurd F.ns.lt (e ▸ Nat.lt_irrefl _)
    · exact hlL (List.mem_singleton.mp hm).symm
  · intro b hb
    rw [List.mem_singleton.mp hb]
    exact next_is_new F
  · intro p hp _; cases hp
  · intro p hp _; cases hp
  · rintro i v m₁ nx h tk own hi hv _ _ ⟨rfl, h1⟩ F₁ N₁
    have F₂ : Fr h₀ env.locals h (kstB m₁ ((x, v) :: ps)) := by
      have e : kstB m₁ ((x, v) :: ps) = fun y => if y = x then some v else m₁ y := by
        show (fun z => if z = x then some v else kstB m₁ ps z) = _
        rw [kstB_same h1]
      rw [e]; exact F₁
    refine wpAny_mono (turn i v m₁ h tk own hv F₂ (fun p hp => N₁ p hp)) (fun f s₂ p => ?_) fun _ _ y => y
    have fin : FEnd h₀ env.locals { s with heap := h, toks := tk } (fun _ : Unit => []) (fun _ => ps) (fun _ => True) own [] s₂ → InvEndN h₀ env.locals (fun m nx => nx = [] ∧ ∀ p ∈ ps, m p.1 = some p.2) own [] { s with heap := h, toks := tk } s₂ := by
      rintro ⟨c', h', tk', m', news', e, F', N', hn', ha, hk', _⟩
      exact ⟨h', tk', m', news', [], e, F', N', fun p hp => (by cases hp), fun p hp => hn' p hp, rfl, rfl, hk'⟩
    cases f with
    | ret v => exact p
    | brk => exact p
    | next => exact fin p
    | cont => exact fin p
  · rintro m₁ nx h tk ⟨rfl, h1⟩ F₁ N₁
    exact done m₁ h tk (by rw [kstB_same h1]; exact F₁) N₁
end

example : True := by
  w_top off
  exact True.intro
noncomputable def pc (n : Nat) : Nat := if h : n = 0 then 0 else n % 2 + pc (n / 2)
termination_by n
decreasing_by omega

theorem bitAnd_nat (a b : Nat) : Builtin.bitAnd (a : Int) (b : Int) = ((a &&& b : Nat) : Int) := by
  unfold Builtin.bitAnd
  simp

theorem pc_zero : pc 0 = 0 := by unfold pc; simp
theorem pc_pos {n : Nat} (h : n ≠ 0) : pc n = n % 2 + pc (n / 2) := by
  rw [pc]; simp [h]
theorem and_pred_lt {n : Nat} (h : n ≠ 0) : n &&& (n - 1) < n := by
  have := @Nat.and_le_right n (n - 1)
  omega
theorem pc_clear (n : Nat) (h : n ≠ 0) : pc (n &&& (n - 1)) + 1 = pc n := by
  induction n using Nat.strongRecOn with
  | ind n ih =>
    rcases Nat.mod_two_eq_zero_or_one n with e | e
    · have hk : n / 2 ≠ 0 := by omega
      have h1 : (n &&& (n - 1)) / 2 = n / 2 &&& (n / 2 - 1) := by
        rw [Nat.and_div_two]; congr 1; omega
      have h2 : (n &&& (n - 1)) % 2 = 0 := by
        have := @Nat.and_mod_two_eq_one n (n - 1)
        omega
      have h3 := ih (n / 2) (by omega) hk
      rw [pc_pos h, e]
      by_cases hz : n &&& (n - 1) = 0
      · rw [hz] at h1 ⊢
        rw [pc_zero, ← h3, ← h1, pc_zero]
      · rw [pc_pos hz, h2, h1]; omega
    · have h1 : (n &&& (n - 1)) / 2 = n / 2 := by
        rw [Nat.and_div_two]
        have : (n - 1) / 2 = n / 2 := by omega
        rw [this, Nat.and_self]
      have h2 : (n &&& (n - 1)) % 2 = 0 := by
        have := @Nat.and_mod_two_eq_one n (n - 1)
        omega
      rw [pc_pos h, e]
      by_cases hz : n &&& (n - 1) = 0
      · rw [hz] at h1 ⊢
        rw [pc_zero, ← h1, pc_zero]
      · rw [pc_pos hz, h2, h1]; omega

set_option maxHeartbeats 4000000 in
theorem cl_count_bits {w : World} {mean : ExcName → Option Value} {mg mb : Str → Option Value} (n : Nat) (t : Tok) : Cl w mean mg mb 21 1 [.int (n : Int) t] PTrue (RInt (pc n : Int)) := by
  ( k_dflt (refine' Cl.enter (binds := [("b", .int (n : Int) t)]) ?k6u37 ?k7u37 ?k9u37 ?kBu37 ?kDu37 ?c2u37 ?c3u37 ?c4u37 ?c5u37 ?khu37; (case k6u37 => k_is); (case k7u37 => k_is); (case k9u37 => exact rfl); (case kBu37 => exact locs rfl); (case kDu37 => decide); (case c2u37 => exact rfl); (case c3u37 => exact rfl); (case c4u37 => exact rfl); (case c5u37 => decide); k_whole))
  intro outer R A₀ base g L h₁ tk₁ gs dr os Q E B F' N' X T hpre hd hu hP ret
  try dsimp only at hpre F'
  walk_at "M go"
  refine go_on ?_
  refine' m_while (σ := Int × Int × Tok × Tok) (fun _ => []) (fun c => [("b", .int c.1 c.2.2.1), ("count", .int c.2.1 c.2.2.2)]) (fun c => ∃ k : Nat, c.1 = k ∧ c.2.1 + pc k = pc n) (fun c => c.1.toNat) (n, 0, t, ?_) (by assumption) (by assumption) ?hk ?hp ?turn
  case hk => walk_at "M all"
  case hp => exact ⟨n, rfl, by simp⟩
  case turn =>
    rintro ⟨b1, c1, t1, t2⟩ u h1 tk1 ⟨k, hb1, hc1⟩ F1 N1
    dsimp only at hb1 hc1 F1 N1
    subst hb1
    walk_at "M go"
    · refine go_on ?_
      have hk0 : k ≠ 0 := by omega
      (rename News _ _ _ _ => nE)
      refine' w_end (?_, ?_, ?_, ?_) (by assumption) nE ?hn ?hk ?hp ?hm
      case hk => walk_at "M all"
      case hn => intro _ h; cases h
      all_goals (have e : Builtin.bitAnd (k : Int) ((k : Int) - 1) = ((k &&& (k - 1) : Nat) : Int) := by rw [← bitAnd_nat]; congr 1; omega)
      case hp => exact ⟨k &&& (k - 1), e, by have := pc_clear k hk0; show c1 + 1 + _ = _; omega⟩
      case hm =>
        have := and_pred_lt hk0
        show (Builtin.bitAnd (k : Int) ((k : Int) - 1)).toNat < (k : Int).toNat
        rw [e]; omega
    · have hk0 : k = 0 := by omega
      subst hk0
      rw [pc_zero] at hc1
      exact ret _ _ _ (by assumption) (by assumption) (rint_of (by omega))

set_option maxHeartbeats 4000000 in
theorem cl_more {w : World} {mean : ExcName → Option Value} {mg mb : Str → Option Value} (n : Nat) (t : Tok) : Cl w mean mg mb 28 1 [.int (n : Int) t] PTrue (RBool (decide (n &&& (n - 1) ≠ 0))) := by
  ( k_dflt (refine' Cl.enter (binds := [("b", .int (n : Int) t)]) ?k6u38 ?k7u38 ?k9u38 ?kBu38 ?kDu38 ?c2u38 ?c3u38 ?c4u38 ?c5u38 ?khu38; (case k6u38 => k_is); (case k7u38 => k_is); (case k9u38 => exact rfl); (case kBu38 => exact locs rfl); (case kDu38 => decide); (case c2u38 => exact rfl); (case c3u38 => exact rfl); (case c4u38 => exact rfl); (case c5u38 => decide); k_whole))
  intro outer R A₀ base g L h₁ tk₁ gs dr os Q E B F' N' X T hpre hd hu hP ret
  try dsimp only at hpre F'
  walk_at "M go"
  refine ret _ _ _ (by assumption) (by assumption) (rbool_of ?_)
  have e : Builtin.bitAnd (n : Int) ((n : Int) - 1) = ((n &&& (n - 1) : Nat) : Int) := by
    by_cases h : n = 0
    · subst h; decide
    · rw [← bitAnd_nat]; congr 1; omega
  rw [e]
  by_cases h : n &&& (n - 1) = 0
  · rw [h]; rfl
  · have : ((n &&& (n - 1) : Nat) : Int) ≠ 0 := by omega
    simp [h]

set_option maxHeartbeats 4000000 in
theorem cl_make_piece {w : World} {mean : ExcName → Option Value} {mg mb : Str → Option Value} (x y : Int) (t u : Tok) : Cl w mean mg mb 149 1 [.int x t, .int y u] PTrue (RInt (x * 8 + y)) := by
  ( k_dflt (refine' Cl.enter (binds := [("side", .int x t), ("kind", .int y u)]) ?k6u39 ?k7u39 ?k9u39 ?kBu39 ?kDu39 ?c2u39 ?c3u39 ?c4u39 ?c5u39 ?khu39; (case k6u39 => k_is); (case k7u39 => k_is); (case k9u39 => exact rfl); (case kBu39 => exact locs rfl); (case kDu39 => decide); (case c2u39 => exact rfl); (case c3u39 => exact rfl); (case c4u39 => exact rfl); (case c5u39 => decide); k_whole))
  intro outer R A₀ base g L h₁ tk₁ gs dr os Q E B F' N' X T hpre hd hu hP ret
  try dsimp only at hpre F'
  walk_at "M go"
  refine ret _ _ _ (by assumption) (by assumption) (rint_of ?_)
  rfl

set_option maxHeartbeats 4000000 in
theorem cl_side_of {w : World} {mean : ExcName → Option Value} {mg mb : Str → Option Value} (x : Int) (t : Tok) : Cl w mean mg mb 156 1 [.int x t] PTrue (RInt (x / 8)) := by
  ( k_dflt (refine' Cl.enter (binds := [("piece", .int x t)]) ?k6u40 ?k7u40 ?k9u40 ?kBu40 ?kDu40 ?c2u40 ?c3u40 ?c4u40 ?c5u40 ?khu40; (case k6u40 => k_is); (case k7u40 => k_is); (case k9u40 => exact rfl); (case kBu40 => exact locs rfl); (case kDu40 => decide); (case c2u40 => exact rfl); (case c3u40 => exact rfl); (case c4u40 => exact rfl); (case c5u40 => decide); k_whole))
  intro outer R A₀ base g L h₁ tk₁ gs dr os Q E B F' N' X T hpre hd hu hP ret
  try dsimp only at hpre F'
  walk_at "M go"
  refine ret _ _ _ (by assumption) (by assumption) (rint_of ?_)
  exact Int.fdiv_eq_ediv_of_nonneg _ (by decide)

set_option maxHeartbeats 4000000 in
theorem cl_kind_of {w : World} {mean : ExcName → Option Value} {mg mb : Str → Option Value} (x : Int) (t : Tok) : Cl w mean mg mb 163 1 [.int x t] PTrue (RInt (x % 8)) := by
  ( k_dflt (refine' Cl.enter (binds := [("piece", .int x t)]) ?k6u41 ?k7u41 ?k9u41 ?kBu41 ?kDu41 ?c2u41 ?c3u41 ?c4u41 ?c5u41 ?khu41; (case k6u41 => k_is); (case k7u41 => k_is); (case k9u41 => exact rfl); (case kBu41 => exact locs rfl); (case kDu41 => decide); (case c2u41 => exact rfl); (case c3u41 => exact rfl); (case c4u41 => exact rfl); (case c5u41 => decide); k_whole))
  intro outer R A₀ base g L h₁ tk₁ gs dr os Q E B F' N' X T hpre hd hu hP ret
  try dsimp only at hpre F'
  walk_at "M go"
  refine ret _ _ _ (by assumption) (by assumption) (rint_of ?_)
  exact bitAnd_m3 _

set_option maxHeartbeats 4000000 in
theorem cl_is_piece {w : World} {mean : ExcName → Option Value} {mg mb : Str → Option Value} (x : Int) (t : Tok) : Cl w mean mg mb 170 1 [.int x t] PTrue (RBool (decide (0 < x ∧ x < 15 ∧ x ≠ 7 ∧ x ≠ 8))) := by
  ( k_dflt (refine' Cl.enter (binds := [("number", .int x t)]) ?k6u42 ?k7u42 ?k9u42 ?kBu42 ?kDu42 ?c2u42 ?c3u42 ?c4u42 ?c5u42 ?khu42; (case k6u42 => k_is); (case k7u42 => k_is); (case k9u42 => exact rfl); (case kBu42 => exact locs rfl); (case kDu42 => decide); (case c2u42 => exact rfl); (case c3u42 => exact rfl); (case c4u42 => exact rfl); (case c5u42 => decide); k_whole))
  intro outer R A₀ base g L h₁ tk₁ gs dr os Q E B F' N' X T hpre hd hu hP ret
  try dsimp only at hpre F'
  walk_at "M go"
  all_goals refine ret _ _ _ (by assumption) (by assumption) (rbool_of ?_)
  all_goals (rw [Bool.eq_iff_iff]; simp only [bne_iff_ne, decide_eq_true_eq, ne_eq]; omega)

set_option maxHeartbeats 4000000 in
theorem cl_file_of {w : World} {mean : ExcName → Option Value} {mg mb : Str → Option Value} (x y : Int) (t u : Tok) (hx : 0 < x) : Cl w mean mg mb 233 1 [.int x t, .int y u] PTrue (RInt (y % x)) := by
  ( k_dflt (refine' Cl.enter (binds := [("files", .int x t), ("square", .int y u)]) ?k6u43 ?k7u43 ?k9u43 ?kBu43 ?kDu43 ?c2u43 ?c3u43 ?c4u43 ?c5u43 ?khu43; (case k6u43 => k_is); (case k7u43 => k_is); (case k9u43 => exact rfl); (case kBu43 => exact locs rfl); (case kDu43 => decide); (case c2u43 => exact rfl); (case c3u43 => exact rfl); (case c4u43 => exact rfl); (case c5u43 => decide); k_whole))
  intro outer R A₀ base g L h₁ tk₁ gs dr os Q E B F' N' X T hpre hd hu hP ret
  try dsimp only at hpre F'
  walk_at "M go"
  refine ret _ _ _ (by assumption) (by assumption) (rint_of ?_)
  exact Int.fmod_eq_emod_of_nonneg _ (by omega)

set_option maxHeartbeats 4000000 in
theorem cl_rank_of {w : World} {mean : ExcName → Option Value} {mg mb : Str → Option Value} (x y : Int) (t u : Tok) (hx : 0 < x) (hx2 : x ≤ 64) : Cl w mean mg mb 240 1 [.int x t, .int y u] PTrue (RInt (y / x)) := by
  ( k_dflt (refine' Cl.enter (binds := [("files", .int x t), ("square", .int y u)]) ?k6u44 ?k7u44 ?k9u44 ?kBu44 ?kDu44 ?c2u44 ?c3u44 ?c4u44 ?c5u44 ?khu44; (case k6u44 => k_is); (case k7u44 => k_is); (case k9u44 => exact rfl); (case kBu44 => exact locs rfl); (case kDu44 => decide); (case c2u44 => exact rfl); (case c3u44 => exact rfl); (case c4u44 => exact rfl); (case c5u44 => decide); k_whole))
  intro outer R A₀ base g L h₁ tk₁ gs dr os Q E B F' N' X T hpre hd hu hP ret
  try dsimp only at hpre F'
  walk_at "M go"
  refine ret _ _ _ (by assumption) (by assumption) (rint_of ?_)
  exact Int.fdiv_eq_ediv_of_nonneg _ (by omega)


theorem fdiv_lit (x : Int) (k : Nat) (y : Int) (h : 0 ≤ y) (e : (2 : Int) ^ k = y) : x.fdiv (2 ^ k) = x / y := by
  rw [e]; exact Int.fdiv_eq_ediv_of_nonneg _ h
theorem mask_6 (x : Int) : Builtin.bitAnd x 63 = x % 64 := kbt_mask x 6
theorem mask_2 (x : Int) : Builtin.bitAnd x 3 = x % 4 := kbt_mask x 2

set_option maxHeartbeats 4000000 in
theorem cl_move_from {w : World} {mean : ExcName → Option Value} {mg mb : Str → Option Value} (x : Int) (t : Tok) : Cl w mean mg mb 198 1 [.int x t] PTrue (RInt (x / 64 % 64)) := by
  ( k_dflt (refine' Cl.enter (binds := [("move", .int x t)]) ?k6u45 ?k7u45 ?k9u45 ?kBu45 ?kDu45 ?c2u45 ?c3u45 ?c4u45 ?c5u45 ?khu45; (case k6u45 => k_is); (case k7u45 => k_is); (case k9u45 => exact rfl); (case kBu45 => exact locs rfl); (case kDu45 => decide); (case c2u45 => exact rfl); (case c3u45 => exact rfl); (case c4u45 => exact rfl); (case c5u45 => decide); k_whole))
  intro outer R A₀ base g L h₁ tk₁ gs dr os Q E B F' N' X T hpre hd hu hP ret
  try dsimp only at hpre F'
  walk_at "M go"
  refine ret _ _ _ (by assumption) (by assumption) (rint_of ?_)
  rw [fdiv_lit x _ 64 (by decide) (by decide), mask_6]

set_option maxHeartbeats 4000000 in
theorem cl_move_to {w : World} {mean : ExcName → Option Value} {mg mb : Str → Option Value} (x : Int) (t : Tok) : Cl w mean mg mb 205 1 [.int x t] PTrue (RInt (x % 64)) := by
  ( k_dflt (refine' Cl.enter (binds := [("move", .int x t)]) ?k6u46 ?k7u46 ?k9u46 ?kBu46 ?kDu46 ?c2u46 ?c3u46 ?c4u46 ?c5u46 ?khu46; (case k6u46 => k_is); (case k7u46 => k_is); (case k9u46 => exact rfl); (case kBu46 => exact locs rfl); (case kDu46 => decide); (case c2u46 => exact rfl); (case c3u46 => exact rfl); (case c4u46 => exact rfl); (case c5u46 => decide); k_whole))
  intro outer R A₀ base g L h₁ tk₁ gs dr os Q E B F' N' X T hpre hd hu hP ret
  try dsimp only at hpre F'
  walk_at "M go"
  refine ret _ _ _ (by assumption) (by assumption) (rint_of ?_)
  exact mask_6 _

set_option maxHeartbeats 4000000 in
theorem cl_move_special {w : World} {mean : ExcName → Option Value} {mg mb : Str → Option Value} (x : Int) (t : Tok) : Cl w mean mg mb 212 1 [.int x t] PTrue (RInt (x / 16384 % 4)) := by
  ( k_dflt (refine' Cl.enter (binds := [("move", .int x t)]) ?k6u47 ?k7u47 ?k9u47 ?kBu47 ?kDu47 ?c2u47 ?c3u47 ?c4u47 ?c5u47 ?khu47; (case k6u47 => k_is); (case k7u47 => k_is); (case k9u47 => exact rfl); (case kBu47 => exact locs rfl); (case kDu47 => decide); (case c2u47 => exact rfl); (case c3u47 => exact rfl); (case c4u47 => exact rfl); (case c5u47 => decide); k_whole))
  intro outer R A₀ base g L h₁ tk₁ gs dr os Q E B F' N' X T hpre hd hu hP ret
  try dsimp only at hpre F'
  walk_at "M go"
  refine ret _ _ _ (by assumption) (by assumption) (rint_of ?_)
  rw [fdiv_lit x _ 16384 (by decide) (by decide), mask_2]

set_option maxHeartbeats 4000000 in
theorem cl_move_promo {w : World} {mean : ExcName → Option Value} {mg mb : Str → Option Value} (x : Int) (t : Tok) : Cl w mean mg mb 219 1 [.int x t] PTrue (RInt (if x / 16384 % 4 = 1 then x / 4096 % 4 + 2 else 0)) := by
  have e1 : Builtin.bitAnd (x.fdiv (2 ^ Int.toNat 14)) 3 = x / 16384 % 4 := by rw [fdiv_lit x _ 16384 (by decide) (by decide), mask_2]
  have e2 : Builtin.bitAnd (x.fdiv (2 ^ Int.toNat 12)) 3 = x / 4096 % 4 := by rw [fdiv_lit x _ 4096 (by decide) (by decide), mask_2]
  ( k_dflt (refine' Cl.enter (binds := [("move", .int x t)]) ?k6u48 ?k7u48 ?k9u48 ?kBu48 ?kDu48 ?c2u48 ?c3u48 ?c4u48 ?c5u48 ?khu48; (case k6u48 => k_is); (case k7u48 => k_is); (case k9u48 => exact rfl); (case kBu48 => exact locs rfl); (case kDu48 => decide); (case c2u48 => exact rfl); (case c3u48 => exact rfl); (case c4u48 => exact rfl); (case c5u48 => decide); k_whole))
  intro outer R A₀ base g L h₁ tk₁ gs dr os Q E B F' N' X T hpre hd hu hP ret
  try dsimp only at hpre F'
  walk_at "M go"
  all_goals refine ret _ _ _ (by assumption) (by assumption) (rint_of ?_)
  all_goals (rw [e1] at *; try rw [e2])
  · rw [if_neg (by assumption)]
  · rw [if_pos (by omega)]

theorem or_lit (x y : Int) (k : Nat) (hx : 0 ≤ x) (hxk : x < 2 ^ k) (hy : 0 ≤ y) : Builtin.bitOr x (y * 2 ^ k) = x + y * 2 ^ k := by
  have h1 : Builtin.bitAnd x (y * 2 ^ k) = 0 := by
    have hp : (0 : Int) ≤ y * 2 ^ k := Int.mul_nonneg hy (Int.le_of_lt (kbt_pos k))
    rw [bitAnd_pp hx hp]
    have : x.toNat &&& (y * 2 ^ k).toNat = 0 := by
      have e : (y * 2 ^ k).toNat = y.toNat <<< k := by
        rw [Nat.shiftLeft_eq]
        have h3 : ((2 ^ k : Nat) : Int) = 2 ^ k := kbt_cast k
        rw [← h3, Int.toNat_mul hy (by omega)]; rfl
      rw [e]
      apply Nat.eq_of_testBit_eq
      intro i
      rw [Nat.testBit_and, Nat.testBit_shiftLeft, Nat.zero_testBit]
      by_cases hi : k ≤ i
      · have : x.toNat < 2 ^ i := by
          have h2 : x.toNat < 2 ^ k := by
            have : ((2 ^ k : Nat) : Int) = 2 ^ k := kbt_cast k
            omega
          exact Nat.lt_of_lt_of_le h2 (Nat.pow_le_pow_right (by decide) hi)
        rw [Nat.testBit_lt_two_pow this]; rfl
      · simp [hi]
    rw [this]; rfl
  rw [bitOr_and, h1]; omega

theorem or_c (x y : Int) (k : Nat) (c : Int) (e : (2 : Int) ^ k = c) (hx : 0 ≤ x) (hxk : x < c) (hy : 0 ≤ y) : Builtin.bitOr x (y * 2 ^ k) = x + c * y := by
  rw [or_lit x y k hx (by omega) hy, e, Int.mul_comm]

set_option maxHeartbeats 4000000 in
theorem cl_pack {w : World} {mean : ExcName → Option Value} {mg mb : Str → Option Value} (x y z p : Int) (t u v q : Tok) (hx : 0 ≤ x ∧ x < 64) (hy : 0 ≤ y ∧ y < 64) (hz : 0 ≤ z ∧ z < 4) (hp : z = 1 → 0 ≤ p - 2 ∧ p - 2 < 4) : Cl w mean mg mb 191 1 [.int x t, .int y u, .int z v, .int p q] PTrue (RInt (y + 64 * x + 4096 * (if z = 1 then p - 2 else 0) + 16384 * z)) := by
  obtain ⟨hx0, hx1⟩ := hx
  obtain ⟨hz0, hz1⟩ := hz
  ( k_dflt (refine' Cl.enter (binds := [("origin", .int x t), ("to", .int y u), ("special", .int z v), ("promo", .int p q)]) ?k6u49 ?k7u49 ?k9u49 ?kBu49 ?kDu49 ?c2u49 ?c3u49 ?c4u49 ?c5u49 ?khu49; (case k6u49 => k_is); (case k7u49 => k_is); (case k9u49 => exact rfl); (case kBu49 => exact locs rfl); (case kDu49 => decide); (case c2u49 => exact rfl); (case c3u49 => exact rfl); (case c4u49 => exact rfl); (case c5u49 => decide); k_whole))
  intro outer R A₀ base g L h₁ tk₁ gs dr os Q E B F' N' X T hpre hd hu hP ret
  try dsimp only at hpre F'
  walk_at "M go"
  all_goals refine ret _ _ _ (by assumption) (by assumption) (rint_of ?_)
  · have h2 := hp (by omega)
    rw [or_c y x _ 64 (by decide) (by omega) (by omega) hx0, or_c _ (p - 2) _ 4096 (by decide) (by omega) (by omega) (by omega), or_c _ z _ 16384 (by decide) (by omega) (by omega) (by omega), if_pos (by omega)]
  · rw [or_c y x _ 64 (by decide) (by omega) (by omega) hx0, or_c _ 0 _ 4096 (by decide) (by omega) (by omega) (by omega), or_c _ z _ 16384 (by decide) (by omega) (by omega) (by omega), if_neg (by omega)]

example : True := by
  w_top off
  exact True.intro
example : True := by
  k_with "call ref" => (k_here; first | (k_dflt (refine' Cl.useI (cl_move_from _ _) ?k1u53 ?k2u53 ?k3u53 ?k4u53 ?k5u53 ?kAu53 ?kFu53 ?kEu53 ?kKu53 ?kpu53 ?kdu53 ?kuu53 ?_; ( (case k1u53 => first | k_asm | fail "the frames below"); (case k2u53 => first | k_asm | fail "the frame"); (case k3u53 => first | k_asm | fail "the written part"); (case k4u53 => first | k_asm | fail "the ledger"); (case k5u53 => first | k_asm | fail "the top's facts"); (case kAu53 => first | exact rfl | fail "the raised"); (case kFu53 => first | exact rfl | fail "the frames"); (case kEu53 => first | exact rfl | fail "the caller's frame"); (case kKu53 => first | exact rfl | assumption | fail "the caller is no def"); (case kpu53 => first | exact trivial | is_list | fail "the premise"); (case kdu53 => first | ktr_room | fail "the frames' room"); (case kuu53 => first | ktr_units | fail "the C units"))); intro t9x h9x tk9x F9x N9x; (try dsimp only)) | (k_dflt (refine' Cl.useI (cl_move_to _ _) ?k1u54 ?k2u54 ?k3u54 ?k4u54 ?k5u54 ?kAu54 ?kFu54 ?kEu54 ?kKu54 ?kpu54 ?kdu54 ?kuu54 ?_; ( (case k1u54 => first | k_asm | fail "the frames below"); (case k2u54 => first | k_asm | fail "the frame"); (case k3u54 => first | k_asm | fail "the written part"); (case k4u54 => first | k_asm | fail "the ledger"); (case k5u54 => first | k_asm | fail "the top's facts"); (case kAu54 => first | exact rfl | fail "the raised"); (case kFu54 => first | exact rfl | fail "the frames"); (case kEu54 => first | exact rfl | fail "the caller's frame"); (case kKu54 => first | exact rfl | assumption | fail "the caller is no def"); (case kpu54 => first | exact trivial | is_list | fail "the premise"); (case kdu54 => first | ktr_room | fail "the frames' room"); (case kuu54 => first | ktr_units | fail "the C units"))); intro t9x h9x tk9x F9x N9x; (try dsimp only)) | (k_dflt (refine' Cl.useI (cl_move_special _ _) ?k1u55 ?k2u55 ?k3u55 ?k4u55 ?k5u55 ?kAu55 ?kFu55 ?kEu55 ?kKu55 ?kpu55 ?kdu55 ?kuu55 ?_; ( (case k1u55 => first | k_asm | fail "the frames below"); (case k2u55 => first | k_asm | fail "the frame"); (case k3u55 => first | k_asm | fail "the written part"); (case k4u55 => first | k_asm | fail "the ledger"); (case k5u55 => first | k_asm | fail "the top's facts"); (case kAu55 => first | exact rfl | fail "the raised"); (case kFu55 => first | exact rfl | fail "the frames"); (case kEu55 => first | exact rfl | fail "the caller's frame"); (case kKu55 => first | exact rfl | assumption | fail "the caller is no def"); (case kpu55 => first | exact trivial | is_list | fail "the premise"); (case kdu55 => first | ktr_room | fail "the frames' room"); (case kuu55 => first | ktr_units | fail "the C units"))); intro t9x h9x tk9x F9x N9x; (try dsimp only)) | (k_dflt (refine' Cl.useI (cl_move_promo _ _) ?k1u56 ?k2u56 ?k3u56 ?k4u56 ?k5u56 ?kAu56 ?kFu56 ?kEu56 ?kKu56 ?kpu56 ?kdu56 ?kuu56 ?_; ( (case k1u56 => first | k_asm | fail "the frames below"); (case k2u56 => first | k_asm | fail "the frame"); (case k3u56 => first | k_asm | fail "the written part"); (case k4u56 => first | k_asm | fail "the ledger"); (case k5u56 => first | k_asm | fail "the top's facts"); (case kAu56 => first | exact rfl | fail "the raised"); (case kFu56 => first | exact rfl | fail "the frames"); (case kEu56 => first | exact rfl | fail "the caller's frame"); (case kKu56 => first | exact rfl | assumption | fail "the caller is no def"); (case kpu56 => first | exact trivial | is_list | fail "the premise"); (case kdu56 => first | ktr_room | fail "the frames' room"); (case kuu56 => first | ktr_units | fail "the C units"))); intro t9x h9x tk9x F9x N9x; (try dsimp only)))
  exact True.intro

theorem bitq (x : Int) : Builtin.bitAnd (x.fdiv (2 ^ Int.toNat 12)) 3 = x / 4096 % 4 := by rw [fdiv_lit x _ 4096 (by decide) (by decide), mask_2]
noncomputable def isMove (x : Int) : Bool := decide (0 < x ∧ x < 65536 ∧ x / 64 % 64 ≠ x % 64 ∧ (x / 16384 % 4 = 1 ∨ x / 4096 % 4 = 0))

set_option maxHeartbeats 4000000 in
theorem cl_is_move {w : World} {mean : ExcName → Option Value} {mg mb : Str → Option Value} (x : Int) (t : Tok) : Cl w mean mg mb 226 2 [.int x t] PTrue (RBool (isMove x)) := by
  ( k_dflt (refine' Cl.enter (binds := [("move", .int x t)]) ?k6u50 ?k7u50 ?k9u50 ?kBu50 ?kDu50 ?c2u50 ?c3u50 ?c4u50 ?c5u50 ?khu50; (case k6u50 => k_is); (case k7u50 => k_is); (case k9u50 => exact rfl); (case kBu50 => exact locs rfl); (case kDu50 => decide); (case c2u50 => exact rfl); (case c3u50 => exact rfl); (case c4u50 => exact rfl); (case c5u50 => decide); k_whole))
  intro outer R A₀ base g L h₁ tk₁ gs dr os Q E B F' N' X T hpre hd hu hP ret
  try dsimp only at hpre F'
  walk_at "M go"
  all_goals refine ret _ _ _ (by assumption) (by assumption) (rbool_of ?_)
  all_goals (rw [Bool.eq_iff_iff]; simp only [isMove, bitq, beq_iff_eq, decide_eq_true_eq, Bool.false_eq_true, false_iff]; omega)

set_option maxHeartbeats 4000000 in
theorem cl_parts {w : World} {mean : ExcName → Option Value} {mg mb : Str → Option Value} (x : Int) (t : Tok) : Cl w mean mg mb 318 2 [.int x t] PTrue (RInts [x / 64 % 64, x % 64, x / 16384 % 4, if x / 16384 % 4 = 1 then x / 4096 % 4 + 2 else 0]) := by
  ( k_dflt (refine' Cl.enter (binds := [("move", .int x t)]) ?k6u51 ?k7u51 ?k9u51 ?kBu51 ?kDu51 ?c2u51 ?c3u51 ?c4u51 ?c5u51 ?khu51; (case k6u51 => k_is); (case k7u51 => k_is); (case k9u51 => exact rfl); (case kBu51 => exact locs rfl); (case kDu51 => decide); (case c2u51 => exact rfl); (case c3u51 => exact rfl); (case c4u51 => exact rfl); (case c5u51 => decide); k_whole))
  intro outer R A₀ base g L h₁ tk₁ gs dr os Q E B F' N' X T hpre hd hu hP ret
  try dsimp only at hpre F'
  walk_at "M go"
  refine ret _ _ _ (by assumption) (by assumption) (rints_of (by assumption) (by k_mem) ?_)
  l_ints
example : True := by
  k_with "call ref" => (k_here; refine stop_here ?_)
  exact True.intro

example : True := by
  w_top off
  exact True.intro
/-! plain laws over Nat: no program in sight -/
noncomputable def dep (n m : Nat) : Nat := if m = 0 then 0 else if m % 2 = 0 then 2 * dep n (m / 2) else n % 2 + 2 * dep (n / 2) (m / 2)
termination_by m
decreasing_by all_goals omega
noncomputable def ext (b m : Nat) : Nat := if m = 0 then 0 else if m % 2 = 0 then ext (b / 2) (m / 2) else b % 2 + 2 * ext (b / 2) (m / 2)
termination_by m
decreasing_by all_goals omega
noncomputable def sqs (b : Nat) (k : Int) : List Int := if b = 0 then [] else if b % 2 = 1 then k :: sqs (b / 2) (k + 1) else sqs (b / 2) (k + 1)
termination_by b
decreasing_by all_goals omega

theorem dep_zero (n : Nat) : dep n 0 = 0 := by rw [dep]; simp
theorem ext_zero (n : Nat) : ext n 0 = 0 := by rw [ext]; simp
theorem sqs_zero (k : Int) : sqs 0 k = [] := by rw [sqs]; simp
theorem dep_even (n m : Nat) : dep n (2 * m) = 2 * dep n m := by
  by_cases h : m = 0
  · subst h; simp [dep_zero]
  · rw [dep, if_neg (by omega), if_pos (by omega)]; congr 2; omega
theorem dep_odd (n m : Nat) : dep n (2 * m + 1) = n % 2 + 2 * dep (n / 2) m := by
  rw [dep, if_neg (by omega), if_neg (by omega)]
  have : (2 * m + 1) / 2 = m := by omega
  rw [this]
theorem ext_even (n m : Nat) : ext n (2 * m) = ext (n / 2) m := by
  by_cases h : m = 0
  · subst h; simp [ext_zero]
  · rw [ext, if_neg (by omega), if_pos (by omega)]; congr 1; omega
theorem ext_odd (n m : Nat) : ext n (2 * m + 1) = n % 2 + 2 * ext (n / 2) m := by
  rw [ext, if_neg (by omega), if_neg (by omega)]
  have : (2 * m + 1) / 2 = m := by omega
  rw [this]
theorem sqs_even (b : Nat) (k : Int) : sqs (2 * b) k = sqs b (k + 1) := by
  by_cases h : b = 0
  · subst h; simp [sqs_zero]
  · rw [sqs, if_neg (by omega), if_neg (by omega)]; congr 1; omega
theorem sqs_odd (b : Nat) (k : Int) : sqs (2 * b + 1) k = k :: sqs b (k + 1) := by
  rw [sqs, if_neg (by omega), if_pos (by omega)]
  have : (2 * b + 1) / 2 = b := by omega
  rw [this]
theorem low_split (m : Nat) (h : m ≠ 0) : ∃ k a, m = 2 ^ k * (2 * a + 1) := by
  induction m using Nat.strongRecOn with
  | ind m ih =>
    rcases Nat.mod_two_eq_zero_or_one m with e | e
    · obtain ⟨k, a, hk⟩ := ih (m / 2) (by omega) (by omega)
      refine ⟨k + 1, a, ?_⟩
      rw [Nat.pow_succ, Nat.mul_comm (2 ^ k) 2, Nat.mul_assoc, ← hk]; omega
    · exact ⟨0, m / 2, by omega⟩
theorem dep_low (n k a : Nat) : dep n (2 ^ k * (2 * a + 1)) = n % 2 * 2 ^ k + dep (n / 2) (2 ^ k * (2 * a)) := by
  induction k with
  | zero => simp only [Nat.pow_zero, Nat.one_mul, Nat.mul_one]; rw [dep_odd, dep_even]
  | succ k ih =>
    have e : ∀ x, 2 ^ (k + 1) * x = 2 * (2 ^ k * x) := fun x => by rw [Nat.pow_succ, Nat.mul_comm (2 ^ k) 2, Nat.mul_assoc]
    rw [e, e, dep_even, dep_even, ih, Nat.pow_succ, Nat.mul_add, Nat.mul_left_comm, Nat.mul_comm 2 (2 ^ k)]
theorem ext_low (b k a : Nat) : ext b (2 ^ k * (2 * a + 1)) = b / 2 ^ k % 2 + 2 * ext b (2 ^ k * (2 * a)) := by
  induction k generalizing b with
  | zero => simp only [Nat.pow_zero, Nat.one_mul, Nat.div_one]; rw [ext_odd, ext_even]
  | succ k ih =>
    have e : ∀ x, 2 ^ (k + 1) * x = 2 * (2 ^ k * x) := fun x => by rw [Nat.pow_succ, Nat.mul_comm (2 ^ k) 2, Nat.mul_assoc]
    rw [e, e, ext_even, ext_even, ih, Nat.div_div_eq_div_mul, Nat.pow_succ, Nat.mul_comm 2 (2 ^ k)]
theorem sqs_low (k a : Nat) (s : Int) : sqs (2 ^ k * (2 * a + 1)) s = (s + k) :: sqs a (s + k + 1) := by
  induction k generalizing s with
  | zero => simp only [Nat.pow_zero, Nat.one_mul]; rw [sqs_odd]; simp
  | succ k ih =>
    have e : ∀ x, 2 ^ (k + 1) * x = 2 * (2 ^ k * x) := fun x => by rw [Nat.pow_succ, Nat.mul_comm (2 ^ k) 2, Nat.mul_assoc]
    rw [e, sqs_even, ih]
    have : s + 1 + (k : Int) = s + ((k + 1 : Nat) : Int) := by omega
    rw [this]
theorem ccast (k a : Nat) : ((2 ^ k * a : Nat) : Int) = 2 ^ k * (a : Int) := by rw [Int.natCast_mul, kbt_cast]
theorem iand_low (k a : Nat) : Builtin.bitAnd ((2 ^ k * (2 * a + 1) : Nat) : Int) (-((2 ^ k * (2 * a + 1) : Nat) : Int)) = 2 ^ k := by
  rw [ccast]
  have : ((2 * a + 1 : Nat) : Int) = 2 * (a : Int) + 1 := by omega
  rw [this, kbt_low]
theorem ibit_low (b k : Nat) : Builtin.bitAnd (b : Int) (2 ^ k) = ((b / 2 ^ k % 2 : Nat) : Int) * 2 ^ k := by
  rw [kbt_bit, ← kbt_cast]; rfl
theorem ixor_low (k a : Nat) : Builtin.bitXor ((2 ^ k * (2 * a + 1) : Nat) : Int) (2 ^ k) = ((2 ^ k * (2 * a) : Nat) : Int) := by
  have h : 2 ^ k * (2 * a + 1) / 2 ^ k % 2 = 1 := by
    rw [Nat.mul_div_cancel_left _ (Nat.two_pow_pos k)]; omega
  rw [bitXor_and, ibit_low, h, ← kbt_cast]
  have : 2 ^ k * (2 * a + 1) = 2 ^ k * (2 * a) + 2 ^ k := by rw [Nat.mul_add, Nat.mul_one]
  rw [this]
  omega
theorem log2_step (b : Nat) (h : 2 ≤ b) : b.log2 = (b / 2).log2 + 1 := by rw [Nat.log2_def, if_pos h]
theorem sqs_16 (b : Nat) (s : Int) (h : b % 16 = 0) : sqs b s = sqs (b / 16) (s + 4) := by
  have e : b = 2 * (2 * (2 * (2 * (b / 16)))) := by omega
  rw [e, sqs_even, sqs_even, sqs_even, sqs_even]
  congr 1 <;> omega
theorem sqs_last (b : Nat) (h : b ≠ 0) (s : Int) : (sqs b s).getLast? = some (s + (b.log2 : Int)) := by
  induction b using Nat.strongRecOn generalizing s with
  | ind b ih =>
    by_cases h1 : b = 1
    · subst h1
      have : sqs 1 s = [s] := by rw [show (1 : Nat) = 2 * 0 + 1 from rfl, sqs_odd, sqs_zero]
      have h2 : Nat.log2 1 = 0 := by decide
      rw [this, h2]; simp
    · have hl : b.log2 = (b / 2).log2 + 1 := log2_step b (by omega)
      have hi := ih (b / 2) (by omega) (by omega) (s + 1)
      rcases Nat.mod_two_eq_zero_or_one b with e | e
      · have e2 : b = 2 * (b / 2) := by omega
        rw [e2, sqs_even, hi, ← e2, hl]; congr 1; omega
      · have e2 : b = 2 * (b / 2) + 1 := by omega
        rw [e2, sqs_odd, ← e2, hl, List.getLast?_cons, hi]; simp; omega
theorem pc_sqs (b : Nat) (s : Int) : pc b = (sqs b s).length := by
  induction b using Nat.strongRecOn generalizing s with
  | ind b ih =>
    by_cases h : b = 0
    · subst h; rw [pc_zero, sqs_zero]; rfl
    · rw [pc_pos h, ih (b / 2) (by omega) (s + 1)]
      conv => rhs; rw [sqs, if_neg h]
      split
      · simp; omega
      · have : b % 2 = 0 := by omega
        rw [this]; simp

example : True := by
  w_top off
  exact True.intro
theorem log2_shift (b w : Nat) (h : b / 2 ^ w ≠ 0) : (b / 2 ^ w).log2 + w = b.log2 := by
  have hb : b ≠ 0 := by rintro rfl; simp at h
  have h1 := (Nat.log2_eq_iff h).mp rfl
  symm
  rw [Nat.log2_eq_iff hb]
  have hp := Nat.two_pow_pos w
  constructor
  · rw [Nat.pow_add]
    exact Nat.le_trans (Nat.mul_le_mul_right _ h1.1) (Nat.div_mul_le_self _ _)
  · have : (b / 2 ^ w).log2 + w + 1 = ((b / 2 ^ w).log2 + 1) + w := by omega
    rw [this, Nat.pow_add]
    exact (Nat.div_lt_iff_lt_mul hp).mp h1.2
theorem shr_nat (b : Nat) (w : Nat) : (b : Int).fdiv (2 ^ w) = ((b / 2 ^ w : Nat) : Int) := by
  rw [Int.fdiv_eq_ediv_of_nonneg _ (Int.le_of_lt (kbt_pos w)), ← kbt_cast]; rfl

noncomputable def highI (n : Nat) : Int := if n = 0 then -1 else (n.log2 : Int)

set_option maxHeartbeats 4000000 in
theorem cl_highest {w : World} {mean : ExcName → Option Value} {mg mb : Str → Option Value} (x : Int) (n : Nat) (e : x = n) (hn : n < 2 ^ 64) (t : Tok) : Cl w mean mg mb 35 1 [.int x t] PTrue (RInt (highI n)) := by
  subst e
  ( k_dflt (refine' Cl.enter (binds := [("b", .int (n : Int) t)]) ?k6u58 ?k7u58 ?k9u58 ?kBu58 ?kDu58 ?c2u58 ?c3u58 ?c4u58 ?c5u58 ?khu58; (case k6u58 => k_is); (case k7u58 => k_is); (case k9u58 => exact rfl); (case kBu58 => exact locs rfl); (case kDu58 => decide); (case c2u58 => exact rfl); (case c3u58 => exact rfl); (case c4u58 => exact rfl); (case c5u58 => decide); k_whole))
  intro outer R A₀ base g L h₁ tk₁ gs dr os Q E B F' N' X T hpre hd hu hP ret
  try dsimp only at hpre F'
  walk_at "M go"
  · refine ret _ _ _ (by assumption) (by assumption) (rint_of ?_)
    have : n = 0 := by omega
    subst this; rfl
  (refine go_on ?_; refine' m_while (fun _ => []) (fun (c : Int × Tok) => [("b", .int (n : Int) t), ("width", .int c.1 c.2)]) (fun c => 0 < c.1 ∧ c.1 ≤ 128 ∧ ∃ j : Nat, c.1 = (2 ^ j : Nat)) (fun c => (128 - c.1).toNat) (1, _) (by assumption) (by assumption) ?hku59 ?_ ?_; (case hku59 => walk_at "M all"))
  · exact ⟨show (0 : Int) < 1 by decide, show (1 : Int) ≤ 128 by decide, 0, rfl⟩
  rintro ⟨wd, t1⟩ u h1 tk1 ⟨hw0, hw1, j, hj⟩ F1 N1
  dsimp only at hw0 hw1 hj F1 N1
  have hwt : wd.toNat = 2 ^ j := by omega
  walk_at "M go"
  · (refine go_on ?_; (rename News _ _ _ _ => nEx); (try simp only [List.push_toArray] at nEx); refine' w_end (wd * 2, _) (by assumption) nEx ?hnu60 ?hku60 ?_ ?_; (case hku60 => walk_at "M all"); (case hnu60 => first | (intro _ h; cases h; done) | exact fun p hp => hp))
    all_goals
      rename (n : Int).fdiv _ ≠ 0 => hq
      rw [hwt, shr_nat] at hq
      have hlt : wd < 64 := by
        rcases Nat.lt_or_ge (2 ^ j) 64 with h | h
        · omega
        · exfalso; apply hq
          have : n / 2 ^ (2 ^ j) = 0 := Nat.div_eq_of_lt (Nat.lt_of_lt_of_le hn (Nat.pow_le_pow_right (by decide) h))
          rw [this]; rfl
    · exact ⟨show 0 < wd * 2 by omega, show wd * 2 ≤ 128 by omega, j + 1, by show wd * 2 = _; rw [Nat.pow_succ]; omega⟩
    · show (128 - wd * 2).toNat < (128 - wd).toNat
      omega
  rename (n : Int).fdiv _ = 0 => hq
  rename (n : Int) ≠ 0 => hn0
  rw [hwt, shr_nat] at hq
  (refine go_on ?_; refine' m_while (fun _ => []) (fun (c : Int × Int × Int × Tok × Tok × Tok) => [("b", .int c.1 c.2.2.2.1), ("width", .int c.2.1 c.2.2.2.2.1), ("square", .int c.2.2.1 c.2.2.2.2.2)]) (fun c => 0 < c.2.1 ∧ c.2.1 ≤ 128 ∧ ∃ B i : Nat, c.1 = B ∧ c.2.1 = (2 ^ i : Nat) ∧ B ≠ 0 ∧ B < 2 ^ 2 ^ i ∧ c.2.2.1 + (B.log2 : Int) = n.log2) (fun c => c.2.1.toNat) (n, wd, 0, t, t1, _) (by assumption) (by assumption) ?hku61 ?_ ?_; (case hku61 => walk_at "M all"))
  · refine ⟨hw0, hw1, n, j, rfl, hj, by omega, ?_, by simp⟩
    have : n / 2 ^ 2 ^ j = 0 := by omega
    rcases Nat.div_eq_zero_iff.mp this with h | h
    · have := Nat.two_pow_pos (2 ^ j); omega
    · exact h
  rintro ⟨b2, wd2, sq2, t2, t3, t4⟩ u2 h2 tk2 ⟨hv0, hv1, B2, i2, hb2, hi2, hB0, hB1, hlog⟩ F2 N2
  dsimp only at hv0 hv1 hb2 hi2 hB0 hB1 hlog F2 N2
  subst hb2
  have hfd : wd2.fdiv 2 = wd2 / 2 := Int.fdiv_eq_ediv_of_nonneg _ (by decide)
  have hhalf : 1 < wd2 → ∃ i : Nat, i2 = i + 1 ∧ wd2.fdiv 2 = (2 ^ i : Nat) ∧ (wd2.fdiv 2).toNat = 2 ^ i := by
    intro h1
    cases i2 with
    | zero => exfalso; simp at hi2; omega
    | succ i => rw [Nat.pow_succ] at hi2; exact ⟨i, rfl, by omega, by omega⟩
  walk_at "M go"
  · rename 1 < wd2 => h1w
    rename (B2 : Int).fdiv _ ≠ 0 => hq2
    obtain ⟨i, hi, hw, hwt2⟩ := hhalf h1w
    rw [hwt2, shr_nat] at hq2
    have hlg := log2_shift B2 (2 ^ i) (by omega)
    (refine go_on ?_; (rename News _ _ _ _ => nEx); (try simp only [List.push_toArray] at nEx); refine' w_end ((B2 : Int).fdiv (2 ^ (wd2.fdiv 2).toNat), wd2.fdiv 2, sq2 + wd2.fdiv 2, _, _, _) (by assumption) nEx ?hnu62 ?hku62 ?_ ?_; (case hku62 => walk_at "M all"); (case hnu62 => first | (intro _ h; cases h; done) | exact fun p hp => hp))
    · refine ⟨show 0 < wd2.fdiv 2 by omega, show wd2.fdiv 2 ≤ 128 by omega, B2 / 2 ^ 2 ^ i, i, ?_, hw, by omega, ?_, ?_⟩
      · show (B2 : Int).fdiv (2 ^ (wd2.fdiv 2).toNat) = _
        rw [hwt2, shr_nat]
      · rw [hi, Nat.pow_succ, Nat.mul_comm, Nat.two_mul, Nat.pow_add] at hB1
        exact Nat.div_lt_of_lt_mul hB1
      · show sq2 + wd2.fdiv 2 + _ = _
        omega
    · show (wd2.fdiv 2).toNat < wd2.toNat
      omega
  · rename 1 < wd2 => h1w
    rename (B2 : Int).fdiv _ = 0 => hq2
    obtain ⟨i, hi, hw, hwt2⟩ := hhalf h1w
    rw [hwt2, shr_nat] at hq2
    (refine go_on ?_; (rename News _ _ _ _ => nEx); (try simp only [List.push_toArray] at nEx); refine' w_end (B2, wd2.fdiv 2, sq2, _, _, _) (by assumption) nEx ?hnu63 ?hku63 ?_ ?_; (case hku63 => walk_at "M all"); (case hnu63 => first | (intro _ h; cases h; done) | exact fun p hp => hp))
    · refine ⟨show 0 < wd2.fdiv 2 by omega, show wd2.fdiv 2 ≤ 128 by omega, B2, i, rfl, hw, hB0, ?_, hlog⟩
      have hz : B2 / 2 ^ 2 ^ i = 0 := by omega
      rcases Nat.div_eq_zero_iff.mp hz with h | h
      · have := Nat.two_pow_pos (2 ^ i); omega
      · exact h
    · show (wd2.fdiv 2).toNat < wd2.toNat
      omega
  · refine ret _ _ _ (by assumption) (by assumption) (rint_of ?_)
    have hi0 : i2 = 0 := by
      cases i2 with
      | zero => rfl
      | succ i => rw [Nat.pow_succ] at hi2; have := Nat.two_pow_pos i; omega
    subst hi0
    have hb1 : B2 = 1 := by simp at hB1; omega
    subst hb1
    have h2 : Nat.log2 1 = 0 := by decide
    rw [h2] at hlog
    show sq2 = highI n
    unfold highI
    rw [if_neg (by omega)]
    omega

example : True := by
  w_top off
  exact True.intro
noncomputable def lowI (n : Nat) : Int := (sqs n 0).headD (-1)
theorem low_ex (n : Nat) : ∃ l : Nat, Builtin.bitAnd (n : Int) (-(n : Int)) = l ∧ l ≤ n ∧ highI l = lowI n := by
  by_cases h : n = 0
  · subst h; exact ⟨0, by decide, Nat.le_refl _, by rw [lowI, sqs_zero]; rfl⟩
  · obtain ⟨k, a, rfl⟩ := low_split n h
    refine ⟨2 ^ k, by rw [iand_low, kbt_cast], Nat.le_mul_of_pos_right _ (by omega), ?_⟩
    have hp := Nat.two_pow_pos k
    rw [lowI, sqs_low, highI, if_neg (by omega), Nat.log2_two_pow]
    simp
set_option maxHeartbeats 4000000 in
theorem cl_lowest {w : World} {mean : ExcName → Option Value} {mg mb : Str → Option Value} (x : Int) (n : Nat) (e : x = n) (hn : n < 2 ^ 64) (t : Tok) : Cl w mean mg mb 42 2 [.int x t] PTrue (RInt (lowI n)) := by
  subst e
  obtain ⟨l, hl, hln, hh⟩ := low_ex n
  ( k_dflt (refine' Cl.enter (binds := [("b", .int (n : Int) t)]) ?k6u64 ?k7u64 ?k9u64 ?kBu64 ?kDu64 ?c2u64 ?c3u64 ?c4u64 ?c5u64 ?khu64; (case k6u64 => k_is); (case k7u64 => k_is); (case k9u64 => exact rfl); (case kBu64 => exact locs rfl); (case kDu64 => decide); (case c2u64 => exact rfl); (case c3u64 => exact rfl); (case c4u64 => exact rfl); (case c5u64 => decide); k_whole))
  intro outer R A₀ base g L h₁ tk₁ gs dr os Q E B F' N' X T hpre hd hu hP ret
  try dsimp only at hpre F'
  walk_at "M go"
  (refine go_on ?_; k_dflt (refine' Cl.useI (cl_highest _ l hl (by omega) _) ?k1u65 ?k2u65 ?k3u65 ?k4u65 ?k5u65 ?kAu65 ?kFu65 ?kEu65 ?kKu65 ?kpu65 ?kdu65 ?kuu65 ?_; ( (case k1u65 => first | k_asm | fail "the frames below"); (case k2u65 => first | k_asm | fail "the frame"); (case k3u65 => first | k_asm | fail "the written part"); (case k4u65 => first | k_asm | fail "the ledger"); (case k5u65 => first | k_asm | fail "the top's facts"); (case kAu65 => first | exact rfl | fail "the raised"); (case kFu65 => first | exact rfl | fail "the frames"); (case kEu65 => first | exact rfl | fail "the caller's frame"); (case kKu65 => first | exact rfl | assumption | fail "the caller is no def"); (case kpu65 => first | exact trivial | is_list | fail "the premise"); (case kdu65 => first | ktr_room | fail "the frames' room"); (case kuu65 => first | ktr_units | fail "the C units"))); intro t9x h9x tk9x F9x N9x; (try dsimp only); walk_at "M on")
  refine ret _ _ _ (by assumption) (by assumption) (rint_of ?_)
  exact hh

example : True := by
  w_top off
  exact True.intro
theorem shr1 (b : Nat) : (b : Int).fdiv (2 ^ Int.toNat 1) = ((b / 2 : Nat) : Int) := by
  rw [Int.fdiv_eq_ediv_of_nonneg _ (by decide), show (2 : Int) ^ Int.toNat 1 = 2 by decide]; omega
theorem shr4 (b : Nat) : (b : Int).fdiv (2 ^ Int.toNat 4) = ((b / 16 : Nat) : Int) := by
  rw [Int.fdiv_eq_ediv_of_nonneg _ (by decide), show (2 : Int) ^ Int.toNat 4 = 16 by decide]; omega
theorem and1 (b : Nat) : Builtin.bitAnd (b : Int) 1 = ((b % 2 : Nat) : Int) := by rw [bitAnd_m1]; omega
theorem and15 (b : Nat) : Builtin.bitAnd (b : Int) 15 = ((b % 16 : Nat) : Int) := by rw [bitAnd_m4]; omega
theorem sqs_step (b : Nat) (s : Int) (h : b % 16 ≠ 0) : sqs b s = (if b % 2 = 1 then [s] else []) ++ sqs (b / 2) (s + 1) := by
  conv => lhs; rw [sqs]
  rw [if_neg (by rintro rfl; simp at h)]
  split <;> rfl
theorem sqs_len (k : Nat) : ∀ (b : Nat) (s : Int), b < 2 ^ k → (sqs b s).length ≤ k := by
  induction k with
  | zero => intro b s h; have : b = 0 := by simp at h; omega
            subst this; rw [sqs_zero]; exact Nat.le_refl _
  | succ k ih =>
    intro b s h
    rw [Nat.pow_succ] at h
    have := ih (b / 2) (s + 1) (by omega)
    rw [sqs]
    split
    · exact Nat.zero_le _
    · split
      · exact Nat.succ_le_succ this
      · omega
set_option maxHeartbeats 4000000 in
theorem cl_squares {w : World} {mean : ExcName → Option Value} {mg mb : Str → Option Value} (x : Int) (n : Nat) (e : x = n) (hn : n < 2 ^ 64) (t : Tok) : Cl w mean mg mb 49 1 [.int x t] PTrue (RInts (sqs n 0)) := by
  subst e
  ( k_dflt (refine' Cl.enter (binds := [("b", .int (n : Int) t)]) ?k6u66 ?k7u66 ?k9u66 ?kBu66 ?kDu66 ?c2u66 ?c3u66 ?c4u66 ?c5u66 ?khu66; (case k6u66 => k_is); (case k7u66 => k_is); (case k9u66 => exact rfl); (case kBu66 => exact locs rfl); (case kDu66 => decide); (case c2u66 => exact rfl); (case c3u66 => exact rfl); (case c4u66 => exact rfl); (case c5u66 => decide); k_whole))
  intro outer R A₀ base g L h₁ tk₁ gs dr os Q E B F' N' X T hpre hd hu hP ret
  try dsimp only at hpre F'
  walk_at "M go"
  (rename Addr => lo)
  (refine go_on ?_; refine' m_while (fun (c : (Int × Int × Tok × Tok) × List Value × List Int × Nat) => [(lo, listOf c.2.1.toArray c.2.2.2)]) (fun c => [("b", .int c.1.1 c.1.2.2.1), ("square", .int c.1.2.1 c.1.2.2.2), ("out", .ref lo)]) (fun c => IntsAre c.2.1 c.2.2.1 ∧ ∃ B : Nat, c.1.1 = B ∧ c.2.2.1 ++ sqs B c.1.2.1 = sqs n 0) (fun c => c.1.1.toNat) ((n, 0, t, _), [], [], 0) (by assumption) (by assumption) ?hku67 ?_ ?_; (case hku67 => walk_at "M all"))
  · exact ⟨.nil, n, rfl, rfl⟩
  rintro ⟨⟨b1, q1, t1, t2⟩, vs, ns, cap⟩ u1 h1 tk1 ⟨I1, b, hb, hE⟩ F1 N1
  dsimp only at I1 hb hE F1 N1
  subst hb
  have hsz : vs.toArray.size ≤ sizeLine := by
    have h1 := I1.length
    have h2 := sqs_len 64 n 0 hn
    rw [← hE, List.length_append] at h2
    rw [sizeLine_eq, List.size_toArray]; omega
  walk_at "M go"
  · rename (b : Int) ≠ 0 => hb0
    (refine go_on ?_; refine' m_while (fun (_ : Int × Int × Tok × Tok) => [(lo, listOf vs.toArray cap)]) (fun c => [("b", .int c.1 c.2.2.1), ("square", .int c.2.1 c.2.2.2), ("out", .ref lo)]) (fun c => ∃ B : Nat, c.1 = B ∧ B ≠ 0 ∧ B ≤ b ∧ sqs B c.2.1 = sqs b q1) (fun c => c.1.toNat) (b, q1, t1, t2) (by assumption) (by assumption) ?hku68 ?_ ?_; (case hku68 => walk_at "M all"))
    · exact ⟨b, rfl, by omega, Nat.le_refl _, rfl⟩
    rintro ⟨b2, q2, t3, t4⟩ u2 h2 tk2 ⟨b', hb', hb'0, hle, hE'⟩ F2 N2
    dsimp only at hb' hE' F2 N2
    subst hb'
    walk_at "M go"
    · rename Builtin.bitAnd (b' : Int) 15 ≠ 0 => hq
      rw [and15] at hq
      rename Builtin.bitAnd (b' : Int) 1 ≠ 0 => hr
      rw [and1] at hr
      have hst := sqs_step b' q2 (by omega)
      rw [if_pos (by omega)] at hst
      (refine go_on ?_; (rename News _ _ _ _ => nEx); (try simp only [List.push_toArray] at nEx); refine' w_end ((_, _, _, _), vs ++ [.int q2 t4], ns ++ [q2], cap + 1) (by assumption) nEx ?hnu69 ?hku69 ?_ ?_; (case hku69 => walk_at "M all"); (case hnu69 => first | (intro _ h; cases h; done) | exact fun p hp => hp))
      · refine ⟨I1.append (.cons _ _ .nil), b' / 2, shr1 b', ?_⟩
        rw [← hE, ← hE', hst, List.append_assoc]
      · show (Int.fdiv (b' : Int) (2 ^ Int.toNat 1)).toNat < (b : Int).toNat
        rw [shr1]; omega
    · rename Builtin.bitAnd (b' : Int) 15 ≠ 0 => hq
      rw [and15] at hq
      rename Builtin.bitAnd (b' : Int) 1 = 0 => hr
      rw [and1] at hr
      have hst := sqs_step b' q2 (by omega)
      rw [if_neg (by omega)] at hst
      (refine go_on ?_; (rename News _ _ _ _ => nEx); (try simp only [List.push_toArray] at nEx); refine' w_end ((_, _, _, _), vs, ns, cap) (by assumption) nEx ?hnu70 ?hku70 ?_ ?_; (case hku70 => walk_at "M all"); (case hnu70 => first | (intro _ h; cases h; done) | exact fun p hp => hp))
      · refine ⟨I1, b' / 2, shr1 b', ?_⟩
        rw [← hE, ← hE', hst, List.nil_append]
      · show (Int.fdiv (b' : Int) (2 ^ Int.toNat 1)).toNat < (b : Int).toNat
        rw [shr1]; omega
    · rename Builtin.bitAnd (b' : Int) 15 = 0 => hq
      rw [and15] at hq
      (refine go_on ?_; (rename News _ _ _ _ => nEx); (try simp only [List.push_toArray] at nEx); refine' w_end (_, _, _, _) (by assumption) nEx ?hnu71 ?hku71 ?_ ?_; (case hku71 => walk_at "M all"); (case hnu71 => first | (intro _ h; cases h; done) | exact fun p hp => hp))
      · exact ⟨b' / 16, shr4 b', by omega, by omega, (sqs_16 _ _ (by omega)).symm.trans hE'⟩
      · show (Int.fdiv (b' : Int) (2 ^ Int.toNat 4)).toNat < (b' : Int).toNat
        rw [shr4]; omega
  · refine ret _ _ _ (by assumption) (by assumption) (rints_of (by assumption) (by k_mem) ?_)
    have : b = 0 := by omega
    subst this
    rw [sqs_zero, List.append_nil] at hE
    rw [← hE]; exact I1

example : True := by
  w_top off
  exact True.intro
noncomputable def revN : Nat → Nat → Nat → Nat
  | 0, _, o => o
  | k + 1, b, o => revN k (b / 2) (2 * o + b % 2)
set_option maxHeartbeats 4000000 in
theorem cl_reverse {w : World} {mean : ExcName → Option Value} {mg mb : Str → Option Value} (x : Int) (n size : Nat) (e : x = n) (hs : size ≤ 64) (t u : Tok) : Cl w mean mg mb 77 1 [.int x t, .int (size : Int) u] PTrue (RInt (revN size n 0 : Nat)) := by
  subst e
  ( k_dflt (refine' Cl.enter (binds := [("b", .int (n : Int) t), ("size", .int (size : Int) u)]) ?k6u72 ?k7u72 ?k9u72 ?kBu72 ?kDu72 ?c2u72 ?c3u72 ?c4u72 ?c5u72 ?khu72; (case k6u72 => k_is); (case k7u72 => k_is); (case k9u72 => exact rfl); (case kBu72 => exact locs rfl); (case kDu72 => decide); (case c2u72 => exact rfl); (case c3u72 => exact rfl); (case c4u72 => exact rfl); (case c5u72 => decide); k_whole))
  intro outer R A₀ base g L h₁ tk₁ gs dr os Q E B F' N' X T hpre hd hu hP ret
  try dsimp only at hpre F'
  walk_at "M go"
  (refine go_on ?_; refine' m_range (fun _ => []) (fun (c : Int × Int × Tok × Tok) => [("b", .int c.1 c.2.2.1), ("out", .int c.2.1 c.2.2.2)]) (fun i c => ∃ b o : Nat, c.1 = b ∧ c.2.1 = o ∧ o < 2 ^ i ∧ revN (size - i) b o = revN size n 0) (n, 0, t, _) size rfl (by assumption) ?hsmallu73 ?hnu73 (by assumption) (by assumption) ?hku73 ?_ ?_ ?_; (case hku73 => walk_at "M all"); (case hsmallu73 => first | exact small_one (by omega) (by omega) (by omega) (by omega) | exact small_down (by omega) (by omega) (by omega) (by omega)); (case hnu73 => first | exact (rangeSize_nat _ _).trans (by omega) | exact (rangeSize_downNat _ _).trans (by omega)))
  · exact ⟨n, 0, rfl, rfl, by decide, rfl⟩
  · rintro i ⟨b1, o1, t1, t2⟩ t0 u1 h1 tk1 own hi hoff ⟨b, o, hb, ho, hlt, hE⟩ F1 N1
    dsimp only at hb ho F1 N1
    subst hb ho
    have hol : (o : Int) < 18446744073709551616 := by
      have : 2 ^ i ≤ 2 ^ 63 := Nat.pow_le_pow_right (by decide) (by omega)
      omega
    walk_at "M go"
    (refine go_on ?_; (rename News _ _ _ _ => nEx); (try simp only [List.push_toArray] at nEx); refine' f_end (_, _, _, _) (by assumption) nEx ?hnu74 ?hau74 ?hku74 ?_; (case hku74 => walk_at "M all"); (case hnu74 => first | exact fun p hp => hp | k_sub | skip); (case hau74 => first | exact rfl | skip))
    refine ⟨b / 2, 2 * o + b % 2, shr1 b, ?_, by rw [Nat.pow_succ]; omega, ?_⟩
    · show Builtin.bitOr ((o : Int) * 2 ^ Int.toNat 1) (Builtin.bitAnd (b : Int) 1) = _
      rw [and1, bitOr_comm, or_c _ _ _ 2 (by decide) (by omega) (by omega) (by omega)]; omega
    · rw [← hE, show size - i = (size - (i + 1)) + 1 by omega]; rfl
  · rintro ⟨b1, o1, t1, t2⟩ u1 h1 tk1 ⟨b, o, hb, ho, hlt, hE⟩ F1 N1
    dsimp only at hb ho F1 N1
    subst hb ho
    walk_at "M go"
    refine ret _ _ _ (by assumption) (by assumption) (rint_of ?_)
    rw [Nat.sub_self] at hE
    rw [← hE]; rfl

example : True := by
  w_top off
  exact True.intro
theorem low_dvd {j k a : Nat} (h : 2 ^ j ∣ 2 ^ k * (2 * a + 1)) : j ≤ k := by
  rcases Nat.lt_or_ge k j with hlt | hge
  · exfalso
    have h2 : 2 ^ (k + 1) ∣ 2 ^ k * (2 * a + 1) := Nat.dvd_trans (Nat.pow_dvd_pow 2 hlt) h
    rw [Nat.pow_succ] at h2
    have h3 := Nat.dvd_of_mul_dvd_mul_left (Nat.two_pow_pos k) h2
    omega
  · exact hge
theorem low_dvd' {j k a : Nat} (h : j ≤ k) : 2 ^ (j + 1) ∣ 2 ^ k * (2 * a) := by
  have h2 : 2 ^ (j + 1) ∣ 2 ^ (k + 1) := Nat.pow_dvd_pow 2 (by omega)
  have h3 : 2 ^ k * (2 * a) = 2 ^ (k + 1) * a := by rw [Nat.pow_succ, Nat.mul_assoc]
  rw [h3]; exact Nat.dvd_trans h2 (Nat.dvd_mul_right _ _)
theorem or_pow (o j : Nat) (h : o < 2 ^ j) : Builtin.bitOr (o : Int) (2 ^ j) = ((o + 2 ^ j : Nat) : Int) := by
  have h2 := kbt_cast j
  have := or_lit (o : Int) 1 j (by omega) (by omega) (by decide)
  rw [Int.one_mul] at this
  rw [this]; omega
set_option maxHeartbeats 4000000 in
theorem cl_extract {w : World} {mean : ExcName → Option Value} {mg mb : Str → Option Value} (x y : Int) (b mk : Nat) (e : x = b) (e' : y = mk) (hm : mk < 2 ^ 64) (t u : Tok) : Cl w mean mg mb 56 1 [.int x t, .int y u] PTrue (RInt (ext b mk : Nat)) := by
  subst e e'
  ( k_dflt (refine' Cl.enter (binds := [("b", .int (b : Int) t), ("mask", .int (mk : Int) u)]) ?k6u75 ?k7u75 ?k9u75 ?kBu75 ?kDu75 ?c2u75 ?c3u75 ?c4u75 ?c5u75 ?khu75; (case k6u75 => k_is); (case k7u75 => k_is); (case k9u75 => exact rfl); (case kBu75 => exact locs rfl); (case kDu75 => decide); (case c2u75 => exact rfl); (case c3u75 => exact rfl); (case c4u75 => exact rfl); (case c5u75 => decide); k_whole))
  intro outer R A₀ base g L h₁ tk₁ gs dr os Q E B F' N' X T hpre hd hu hP ret
  try dsimp only at hpre F'
  walk_at "M go"
  (refine go_on ?_; refine' m_while (fun _ => []) (fun (c : Int × Int × Int × Tok × Tok × Tok) => [("b", .int (b : Int) t), ("mask", .int c.1 c.2.2.2.1), ("out", .int c.2.1 c.2.2.2.2.1), ("bit", .int c.2.2.1 c.2.2.2.2.2)]) (fun c => ∃ M o j : Nat, c.1 = M ∧ c.2.1 = o ∧ c.2.2.1 = 2 ^ j ∧ M < 2 ^ 64 ∧ 2 ^ j ∣ M ∧ o < 2 ^ j ∧ o + 2 ^ j * ext b M = ext b mk) (fun c => c.1.toNat) (mk, 0, 1, u, _, _) (by assumption) (by assumption) ?hku76 ?_ ?_; (case hku76 => walk_at "M all"))
  · exact ⟨mk, 0, 0, rfl, rfl, rfl, hm, Nat.one_dvd _, by decide, by simp⟩
  rintro ⟨m1, o1, bt, t1, t2, t3⟩ u1 h1 tk1 ⟨M, o, j, hM, ho, hj, hM64, hdv, hoj, hE⟩ F1 N1
  dsimp only at hM ho hj F1 N1
  subst hM ho
  by_cases hM0 : M = 0
  · subst hM0
    have h00 : ((0 : Nat) : Int) = 0 := rfl
    walk_at "M go"
    refine ret _ _ _ (by assumption) (by assumption) (rint_of ?_)
    rw [ext_zero] at hE
    rw [← hE]; omega
  obtain ⟨k, a, rfl⟩ := low_split M hM0
  have hbt : 0 < bt ∧ bt < 18446744073709551616 := by
    have h1 := Nat.le_of_dvd (by omega) hdv
    have h2 := kbt_cast j
    have h3 := Nat.two_pow_pos j
    omega
  have e1 := iand_low k a
  have e2 := ibit_low b k
  have e3 := ixor_low k a
  have hjk := low_dvd hdv
  have hlt : 2 ^ k * (2 * a) < 2 ^ k * (2 * a + 1) := (Nat.mul_lt_mul_left (Nat.two_pow_pos k)).mpr (by omega)
  rw [ext_low] at hE
  have hp2 : (2 : Int) ^ Int.toNat 1 = 2 := by decide
  walk_at "M go"
  · rename Builtin.bitAnd (b : Int) _ ≠ 0 => hq
    rw [e1, e2] at hq
    have hb : b / 2 ^ k % 2 = 1 := by
      rcases Nat.mod_two_eq_zero_or_one (b / 2 ^ k) with h | h
      · rw [h] at hq; simp at hq
      · exact h
    (refine go_on ?_; (rename News _ _ _ _ => nEx); (try simp only [List.push_toArray] at nEx); refine' w_end (_, _, _, _, _, _) (by assumption) nEx ?hnu77 ?hku77 ?_ ?_; (case hku77 => walk_at "M all"); (case hnu77 => first | (intro _ h; cases h; done) | exact fun p hp => hp))
    · refine ⟨2 ^ k * (2 * a), o + 2 ^ j, j + 1, ?_, ?_, ?_, by omega, low_dvd' hjk, by rw [Nat.pow_succ]; omega, ?_⟩
      · show Builtin.bitXor _ (Builtin.bitAnd _ _) = _
        rw [e1, e3]
      · show Builtin.bitOr _ _ = _
        rw [hj, or_pow o j hoj]
      · show bt * 2 ^ Int.toNat 1 = _
        rw [hp2, hj, Int.pow_succ]
      · rw [hb] at hE
        rw [← hE, Nat.pow_succ, Nat.mul_add, Nat.mul_assoc]; omega
    · show (Builtin.bitXor _ (Builtin.bitAnd _ _)).toNat < _
      rw [e1, e3]
      show 2 ^ k * (2 * a) < 2 ^ k * (2 * a + 1)
      exact hlt
  · rename Builtin.bitAnd (b : Int) _ = 0 => hq
    rw [e1, e2] at hq
    have hb : b / 2 ^ k % 2 = 0 := by
      rcases Nat.mod_two_eq_zero_or_one (b / 2 ^ k) with h | h
      · exact h
      · rw [h] at hq
        have := kbt_pos k
        omega
    (refine go_on ?_; (rename News _ _ _ _ => nEx); (try simp only [List.push_toArray] at nEx); refine' w_end (_, _, _, _, _, _) (by assumption) nEx ?hnu78 ?hku78 ?_ ?_; (case hku78 => walk_at "M all"); (case hnu78 => first | (intro _ h; cases h; done) | exact fun p hp => hp))
    · refine ⟨2 ^ k * (2 * a), o, j + 1, ?_, rfl, ?_, by omega, low_dvd' hjk, by rw [Nat.pow_succ]; omega, ?_⟩
      · show Builtin.bitXor _ (Builtin.bitAnd _ _) = _
        rw [e1, e3]
      · show bt * 2 ^ Int.toNat 1 = _
        rw [hp2, hj, Int.pow_succ]
      · rw [hb] at hE
        rw [← hE, Nat.pow_succ, Nat.mul_add, Nat.mul_assoc]; omega
    · show (Builtin.bitXor _ (Builtin.bitAnd _ _)).toNat < _
      rw [e1, e3]
      show 2 ^ k * (2 * a) < 2 ^ k * (2 * a + 1)
      exact hlt
  · exfalso; omega

set_option maxHeartbeats 4000000 in
theorem cl_deposit {w : World} {mean : ExcName → Option Value} {mg mb : Str → Option Value} (x y : Int) (n mk : Nat) (e : x = n) (e' : y = mk) (t u : Tok) : Cl w mean mg mb 63 1 [.int x t, .int y u] PTrue (RInt (dep n mk : Nat)) := by
  subst e e'
  ( k_dflt (refine' Cl.enter (binds := [("n", .int (n : Int) t), ("mask", .int (mk : Int) u)]) ?k6u79 ?k7u79 ?k9u79 ?kBu79 ?kDu79 ?c2u79 ?c3u79 ?c4u79 ?c5u79 ?khu79; (case k6u79 => k_is); (case k7u79 => k_is); (case k9u79 => exact rfl); (case kBu79 => exact locs rfl); (case kDu79 => decide); (case c2u79 => exact rfl); (case c3u79 => exact rfl); (case c4u79 => exact rfl); (case c5u79 => decide); k_whole))
  intro outer R A₀ base g L h₁ tk₁ gs dr os Q E B F' N' X T hpre hd hu hP ret
  try dsimp only at hpre F'
  walk_at "M go"
  (refine go_on ?_; refine' m_while (fun _ => []) (fun (c : Int × Int × Int × Tok × Tok × Tok) => [("n", .int c.1 c.2.2.2.1), ("mask", .int c.2.1 c.2.2.2.2.1), ("out", .int c.2.2.1 c.2.2.2.2.2)]) (fun c => ∃ N M o j : Nat, c.1 = N ∧ c.2.1 = M ∧ c.2.2.1 = o ∧ 2 ^ j ∣ M ∧ o < 2 ^ j ∧ o + dep N M = dep n mk) (fun c => c.2.1.toNat) (n, mk, 0, t, u, _) (by assumption) (by assumption) ?hku80 ?_ ?_; (case hku80 => walk_at "M all"))
  · exact ⟨n, mk, 0, 0, rfl, rfl, rfl, Nat.one_dvd _, by decide, by simp⟩
  rintro ⟨n1, m1, o1, t1, t2, t3⟩ u1 h1 tk1 ⟨N, M, o, j, hN, hM, ho, hdv, hoj, hE⟩ F1 N1
  dsimp only at hN hM ho F1 N1
  subst hN hM ho
  by_cases hM0 : M = 0
  · subst hM0
    have h00 : ((0 : Nat) : Int) = 0 := rfl
    walk_at "M go"
    refine ret _ _ _ (by assumption) (by assumption) (rint_of ?_)
    rw [dep_zero] at hE
    rw [← hE]; omega
  obtain ⟨k, a, rfl⟩ := low_split M hM0
  have e1 := iand_low k a
  have e3 := ixor_low k a
  have hjk := low_dvd hdv
  have hlt : 2 ^ k * (2 * a) < 2 ^ k * (2 * a + 1) := (Nat.mul_lt_mul_left (Nat.two_pow_pos k)).mpr (by omega)
  rw [dep_low] at hE
  have hp2 : (2 : Int) ^ Int.toNat 1 = 2 := by decide
  have hok : o < 2 ^ k := Nat.lt_of_lt_of_le hoj (Nat.pow_le_pow_right (by decide) hjk)
  have hdk : 2 ^ (k + 1) ∣ 2 ^ k * (2 * a) := low_dvd' (Nat.le_refl k)
  have hsh : (N : Int).fdiv (2 ^ Int.toNat 1) = ((N / 2 : Nat) : Int) := by rw [shr1]
  have ha1 : Builtin.bitAnd (N : Int) 1 = ((N % 2 : Nat) : Int) := by rw [bitAnd_m1]; omega
  walk_at "M go"
  · rename Builtin.bitAnd (N : Int) _ ≠ 0 => hq
    rw [ha1] at hq
    have hb : N % 2 = 1 := by omega
    (refine go_on ?_; (rename News _ _ _ _ => nEx); (try simp only [List.push_toArray] at nEx); refine' w_end (_, _, _, _, _, _) (by assumption) nEx ?hnu81 ?hku81 ?_ ?_; (case hku81 => walk_at "M all"); (case hnu81 => first | (intro _ h; cases h; done) | exact fun p hp => hp))
    · refine ⟨N / 2, 2 ^ k * (2 * a), o + 2 ^ k, k + 1, hsh, ?_, ?_, hdk, by rw [Nat.pow_succ]; omega, ?_⟩
      · show Builtin.bitXor _ (Builtin.bitAnd _ _) = _
        rw [e1, e3]
      · show Builtin.bitOr _ (Builtin.bitAnd _ _) = _
        rw [e1, or_pow o k hok]
      · rw [hb] at hE
        rw [← hE]; omega
    · show (Builtin.bitXor _ (Builtin.bitAnd _ _)).toNat < _
      rw [e1, e3]
      show 2 ^ k * (2 * a) < 2 ^ k * (2 * a + 1)
      exact hlt
  · rename Builtin.bitAnd (N : Int) _ = 0 => hq
    rw [ha1] at hq
    have hb : N % 2 = 0 := by omega
    (refine go_on ?_; (rename News _ _ _ _ => nEx); (try simp only [List.push_toArray] at nEx); refine' w_end (_, _, _, _, _, _) (by assumption) nEx ?hnu82 ?hku82 ?_ ?_; (case hku82 => walk_at "M all"); (case hnu82 => first | (intro _ h; cases h; done) | exact fun p hp => hp))
    · refine ⟨N / 2, 2 ^ k * (2 * a), o, k + 1, hsh, ?_, rfl, hdk, by rw [Nat.pow_succ]; omega, ?_⟩
      · show Builtin.bitXor _ (Builtin.bitAnd _ _) = _
        rw [e1, e3]
      · rw [hb] at hE
        rw [← hE]; omega
    · show (Builtin.bitXor _ (Builtin.bitAnd _ _)).toNat < _
      rw [e1, e3]
      show 2 ^ k * (2 * a) < 2 ^ k * (2 * a + 1)
      exact hlt
  · exfalso; omega

example : True := by
  w_top off
  exact True.intro
theorem pc_even (m : Nat) : pc (2 * m) = pc m := by
  by_cases h : m = 0
  · subst h; rfl
  · rw [pc_pos (by omega), show 2 * m % 2 = 0 by omega, show 2 * m / 2 = m by omega]; omega
theorem pc_odd (m : Nat) : pc (2 * m + 1) = pc m + 1 := by
  rw [pc_pos (by omega), show (2 * m + 1) % 2 = 1 by omega, show (2 * m + 1) / 2 = m by omega]; omega
theorem half_ind {P : Nat → Prop} (h0 : P 0) (h1 : ∀ m, m ≠ 0 → P m → P (2 * m)) (h2 : ∀ m, P m → P (2 * m + 1)) (m : Nat) : P m := by
  induction m using Nat.strongRecOn with
  | ind m ih =>
    by_cases h : m = 0
    · subst h; exact h0
    rcases Nat.mod_two_eq_zero_or_one m with e | e
    · have := h1 (m / 2) (by omega) (ih _ (by omega)); rwa [show 2 * (m / 2) = m by omega] at this
    · have := h2 (m / 2) (ih _ (by omega)); rwa [show 2 * (m / 2) + 1 = m by omega] at this
theorem ext_dep (m : Nat) : ∀ n, ext (dep n m) m = n % 2 ^ pc m := by
  induction m using half_ind with
  | h0 => intro n; rw [ext_zero, pc_zero]; simp [Nat.mod_one]
  | h1 m _ ih => intro n; rw [dep_even, ext_even, pc_even, show 2 * dep n m / 2 = dep n m by omega, ih]
  | h2 m ih =>
    intro n
    rw [dep_odd, ext_odd, pc_odd, show (n % 2 + 2 * dep (n / 2) m) / 2 = dep (n / 2) m by omega, ih, Nat.pow_succ, Nat.mul_comm (2 ^ pc m) 2, Nat.mod_mul]
    omega
theorem ext_zero' (m : Nat) : ext 0 m = 0 := by
  induction m using half_ind with
  | h0 => exact ext_zero 0
  | h1 m _ ih => rw [ext_even]; exact ih
  | h2 m ih => rw [ext_odd]; simp [ih]
theorem dep_zero' (m : Nat) : dep 0 m = 0 := by
  induction m using half_ind with
  | h0 => exact dep_zero 0
  | h1 m _ ih => rw [dep_even, ih]
  | h2 m ih => rw [dep_odd]; simp [ih]
theorem dep_top (m : Nat) : dep (2 ^ pc m) m = 0 := by
  induction m using half_ind with
  | h0 => exact dep_zero _
  | h1 m _ ih => rw [dep_even, pc_even, ih]
  | h2 m ih =>
    rw [dep_odd, pc_odd, Nat.pow_succ, show 2 ^ pc m * 2 % 2 = 0 by omega, show 2 ^ pc m * 2 / 2 = 2 ^ pc m by omega, ih]
theorem dep_ne (m n : Nat) (h : 0 < n) (h2 : n < 2 ^ pc m) : dep n m ≠ 0 := by
  intro e
  have := ext_dep m n
  rw [e, ext_zero', Nat.mod_eq_of_lt h2] at this
  omega
theorem and_dbl (x : Int) (y : Nat) : Builtin.bitAnd x ((2 * y : Nat) : Int) = 2 * Builtin.bitAnd (x / 2) (y : Int) := by
  rw [kbt_halves, if_neg (by omega), show ((2 * y : Nat) : Int) / 2 = y by omega]; omega
theorem and_dbl1 (x : Int) (y : Nat) : Builtin.bitAnd x ((2 * y + 1 : Nat) : Int) = 2 * Builtin.bitAnd (x / 2) (y : Int) + x % 2 := by
  rw [kbt_halves, show ((2 * y + 1 : Nat) : Int) / 2 = y by omega]
  have : ((2 * y + 1 : Nat) : Int) % 2 = 1 := by omega
  rw [this]; split <;> omega
theorem sub_keep (m : Nat) : ∀ n, Builtin.bitAnd ((dep n m : Int) - m - 1) m = dep n m := by
  induction m using half_ind with
  | h0 => intro n; rw [dep_zero]; decide
  | h1 m _ ih => intro n; rw [dep_even, and_dbl, show (((2 * dep n m : Nat) : Int) - ((2 * m : Nat) : Int) - 1) / 2 = (dep n m : Int) - m - 1 by omega, ih]; omega
  | h2 m ih =>
    intro n
    rw [dep_odd, and_dbl1, show (((n % 2 + 2 * dep (n / 2) m : Nat) : Int) - ((2 * m + 1 : Nat) : Int) - 1) / 2 = (dep (n / 2) m : Int) - m - 1 by omega, ih]; omega
theorem sub_step (m : Nat) : ∀ n, Builtin.bitAnd ((dep n m : Int) - m) m = dep (n + 1) m := by
  induction m using half_ind with
  | h0 => intro n; rw [dep_zero, dep_zero]; decide
  | h1 m _ ih => intro n; rw [dep_even, dep_even, and_dbl, show (((2 * dep n m : Nat) : Int) - ((2 * m : Nat) : Int)) / 2 = (dep n m : Int) - m by omega, ih]; omega
  | h2 m ih =>
    intro n
    rw [dep_odd, dep_odd, and_dbl1]
    rcases Nat.mod_two_eq_zero_or_one n with e | e
    · rw [show (((n % 2 + 2 * dep (n / 2) m : Nat) : Int) - ((2 * m + 1 : Nat) : Int)) / 2 = (dep (n / 2) m : Int) - m - 1 by omega, sub_keep, show (n + 1) / 2 = n / 2 by omega]; omega
    · rw [show (((n % 2 + 2 * dep (n / 2) m : Nat) : Int) - ((2 * m + 1 : Nat) : Int)) / 2 = (dep (n / 2) m : Int) - m by omega, ih, show (n + 1) / 2 = n / 2 + 1 by omega]; omega
noncomputable def subL (m k : Nat) : List Int := (List.range k).map fun i => (dep i m : Int)
theorem subL_len (m k : Nat) : (subL m k).length = k := by simp [subL]
theorem subL_succ (m k : Nat) : subL m (k + 1) = subL m k ++ [(dep k m : Int)] := by simp [subL, List.range_succ]
set_option maxHeartbeats 4000000 in
theorem cl_subsets {w : World} {mean : ExcName → Option Value} {mg mb : Str → Option Value} (x : Int) (mk : Nat) (e : x = mk) (hm : pc mk ≤ 4) (t : Tok) : Cl w mean mg mb 70 1 [.int x t] PTrue (RInts (subL mk (2 ^ pc mk))) := by
  subst e
  have hb0 : Builtin.bitAnd (-(mk : Int)) mk = dep 1 mk := by
    have := sub_step mk 0
    rw [dep_zero'] at this; rw [← this]; congr 1; omega
  have hk16 : 2 ^ pc mk ≤ 16 := Nat.pow_le_pow_right (j := 4) (by decide) hm
  ( k_dflt (refine' Cl.enter (binds := [("mask", .int (mk : Int) t)]) ?k6u83 ?k7u83 ?k9u83 ?kBu83 ?kDu83 ?c2u83 ?c3u83 ?c4u83 ?c5u83 ?khu83; (case k6u83 => k_is); (case k7u83 => k_is); (case k9u83 => exact rfl); (case kBu83 => exact locs rfl); (case kDu83 => decide); (case c2u83 => exact rfl); (case c3u83 => exact rfl); (case c4u83 => exact rfl); (case c5u83 => decide); k_whole))
  intro outer R A₀ base g L h₁ tk₁ gs dr os Q E B F' N' X T hpre hd hu hP ret
  try dsimp only at hpre F'
  walk_at "M go"
  (rename Addr => lo)
  (refine go_on ?_; refine' m_while (fun (c : (Int × Tok) × List Value × List Int × Nat) => [(lo, listOf c.2.1.toArray c.2.2.2)]) (fun c => [("mask", .int (mk : Int) t), ("b", .int c.1.1 c.1.2), ("out", .ref lo)]) (fun c => IntsAre c.2.1 c.2.2.1 ∧ ∃ i : Nat, 0 < i ∧ i ≤ 2 ^ pc mk ∧ c.1.1 = dep i mk ∧ c.2.2.1 = subL mk i) (fun c => 2 ^ pc mk - c.2.2.1.length) ((_, _), [.int 0 _], [0], 0) (by assumption) (by assumption) ?hku84 ?_ ?_; (case hku84 => walk_at "M all"))
  · refine ⟨.cons _ _ .nil, 1, by decide, Nat.two_pow_pos _, hb0, ?_⟩
    simp [subL, dep_zero']
  rintro ⟨⟨b1, t1⟩, vs, ns, cap⟩ u1 h1 tk1 ⟨I1, i, hi0, hi1, hb, hns⟩ F1 N1
  dsimp only at I1 hb hns F1 N1
  subst hb hns
  have hsz : vs.toArray.size ≤ sizeLine := by
    have h1 := I1.length
    rw [subL_len] at h1
    rw [sizeLine_eq, List.size_toArray]; omega
  walk_at "M go"
  · (refine go_on ?_; (rename News _ _ _ _ => nEx); (try simp only [List.push_toArray] at nEx); refine' w_end ((_, _), vs ++ [.int (dep i mk) t1], subL mk (i + 1), cap + 1) (by assumption) nEx ?hnu85 ?hku85 ?_ ?_; (case hku85 => walk_at "M all"); (case hnu85 => first | (intro _ h; cases h; done) | exact fun p hp => hp))
    all_goals
      have hi2 : i < 2 ^ pc mk := by
        rcases Nat.lt_or_ge i (2 ^ pc mk) with h | h
        · exact h
        · exfalso
          have : i = 2 ^ pc mk := by omega
          subst this
          rename (_ : Int) ≠ 0 => hq
          rw [dep_top] at hq; exact hq rfl
    · exact ⟨by rw [subL_succ]; exact I1.append (.cons _ _ .nil), i + 1, by omega, hi2, sub_step mk i, rfl⟩
    · show 2 ^ pc mk - (subL mk (i + 1)).length < 2 ^ pc mk - (subL mk i).length
      rw [subL_len, subL_len]; omega
  · refine ret _ _ _ (by assumption) (by assumption) (rints_of (by assumption) (by k_mem) ?_)
    have : i = 2 ^ pc mk := by
      rcases Nat.lt_or_ge i (2 ^ pc mk) with h | h
      · exfalso
        exact dep_ne mk i hi0 h (by omega)
      · omega
    rw [← this]; exact I1

example : True := by
  w_top off
  exact True.intro
noncomputable def bitsL : Nat → Nat → List Int
  | _, 0 => []
  | n, k + 1 => ((n % 2 : Nat) : Int) :: bitsL (n / 2) k
noncomputable def numL (l : List Int) : Int := l.foldr (fun b n => 2 * n + b) 0
theorem fmod2 (b : Nat) : (b : Int).fmod 2 = ((b % 2 : Nat) : Int) := by rw [Int.fmod_eq_emod_of_nonneg _ (by decide)]; rfl
theorem fdiv2 (b : Nat) : (b : Int).fdiv 2 = ((b / 2 : Nat) : Int) := by rw [Int.fdiv_eq_ediv_of_nonneg _ (by decide)]; rfl
theorem numL_drop (ns : List Int) (i : Nat) (h : i < ns.length) : numL (ns.drop i) = 2 * numL (ns.drop (i + 1)) + ns.getD i 0 := by
  rw [List.drop_eq_getElem_cons h, List.getD_eq_getElem?_getD, List.getElem?_eq_getElem h]; rfl
theorem numL_bound (ns : List Int) (h : ∀ b ∈ ns, 0 ≤ b ∧ b ≤ 1) : 0 ≤ numL ns ∧ numL ns < 2 ^ ns.length := by
  induction ns with
  | nil => exact ⟨Int.le_refl _, by decide⟩
  | cons b r ih =>
    have h1 := ih fun c hc => h c (.tail _ hc)
    have h2 := h b (.head _)
    have e : numL (b :: r) = 2 * numL r + b := rfl
    rw [e, List.length_cons, Int.pow_succ]
    omega
theorem bitsL_len (k : Nat) : ∀ n, (bitsL n k).length = k := by
  induction k with
  | zero => intro n; rfl
  | succ k ih => intro n; simp [bitsL, ih]
set_option maxHeartbeats 4000000 in
theorem cl_get {w : World} {mean : ExcName → Option Value} {mg mb : Str → Option Value} (l : Addr) (vs : List Value) (ns : List Int) (I : IntsAre vs ns) (i : Nat) (hl : ns.length ≤ 63) (hi : i ≤ 100) (t : Tok) : Cl w mean mg mb 261 1 [.ref l, .int (i : Int) t] (fun h => h.IsList l vs.toArray) (RInt (ns.getD i (37 * i + 11))) := by
  have hvl := I.length
  ( k_dflt (refine' Cl.enter (binds := [("script", .ref l), ("i", .int (i : Int) t)]) ?k6u86 ?k7u86 ?k9u86 ?kBu86 ?kDu86 ?c2u86 ?c3u86 ?c4u86 ?c5u86 ?khu86; (case k6u86 => k_is); (case k7u86 => k_is); (case k9u86 => exact rfl); (case kBu86 => exact locs rfl); (case kDu86 => decide); (case c2u86 => exact rfl); (case c3u86 => exact rfl); (case c4u86 => exact rfl); (case c5u86 => decide); k_whole))
  intro outer R A₀ base g L h₁ tk₁ gs dr os Q E B F' N' X T hpre hd hu hP ret
  try dsimp only at hpre F'
  walk_at "M go"
  · rename (i : Int) < _ => hq
    refine ret _ _ _ (by assumption) (by assumption) (rint_of ?_)
    rw [List.getD_eq_getElem?_getD, List.getD_eq_getElem?_getD, show (i : Int).toNat = i by omega, List.getElem?_eq_getElem (by omega)]; rfl
  · rename ¬ (i : Int) < _ => hq
    refine ret _ _ _ (by assumption) (by assumption) (rint_of ?_)
    rw [List.getD_eq_getElem?_getD, List.getElem?_eq_none (by omega)]; rfl
set_option maxHeartbeats 4000000 in
theorem cl_bits {w : World} {mean : ExcName → Option Value} {mg mb : Str → Option Value} (x : Int) (n size : Nat) (e : x = n) (hs : size ≤ 64) (t u : Tok) : Cl w mean mg mb 268 1 [.int x t, .int (size : Int) u] PTrue (RInts (bitsL n size)) := by
  subst e
  ( k_dflt (refine' Cl.enter (binds := [("n", .int (n : Int) t), ("size", .int (size : Int) u)]) ?k6u87 ?k7u87 ?k9u87 ?kBu87 ?kDu87 ?c2u87 ?c3u87 ?c4u87 ?c5u87 ?khu87; (case k6u87 => k_is); (case k7u87 => k_is); (case k9u87 => exact rfl); (case kBu87 => exact locs rfl); (case kDu87 => decide); (case c2u87 => exact rfl); (case c3u87 => exact rfl); (case c4u87 => exact rfl); (case c5u87 => decide); k_whole))
  intro outer R A₀ base g L h₁ tk₁ gs dr os Q E B F' N' X T hpre hd hu hP ret
  try dsimp only at hpre F'
  walk_at "M go"
  (refine go_on ?_; refine' m_range1 (fun (c : (Int × Tok) × List Value × List Int × Nat) => c.2.1) (fun c => c.2.2.2) (fun lo c => [("n", .int c.1.1 c.1.2), ("out", .ref lo)]) (fun i c => IntsAre c.2.1 c.2.2.1 ∧ c.2.2.1.length = i ∧ ∃ N : Nat, c.1.1 = N ∧ c.2.2.1 ++ bitsL N (size - i) = bitsL n size) ((n, t), [], [], 0) size rfl (by assumption) ?hsmallu88 ?hnu88 (by assumption) (by assumption) ?hku88 ?_ ?_ ?_; (case hku88 => walk_at "M all"); (case hsmallu88 => first | exact small_one (by omega) (by omega) (by omega) (by omega) | exact small_down (by omega) (by omega) (by omega) (by omega)); (case hnu88 => first | exact (rangeSize_nat _ _).trans (by omega) | exact (rangeSize_downNat _ _).trans (by omega)))
  · exact ⟨.nil, rfl, n, rfl, rfl⟩
  · rintro i ⟨⟨n1, t1⟩, vs, ns, cap⟩ t0 u1 h1 tk1 own hi hoff ⟨I1, hl, b, hb, hE⟩ F1 N1
    dsimp only at I1 hl hb hE F1 N1
    subst hb
    have hsz : vs.toArray.size ≤ sizeLine := by
      have h1 := I1.length
      rw [sizeLine_eq, List.size_toArray]; omega
    walk_at "M go"
    (refine go_on ?_; (rename News _ _ _ _ => nEx); (try simp only [List.push_toArray] at nEx); refine' f_end ((_, _), vs ++ [.int ((b : Int).fmod 2) (tk1 + 1)], ns ++ [(b : Int).fmod 2], cap + 1) (by assumption) nEx ?hnu89 ?hau89 ?hku89 ?_; (case hku89 => walk_at "M all"); (case hnu89 => first | exact fun p hp => hp | k_sub | skip); (case hau89 => first | exact rfl | skip))
    refine ⟨I1.append (.cons _ _ .nil), by simp [hl], b / 2, fdiv2 b, ?_⟩
    show ns ++ [(b : Int).fmod 2] ++ _ = _
    rw [← hE, fmod2, show size - i = (size - (i + 1)) + 1 by omega, List.append_assoc]; rfl
  · rintro ⟨⟨n1, t1⟩, vs, ns, cap⟩ u1 h1 tk1 ⟨I1, hl, b, hb, hE⟩ F1 N1
    dsimp only at I1 hl hb hE F1 N1
    walk_at "M go"
    refine ret _ _ _ (by assumption) (by assumption) (rints_of (by assumption) (by k_mem) ?_)
    rw [Nat.sub_self] at hE
    rw [← hE]
    show IntsAre vs (ns ++ [])
    rw [List.append_nil]; exact I1
set_option maxHeartbeats 4000000 in
theorem cl_number {w : World} {mean : ExcName → Option Value} {mg mb : Str → Option Value} (l : Addr) (vs : List Value) (ns : List Int) (I : IntsAre vs ns) (hl : ns.length ≤ 64) (h01 : ∀ b ∈ ns, 0 ≤ b ∧ b ≤ 1) : Cl w mean mg mb 275 1 [.ref l] (fun h => h.IsList l vs.toArray) (RInt (numL ns)) := by
  have hvl := I.length
  ( k_dflt (refine' Cl.enter (binds := [("bits", .ref l)]) ?k6u90 ?k7u90 ?k9u90 ?kBu90 ?kDu90 ?c2u90 ?c3u90 ?c4u90 ?c5u90 ?khu90; (case k6u90 => k_is); (case k7u90 => k_is); (case k9u90 => exact rfl); (case kBu90 => exact locs rfl); (case kDu90 => decide); (case c2u90 => exact rfl); (case c3u90 => exact rfl); (case c4u90 => exact rfl); (case c5u90 => decide); k_whole))
  intro outer R A₀ base g L h₁ tk₁ gs dr os Q E B F' N' X T hpre hd hu hP ret
  try dsimp only at hpre F'
  walk_at "M go"
  (refine go_on ?_; refine' m_range (fun _ => []) (fun (c : Int × Tok) => [("n", .int c.1 c.2), ("bits", .ref l)]) (fun i c => i ≤ ns.length ∧ c.1 = numL (ns.drop (ns.length - i))) (0, _) ns.length rfl (by assumption) ?hsmallu91 ?hnu91 (by assumption) (by assumption) ?hku91 ?_ ?_ ?_; (case hku91 => walk_at "M all"); (case hsmallu91 => first | exact small_one (by omega) (by omega) (by omega) (by omega) | exact small_down (by omega) (by omega) (by omega) (by omega)); (case hnu91 => first | exact (rangeSize_nat _ _).trans (by omega) | exact (rangeSize_downNat _ _).trans (by omega)))
  · exact ⟨Nat.zero_le _, by simp [numL]⟩
  · rintro i ⟨n1, t1⟩ t0 u1 h1 tk1 own hi hoff ⟨hil, hn1⟩ F1 N1
    dsimp only at hn1 F1 N1
    have hidx : (ns.length : Int) - 1 + (i : Int) * -1 = ((ns.length - (i + 1) : Nat) : Int) := by omega
    rw [hidx] at F1
    have hb := numL_bound (ns.drop (ns.length - i)) fun b hb => h01 b (List.mem_of_mem_drop hb)
    rw [← hn1, List.length_drop] at hb
    have hb2 : n1 < 18446744073709551616 := by
      have h1 := Nat.pow_le_pow_right (n := 2) (by decide) (show ns.length - (ns.length - i) ≤ 64 by omega)
      have h2 := kbt_cast (ns.length - (ns.length - i))
      omega
    have hb0 := hb.1
    have hilt : ((ns.length - (i + 1) : Nat) : Int) < (ns.length : Int) := by omega
    walk_at "M go"
    (refine go_on ?_; (rename News _ _ _ _ => nEx); (try simp only [List.push_toArray] at nEx); refine' f_end (_, _) (by assumption) nEx ?hnu92 ?hau92 ?hku92 ?_; (case hku92 => walk_at "M all"); (case hnu92 => first | exact fun p hp => hp | k_sub | skip); (case hau92 => first | exact rfl | skip))
    refine ⟨hi, ?_⟩
    show 2 * n1 + ns.getD ((ns.length - (i + 1) : Nat) : Int).toNat 0 = _
    rw [hn1, Int.toNat_natCast, numL_drop ns (ns.length - (i + 1)) (by omega), show ns.length - (i + 1) + 1 = ns.length - i by omega]
  · rintro ⟨n1, t1⟩ u1 h1 tk1 ⟨hil, hn1⟩ F1 N1
    dsimp only at hn1 F1 N1
    walk_at "M go"
    refine ret _ _ _ (by assumption) (by assumption) (rint_of ?_)
    rw [Nat.sub_self] at hn1
    exact hn1

example : True := by
  w_top off
  exact True.intro
/-! the same for a def whose own comprehensions capture names: these stand in cells -/
theorem code_keepC {prog : Program} {w : World} {A A₀ : Around} {s : Shared} {K : Frag} {base h₀ : Heap} {L : Addr} {m mg mb : Str → Option Value} {p : Program} {loose : List Str} {mean : ExcName → Option Value}
    {env : Env} {outer : List Env} {R : Result → Shared → Prop} {name : Str} {params : Arguments} {body : List Stmt} {scope : Scope} {doc pm cdv oc : Value} {od : Option Addr} {osl : Array (Option Value)} {f : Addr} {args : List Value} {binds : List (Str × Value)}
    (B : Below A₀ base outer h₀) (F : Fr h₀ L s.heap m) (X₀ : K.In h₀) (T : Top p loose mean mg mb h₀) (hA : A.frames = some (env :: outer)) (hf : env.frame = some L) (hke : env.scope.kind = .function)
    (ho : K.lookup f = some ⟨oc, od, .func (docDef name params body scope pm cdv doc), osl⟩) (hcd : codeIn K cdv name = true) (hroom : A.depth < recursionLimit)
    (hbind : bindArgs (docDef name params body scope pm cdv doc) ⟨args, []⟩ = pure binds) (hkind : (binds.all fun y => scope.names.lookup y.1 == some .local || scope.names.lookup y.1 == some .cell) = true)
    (hnd : ((cellsFrom 0 scope.names []).map (·.1)).Nodup)
    (h : ∀ g L' h₁ tk cells, s.heap = g → Fr g L' h₁ (bindL (envOfC name scope L' f cdv).kindOf binds fun _ => none) → News g L' h₁ cells →
      CellsAre (bindC (envOfC name scope L' f cdv).kindOf binds fun _ => none) (cellsFrom (L' + 1) scope.names []) cells → Below A base (env :: outer) g → K.In g → Top p loose mean mg mb g →
      wpAny (model prog w) (A.deeper (envOfC name scope L' f cdv)) (execs body (envOfC name scope L' f cdv))
        (fun fl s' => LeaveK h₀ L m g (fun r s' => g.StaysIn s'.heap → R r s') (match fl with | .ret v => v | _ => .none) s')
        (fun e s' => wpAny (model prog w) (A.deeper (envOfC name scope L' f cdv)) (leaving (envOfC name scope L' f cdv) e) (fun _ s'' => R (.error e) s'') (fun e' s'' => R (.error e') s'') s')
        { s with heap := h₁, toks := tk })
    (hco : scope.isCoroutine = false) (hgen : scope.isGenerator = false) (hk : scope.kind = .function) : codeAny (model prog w) A (.call (.ref f) ⟨args, []⟩) R s := by
  have N0 : News h₀ L s.heap [] := News.nil
  obtain ⟨_, BG, _, lv⟩ := groundX (R := fun r s' => s.heap.StaysIn s'.heap → R r s') B F N0 hA hf hke
  have BG' : Below A base (env :: outer) s.heap := BG
  refine call_cellsN hroom ((X₀.keeps F.keep) _ _ ho) rfl (T.nolimit.keeps F.keep) (codeRec_of (X₀.keeps F.keep) hcd) hbind (kindsX hkind _) hnd (fun h₁ tk cells F' N' Y => ?_) hco hgen hk
  refine wpAny_mono (h s.heap _ h₁ tk cells rfl F' N' Y BG' (X₀.keeps F.keep) (T.keeps F.keep)) (fun fl s' hl => ?_) fun _ _ y => y
  have st : s.heap.StaysIn s'.heap := by
    obtain ⟨L', m', news', F', N', k⟩ := hl
    exact F'.keep
  exact lv _ s' hl st
/-- the same of a def whose own comprehensions capture names -/
noncomputable def BodyC (w : World) (mean : ExcName → Option Value) (mg mb : Str → Option Value) (D : Nat) (pre : Heap → Prop) (post : Heap → Value → Heap → Prop) (name : Str) (scope : Scope) (f : Addr) (cdv : Value) (body : List Stmt) (binds : List (Str × Value)) : Prop :=
  ∀ (outer : List Env) (R A₀ : Around) (base g : Heap) (L : Addr) (h₁ : Heap) (tk : Nat) (cells : List (Addr × Obj)) (gs : Array GenState) (dr : Drawn) (os : OsState) (Q : Flow → Shared → Prop) (E : Value → Shared → Prop),
    Below A₀ base outer g → Fr g L h₁ (bindL (envOfC name scope L f cdv).kindOf binds fun _ => none) → News g L h₁ cells → CellsAre (bindC (envOfC name scope L f cdv).kindOf binds fun _ => none) (cellsFrom (L + 1) scope.names []) cells →
    Frag.In (hd.heap_1 w.params) g → Top hd.view_39 (looseW hd.view_39 []) mean mg mb g → pre g → R.depth + D ≤ recursionLimit → R.units + 8 * D < cLine + 3 →
    PassesOwn (model Challenge.rw_nt0423_01.row.prog w) (aTop (envOfC name scope L f cdv) outer R) (envOfC name scope L f cdv) E →
    (∀ {m' : Str → Option Value} {news' : List (Addr × Obj)} (v : Value) (h' : Heap) (tk' : Nat), Fr g L h' m' → News g L h' news' → post g v h' → Q (.ret v) ⟨h', gs, dr, tk', os⟩) →
    wpAny (model Challenge.rw_nt0423_01.row.prog w) (aTop (envOfC name scope L f cdv) outer R) (execs body (envOfC name scope L f cdv)) Q E ⟨h₁, gs, dr, tk, os⟩
theorem Cl.enterC {w : World} {mean : ExcName → Option Value} {mg mb : Str → Option Value} {f : Addr} {D : Nat} {vs : List Value} {pre : Heap → Prop} {post : Heap → Value → Heap → Prop}
    {name : Str} {params : Arguments} {body : List Stmt} {scope : Scope} {doc pm cdv oc : Value} {od : Option Addr} {osl : Array (Option Value)} {binds : List (Str × Value)}
    (ho : (hd.heap_1 w.params).lookup f = some ⟨oc, od, .func (docDef name params body scope pm cdv doc), osl⟩) (hcd : codeIn (hd.heap_1 w.params) cdv name = true)
    (hbind : bindArgs (docDef name params body scope pm cdv doc) ⟨vs, []⟩ = pure binds) (hkind : (binds.all fun y => scope.names.lookup y.1 == some .local || scope.names.lookup y.1 == some .cell) = true)
    (hnd : ((cellsFrom 0 scope.names []).map (·.1)).Nodup) (hD : 0 < D) (hco : scope.isCoroutine = false) (hgen : scope.isGenerator = false) (hk : scope.kind = .function)
    (h : BodyC w mean mg mb D pre post name scope f cdv body binds) : Cl w mean mg mb f D vs pre post := by
  intro env outer R A₀ base h₀ L m g gs dr tk os Q E B F X T hf hke hpre hd hu ret
  refine wpAny_call ?_
  refine code_keepC (binds := binds) B F X T rfl hf hke ho hcd (show R.depth < _ by omega) hbind hkind hnd (fun g' L' h₁ tk₁ cells hg F' N' Y B' X' T' => ?_) hco hgen hk
  subst hg
  refine wpAny_mono (h (env :: outer) ((aTop env outer R).deeper (envOfC name scope L' f cdv)) _ _ _ L' h₁ _ cells gs dr os _ _ B' F' N' Y X' T' hpre (show R.depth + 1 + D ≤ _ by omega) (show R.units + 3 + 8 * D < _ by omega) PassesOwn.leaving (fun {m' news'} v h' tk' F9 N9 hp => ?_)) (fun _ _ y => y) fun _ _ y => y
  refine leaveK_ F9 N9 fun F8 _ st => ?_
  exact ret v h' tk' F8 st hp

example : True := by
  w_top off
  exact True.intro
noncomputable def onK : List Int → Int → List Int
  | [], _ => []
  | a :: r, k => if a = 1 then k :: onK r (k + 1) else onK r (k + 1)
noncomputable def selK : List Int → List Int → List Int
  | a :: r, c :: q => if c = 1 then a :: selK r q else selK r q
  | _, _ => []
theorem getD_app (pre : List Int) (a : Int) (r : List Int) : (pre ++ a :: r).getD ((pre.length : Nat) : Int).toNat 0 = a := by
  rw [Int.toNat_natCast, List.getD_eq_getElem?_getD]; simp
theorem fold_on (x : List Int) (r : List Int) : ∀ (pre acc : List Int), x = pre ++ r →
    (rangeKs (pre.length : Int) r.length).foldl (fun l k => if x.getD k.toNat 0 = 1 then l ++ [k] else l) acc = acc ++ onK r (pre.length : Int) := by
  induction r with
  | nil => intro pre acc _; simp [rangeKs, onK]
  | cons a r ih =>
    intro pre acc h
    rw [List.length_cons, kll_cons, List.foldl_cons, show ((pre.length : Nat) : Int) + 1 = (((pre ++ [a]).length : Nat) : Int) by simp, ih (pre ++ [a]) _ (by simp [h])]
    have hg : x.getD ((pre.length : Nat) : Int).toNat 0 = a := by rw [h, getD_app]
    rw [hg, onK]
    split <;> simp
theorem fold_on' (x : List Int) (n : Nat) (h : x.length = n) : (rangeKs 0 n).foldl (fun l k => if x.getD k.toNat 0 = 1 then l ++ [k] else l) [] = onK x 0 := by
  subst h
  have := fold_on x x [] [] rfl
  simpa using this
theorem fold_sel (x m : List Int) (r : List Int) : ∀ (q pre prm acc : List Int), x = pre ++ r → m = prm ++ q → pre.length = prm.length → r.length = q.length →
    (rangeKs (pre.length : Int) r.length).foldl (fun l k => if m.getD k.toNat 0 = 1 then l ++ [x.getD k.toNat 0] else l) acc = acc ++ selK r q := by
  induction r with
  | nil => intro q pre prm acc _ _ _ hq; cases q with
    | nil => simp [rangeKs, selK]
    | cons c q => simp at hq
  | cons a r ih =>
    intro q pre prm acc h hm hp hq
    cases q with
    | nil => simp at hq
    | cons c q =>
      rw [List.length_cons, kll_cons, List.foldl_cons, show ((pre.length : Nat) : Int) + 1 = (((pre ++ [a]).length : Nat) : Int) by simp, ih q (pre ++ [a]) (prm ++ [c]) _ (by simp [h]) (by simp [hm]) (by simp [hp]) (by simpa using hq)]
      have hg : x.getD ((pre.length : Nat) : Int).toNat 0 = a := by rw [h, getD_app]
      have hg2 : m.getD ((pre.length : Nat) : Int).toNat 0 = c := by rw [hm, hp, getD_app]
      rw [hg, hg2, selK]
      split <;> simp
theorem fold_sel' (x m : List Int) (n : Nat) (h : x.length = n) (hm : m.length = n) : (rangeKs 0 n).foldl (fun l k => if m.getD k.toNat 0 = 1 then l ++ [x.getD k.toNat 0] else l) [] = selK x m := by
  subst h
  have := fold_sel x m x m [] [] [] rfl rfl rfl hm.symm
  simpa using this
theorem sqs_bits (n : Nat) : ∀ (b : Nat) (k : Int), b < 2 ^ n → sqs b k = onK (bitsL b n) k := by
  induction n with
  | zero => intro b k h; have : b = 0 := by simp at h; omega
            subst this; rw [sqs_zero]; rfl
  | succ n ih =>
    intro b k h
    rw [Nat.pow_succ] at h
    by_cases hb : b = 0
    · subst hb
      have := ih 0 (k + 1) (Nat.two_pow_pos n)
      rw [sqs_zero] at this ⊢
      simp [bitsL, onK, ← this]
    · rw [sqs, if_neg hb, bitsL, onK, ih (b / 2) (k + 1) (by omega)]
      rcases Nat.mod_two_eq_zero_or_one b with e | e <;> simp [e]
theorem bits_01 (n : Nat) : ∀ b, ∀ c ∈ bitsL b n, 0 ≤ c ∧ c ≤ 1 := by
  induction n with
  | zero => intro b c hc; cases hc
  | succ n ih =>
    intro b c hc
    rcases List.mem_cons.mp hc with rfl | hc
    · omega
    · exact ih _ _ hc
theorem numL_snoc (l : List Int) (a : Int) : numL (l ++ [a]) = numL l + 2 ^ l.length * a := by
  induction l with
  | nil => simp [numL]
  | cons c r ih =>
    show 2 * numL (r ++ [a]) + c = 2 * numL r + c + _
    rw [ih, List.length_cons, Int.pow_succ]
    rw [Int.mul_add, Int.mul_comm ((2 : Int) ^ r.length) 2, Int.mul_assoc]; omega
theorem rev_num (n : Nat) : ∀ (b o : Nat), ((revN n b o : Nat) : Int) = numL (bitsL b n).reverse + 2 ^ n * (o : Int) := by
  induction n with
  | zero => intro b o; simp [revN, bitsL, numL]
  | succ n ih =>
    intro b o
    rw [revN, ih, bitsL, List.reverse_cons, numL_snoc, List.length_reverse, bitsL_len, Int.pow_succ]
    have : (((2 * o + b % 2 : Nat)) : Int) = 2 * (o : Int) + ((b % 2 : Nat) : Int) := by omega
    rw [this, Int.mul_add, Int.mul_assoc]; omega

example : True := by
  w_top off
  exact True.intro
noncomputable def spL : List Int → List Int → List Int
  | _, [] => []
  | x, c :: q => if c = 1 then x.headD 0 :: spL x.tail q else 0 :: spL x q
theorem numL_cons (a : Int) (l : List Int) : numL (a :: l) = 2 * numL l + a := rfl
theorem split2 (m : Nat) : (m % 2 = 0 ∧ m = 2 * (m / 2)) ∨ (m % 2 = 1 ∧ m = 2 * (m / 2) + 1) := by omega
theorem num_sel (n : Nat) : ∀ b mk : Nat, mk < 2 ^ n → numL (selK (bitsL b n) (bitsL mk n)) = (ext b mk : Nat) := by
  induction n with
  | zero => intro b mk h; have : mk = 0 := by simp at h; omega
            subst this; rw [ext_zero]; rfl
  | succ n ih =>
    intro b mk h
    rw [Nat.pow_succ] at h
    have hi := ih (b / 2) (mk / 2) (by omega)
    rcases split2 mk with ⟨e, e2⟩ | ⟨e, e2⟩
    · rw [e2, ext_even, ← hi, ← e2]; simp [bitsL, selK, e]
    · rw [e2, ext_odd, ← e2]
      simp only [bitsL, selK, e]
      rw [if_pos (by decide), numL_cons, hi]; omega
theorem num_spread (n : Nat) : ∀ b mk j : Nat, mk < 2 ^ n → n ≤ j → numL (spL (bitsL b j) (bitsL mk n)) = (dep b mk : Nat) := by
  induction n with
  | zero => intro b mk j h _; have : mk = 0 := by simp at h; omega
            subst this; rw [dep_zero]; rfl
  | succ n ih =>
    intro b mk j h hj
    rw [Nat.pow_succ] at h
    rcases split2 mk with ⟨e, e2⟩ | ⟨e, e2⟩
    · have hi := ih b (mk / 2) j (by omega) (by omega)
      rw [e2, dep_even, ← e2]
      simp only [bitsL, spL, e]
      rw [if_neg (by decide), numL_cons, hi]; omega
    · obtain ⟨j, rfl⟩ : ∃ i, j = i + 1 := ⟨j - 1, by omega⟩
      have hi := ih (b / 2) (mk / 2) j (by omega) (by omega)
      rw [e2, dep_odd, ← e2]
      simp only [bitsL, spL, e, List.headD_cons, List.tail_cons]
      rw [if_pos (by decide), numL_cons, hi]; omega
noncomputable def mulL : List Int → List Int → List Int
  | a :: r, c :: q => a * c :: mulL r q
  | _, _ => []
theorem num_both (n : Nat) : ∀ b mk : Nat, mk < 2 ^ n → numL (mulL (bitsL b n) (bitsL mk n)) = (dep (ext b mk) mk : Nat) := by
  induction n with
  | zero => intro b mk h; have : mk = 0 := by simp at h; omega
            subst this; rw [dep_zero]; rfl
  | succ n ih =>
    intro b mk h
    rw [Nat.pow_succ] at h
    have hi := ih (b / 2) (mk / 2) (by omega)
    simp only [bitsL, mulL, numL_cons, hi]
    rcases split2 mk with ⟨e, e2⟩ | ⟨e, e2⟩
    · conv => rhs; rw [e2, ext_even, dep_even]
      rw [e]; simp
    · conv => rhs; rw [e2, ext_odd, dep_odd]
      rw [e, show (b % 2 + 2 * ext (b / 2) (mk / 2)) / 2 = ext (b / 2) (mk / 2) by omega]
      have : ((b % 2 : Nat) : Int) * ((1 : Nat) : Int) = ((b % 2 : Nat) : Int) := by simp
      rw [this]; omega
theorem num_take (n : Nat) : ∀ b k : Nat, k ≤ n → numL ((bitsL b n).take k) = ((b % 2 ^ k : Nat) : Int) := by
  induction n with
  | zero => intro b k h; have : k = 0 := by omega
            subst this; simp [numL, Nat.mod_one]
  | succ n ih =>
    intro b k h
    cases k with
    | zero => simp [numL, Nat.mod_one]
    | succ k =>
      rw [bitsL, List.take_succ_cons, numL_cons, ih (b / 2) k (by omega), Nat.pow_succ, Nat.mul_comm (2 ^ k) 2, Nat.mod_mul]
      omega
theorem map_mul (x m : List Int) (n : Nat) (h : x.length = n) (hm : m.length = n) : (rangeKs 0 n).map (fun k => x.getD k.toNat 0 * m.getD k.toNat 0) = mulL x m := by
  have key : ∀ (r q pre prm : List Int), x = pre ++ r → m = prm ++ q → pre.length = prm.length → r.length = q.length →
      (rangeKs (pre.length : Int) r.length).map (fun k => x.getD k.toNat 0 * m.getD k.toNat 0) = mulL r q := by
    intro r
    induction r with
    | nil => intro q pre prm _ _ _ hq; cases q with
      | nil => simp [rangeKs, mulL]
      | cons c q => simp at hq
    | cons a r ih =>
      intro q pre prm h hm hp hq
      cases q with
      | nil => simp at hq
      | cons c q =>
        rw [List.length_cons, kll_cons, List.map_cons, show ((pre.length : Nat) : Int) + 1 = (((pre ++ [a]).length : Nat) : Int) by simp, ih q (pre ++ [a]) (prm ++ [c]) (by simp [h]) (by simp [hm]) (by simp [hp]) (by simpa using hq)]
        have hg : x.getD ((pre.length : Nat) : Int).toNat 0 = a := by rw [h, getD_app]
        have hg2 : m.getD ((pre.length : Nat) : Int).toNat 0 = c := by rw [hm, hp, getD_app]
        rw [hg, hg2, mulL]
  subst h
  have := key x m [] [] rfl rfl rfl hm.symm
  simpa using this
noncomputable def cnt1 : List Int → Nat
  | [] => 0
  | c :: q => (if c = 1 then 1 else 0) + cnt1 q
theorem cnt_pc (n : Nat) : ∀ mk : Nat, mk < 2 ^ n → cnt1 (bitsL mk n) = pc mk := by
  induction n with
  | zero => intro mk h; have : mk = 0 := by simp at h; omega
            subst this; rw [pc_zero]; rfl
  | succ n ih =>
    intro mk h
    rw [Nat.pow_succ] at h
    have hi := ih (mk / 2) (by omega)
    simp only [bitsL, cnt1, hi]
    rcases split2 mk with ⟨e, e2⟩ | ⟨e, e2⟩
    · conv => rhs; rw [e2, pc_even]
      rw [e]; simp
    · conv => rhs; rw [e2, pc_odd]
      rw [e]; simp; omega
theorem cnt_len : ∀ l : List Int, cnt1 l ≤ l.length
  | [] => Nat.le_refl _
  | c :: q => by have := cnt_len q; simp only [cnt1, List.length_cons]; split <;> omega
theorem spL_len : ∀ (m x : List Int), (spL x m).length = m.length
  | [], _ => rfl
  | c :: q, x => by simp only [spL]; split <;> simp [spL_len q]
theorem spL_01 : ∀ (m x : List Int), (∀ a ∈ x, 0 ≤ a ∧ a ≤ 1) → ∀ a ∈ spL x m, 0 ≤ a ∧ a ≤ 1
  | [], _, _, a, ha => by cases ha
  | c :: q, x, hx, a, ha => by
    simp only [spL] at ha
    split at ha
    · rcases List.mem_cons.mp ha with rfl | ha
      · cases x with
        | nil => exact ⟨by decide, by decide⟩
        | cons b r => exact hx _ (.head _)
      · exact spL_01 q _ (fun b hb => hx b (List.mem_of_mem_tail hb)) a ha
    · rcases List.mem_cons.mp ha with rfl | ha
      · exact ⟨by decide, by decide⟩
      · exact spL_01 q x hx a ha
theorem selK_01 : ∀ (x m : List Int), (∀ a ∈ x, 0 ≤ a ∧ a ≤ 1) → ∀ a ∈ selK x m, 0 ≤ a ∧ a ≤ 1
  | [], _, _, a, ha => by cases ha
  | _ :: _, [], _, a, ha => by cases ha
  | b :: r, c :: q, hx, a, ha => by
    have hr := selK_01 r q fun d hd => hx d (.tail _ hd)
    simp only [selK] at ha
    split at ha
    · rcases List.mem_cons.mp ha with rfl | ha
      · exact hx _ (.head _)
      · exact hr a ha
    · exact hr a ha
theorem selK_len : ∀ (x m : List Int), (selK x m).length ≤ x.length
  | [], _ => Nat.zero_le _
  | _ :: _, [] => Nat.zero_le _
  | b :: r, c :: q => by have := selK_len r q; simp only [selK]; split <;> simp <;> omega
theorem mulL_len : ∀ (x m : List Int), (mulL x m).length ≤ x.length
  | [], _ => Nat.zero_le _
  | _ :: _, [] => Nat.zero_le _
  | b :: r, c :: q => by have := mulL_len r q; simp only [mulL, List.length_cons]; omega
theorem mulL_01 : ∀ (x m : List Int), (∀ a ∈ x, 0 ≤ a ∧ a ≤ 1) → (∀ a ∈ m, 0 ≤ a ∧ a ≤ 1) → ∀ a ∈ mulL x m, 0 ≤ a ∧ a ≤ 1
  | [], _, _, _, a, ha => by cases ha
  | _ :: _, [], _, _, a, ha => by cases ha
  | b :: r, c :: q, hx, hm, a, ha => by
    simp only [mulL] at ha
    rcases List.mem_cons.mp ha with rfl | ha
    · have h1 := hx _ (.head _)
      have h2 := hm _ (.head _)
      have : c = 0 ∨ c = 1 := by omega
      rcases this with rfl | rfl <;> simp <;> omega
    · exact mulL_01 r q (fun d hd => hx d (.tail _ hd)) (fun d hd => hm d (.tail _ hd)) a ha
theorem getD_01 (x : List Int) (h : ∀ a ∈ x, 0 ≤ a ∧ a ≤ 1) (k : Nat) : 0 ≤ x.getD k 0 ∧ x.getD k 0 ≤ 1 := by
  rw [List.getD_eq_getElem?_getD]
  cases e : x[k]? with
  | none => exact ⟨by decide, by decide⟩
  | some a => exact h a (List.mem_of_getElem? e)

example : True := by
  w_top off
  exact True.intro
example : True := by
  k_with "binaryOp Mult int int" => (k_here; (with_reducible refine mul_int ?_ (bit_mul _ _ _ _)))
  exact True.intro
theorem drop_get (x : List Int) (i : Nat) (h : i < x.length) : x.drop i = x.getD ((i : Int)).toNat 0 :: x.drop (i + 1) := by
  rw [List.drop_eq_getElem_cons h, List.getD_eq_getElem?_getD, Int.toNat_natCast, List.getElem?_eq_getElem h]; rfl
theorem bit_mul (b n k : Nat) (y : Int) : IntMulOk ((bitsL b n).getD k 0) y := by
  have := getD_01 _ (bits_01 n b) k
  exact .of_left (intBits_le_64 (by omega) (by omega))
set_option maxHeartbeats 4000000 in
theorem cl_lawspread {w : World} {mean : ExcName → Option Value} {mg mb : Str → Option Value} (b mk size : Nat) (xl ml : Addr) (vs ws : List Value) (hb : b < 2 ^ size) (hm : mk < 2 ^ size) (hs : 0 < size ∧ size ≤ 64) (I : IntsAre vs (bitsL b size)) (J : IntsAre ws (bitsL mk size)) (t1 t2 t5 : Tok) (x y : Int) (e : x = b) (e' : y = mk) :
    Cl w mean mg mb 285 12 [.int x t1, .int y t2, .ref xl, .ref ml, .int (size : Int) t5] (fun h => h.IsList xl vs.toArray ∧ h.IsList ml ws.toArray) (RBool true) := by
  subst e e'
  have hbl : (bitsL b size).length = size := bitsL_len _ _
  have hvl : vs.length = size := I.length.trans hbl
  have hml : (bitsL mk size).length = size := bitsL_len _ _
  have hwl : ws.length = size := J.length.trans hml
  obtain ⟨hs0, hs1⟩ := hs
  ( k_dflt (refine' Cl.enterC (binds := [("b", .int (b : Int) t1), ("mask", .int (mk : Int) t2), ("x", .ref xl), ("m", .ref ml), ("size", .int (size : Int) t5)]) ?k6u93 ?k7u93 ?k9u93 ?kBu93 ?kNu93 ?kDu93 ?c2u93 ?c3u93 ?c4u93 ?khu93; (case k6u93 => k_is); (case k7u93 => k_is); (case k9u93 => exact rfl); (case kBu93 => exact rfl); (case kNu93 => decide +kernel); (case kDu93 => decide); (case c2u93 => exact rfl); (case c3u93 => exact rfl); (case c4u93 => exact rfl); k_whole))
  intro outer R A₀ base g L h₁ tk₁ cells gs dr os Q E B F' N' Y' X T hpre hd hu hP ret
  try dsimp only at hpre
  k_cells Y'
  obtain ⟨hpx, hpm⟩ := hpre
  walk_at "M go"
  rename IntsAre _ (List.foldl _ _ _) => hI
  rw [fold_sel' (bitsL b size) (bitsL mk size) _ (by (try walk_at "M ne"); omega) (by (try walk_at "M ne"); omega)] at hI
  rename List.length _ = List.length (List.foldl _ _ _) => hL
  clear hL
  have hx01 := bits_01 size b
  (refine go_on ?_; refine' m_range2 (fun (c : (Int × Tok) × List Value × List Int × Nat) => c.2.1) (fun c => c.2.2.2) (fun lo g c => [("k", .int c.1.1 c.1.2), ("spread", .ref lo), ("gathered", .ref g), ("b", .int (b : Int) t1), ("mask", .int (mk : Int) t2), ("size", .int (size : Int) t5)]) (fun i c => IntsAre c.2.1 c.2.2.1 ∧ c.2.2.1.length = i ∧ ∃ k : Nat, c.1.1 = k ∧ k ≤ i ∧ k + cnt1 ((bitsL mk size).drop i) = pc mk ∧ c.2.2.1 ++ spL ((bitsL b size).drop k) ((bitsL mk size).drop i) = spL (bitsL b size) (bitsL mk size)) ((0, _), [], [], 0) size rfl (by assumption) ?hsmallu94 ?hnu94 (by assumption) (by assumption) ?hku94 ?_ ?_ ?_; (case hku94 => walk_at "M all"); (case hsmallu94 => first | exact small_one (by omega) (by omega) (by omega) (by omega) | exact small_down (by omega) (by omega) (by omega) (by omega)); (case hnu94 => first | exact (rangeSize_nat _ _).trans (by omega) | exact (rangeSize_downNat _ _).trans (by omega)))
  · exact ⟨.nil, rfl, 0, rfl, Nat.le_refl _, by rw [List.drop_zero, cnt_pc size mk hm]; omega, rfl⟩
  · rintro i ⟨⟨k1, tk1⟩, us, ns, cap⟩ t0 u1 h1 tkk own hi hoff ⟨I1, hl, k, hk1, hki, hcnt, hE⟩ F1 N1
    dsimp only at I1 hl hk1 hki hcnt hE F1 N1
    subst hk1
    rw [show (0 : Int) + (i : Int) * 1 = (i : Int) by omega] at F1
    have hsz : us.toArray.size ≤ sizeLine := by
      have h1 := I1.length
      rw [sizeLine_eq, List.size_toArray]; omega
    have hdm := drop_get (bitsL mk size) i (by (try walk_at "M ne"); omega)
    have hdx := drop_get (bitsL b size) k (by (try walk_at "M ne"); omega)
    rw [hdm] at hcnt hE
    clear hx01 hm hb
    walk_at "M go"
    · rename (bitsL mk size).getD _ 0 = 1 => hq
      rw [hq] at hcnt hE
      simp only [cnt1, spL, if_true] at hcnt hE
      rw [hdx] at hE
      (refine go_on ?_; (rename News _ _ _ _ => nEx); (try simp only [List.push_toArray] at nEx); refine' f_end ((_, _), us ++ [.int ((bitsL b size).getD (k : Int).toNat 0) _], ns ++ [(bitsL b size).getD (k : Int).toNat 0], cap + 1) (by assumption) nEx ?hnu95 ?hau95 ?hku95 ?_; (case hku95 => walk_at "M all"); (case hnu95 => first | exact fun p hp => hp | k_sub | skip); (case hau95 => first | exact rfl | skip))
      refine ⟨I1.append (.cons _ _ .nil), by simp [hl], k + 1, by show (k : Int) + 1 = _; omega, by omega, by omega, ?_⟩
      rw [← hE, List.append_assoc]; rfl
    · rename (bitsL mk size).getD _ 0 ≠ 1 => hq
      simp only [cnt1, spL, if_neg hq] at hcnt hE
      (refine go_on ?_; (rename News _ _ _ _ => nEx); (try simp only [List.push_toArray] at nEx); refine' f_end ((_, _), us ++ [.int 0 _], ns ++ [0], cap + 1) (by assumption) nEx ?hnu96 ?hau96 ?hku96 ?_; (case hku96 => walk_at "M all"); (case hnu96 => first | exact fun p hp => hp | k_sub | skip); (case hau96 => first | exact rfl | skip))
      refine ⟨I1.append (.cons _ _ .nil), by simp [hl], k, rfl, by omega, by omega, ?_⟩
      rw [← hE, List.append_assoc]; rfl
  · rintro ⟨⟨k1, tk1⟩, us, ns, cap⟩ u1 h1 tkk ⟨I1, hl, k, hk1, hki, hcnt, hE⟩ F1 N1
    dsimp only at I1 hl hk1 hki hcnt hE F1 N1
    subst hk1
    rw [List.drop_eq_nil_of_le (as := bitsL mk size) (by (try walk_at "M ne"); omega)] at hcnt hE
    rw [show spL ((bitsL b size).drop k) [] = [] from rfl, List.append_nil] at hE
    rw [show cnt1 [] = 0 from rfl, Nat.add_zero] at hcnt
    subst hE hcnt
    walk_at "M go"
    have hm64 : mk < 2 ^ 64 := Nat.lt_of_lt_of_le hm (Nat.pow_le_pow_right (by decide) hs1)
    (refine go_on ?_; k_dflt (refine' Cl.useI (cl_extract _ _ b mk rfl rfl hm64 _ _) ?k1u97 ?k2u97 ?k3u97 ?k4u97 ?k5u97 ?kAu97 ?kFu97 ?kEu97 ?kKu97 ?kpu97 ?kdu97 ?kuu97 ?_; ( (case k1u97 => first | k_asm | fail "the frames below"); (case k2u97 => first | k_asm | fail "the frame"); (case k3u97 => first | k_asm | fail "the written part"); (case k4u97 => first | k_asm | fail "the ledger"); (case k5u97 => first | k_asm | fail "the top's facts"); (case kAu97 => first | exact rfl | fail "the raised"); (case kFu97 => first | exact rfl | fail "the frames"); (case kEu97 => first | exact rfl | fail "the caller's frame"); (case kKu97 => first | exact rfl | assumption | fail "the caller is no def"); (case kpu97 => first | exact trivial | is_list | fail "the premise"); (case kdu97 => first | ktr_room | fail "the frames' room"); (case kuu97 => first | ktr_units | fail "the C units"))); intro t9x h9x tk9x F9x N9x; (try dsimp only); walk_at "M on")
    (refine go_on ?_; k_dflt (refine' Cl.useI (cl_number _ _ _ hI (by have := selK_len (bitsL b size) (bitsL mk size); (try walk_at "M ne"); omega) (selK_01 _ _ hx01)) ?k1u98 ?k2u98 ?k3u98 ?k4u98 ?k5u98 ?kAu98 ?kFu98 ?kEu98 ?kKu98 ?kpu98 ?kdu98 ?kuu98 ?_; ( (case k1u98 => first | k_asm | fail "the frames below"); (case k2u98 => first | k_asm | fail "the frame"); (case k3u98 => first | k_asm | fail "the written part"); (case k4u98 => first | k_asm | fail "the ledger"); (case k5u98 => first | k_asm | fail "the top's facts"); (case kAu98 => first | exact rfl | fail "the raised"); (case kFu98 => first | exact rfl | fail "the frames"); (case kEu98 => first | exact rfl | fail "the caller's frame"); (case kKu98 => first | exact rfl | assumption | fail "the caller is no def"); (case kpu98 => first | exact trivial | is_list | fail "the premise"); (case kdu98 => first | ktr_room | fail "the frames' room"); (case kuu98 => first | ktr_units | fail "the C units"))); intro t9x h9x tk9x F9x N9x; (try dsimp only); walk_at "M on")
    · exfalso
      rename _ ≠ numL _ => hq
      exact hq (num_sel size b mk hm).symm
    (refine go_on ?_; k_dflt (refine' Cl.useI (cl_deposit _ _ b mk rfl rfl _ _) ?k1u99 ?k2u99 ?k3u99 ?k4u99 ?k5u99 ?kAu99 ?kFu99 ?kEu99 ?kKu99 ?kpu99 ?kdu99 ?kuu99 ?_; ( (case k1u99 => first | k_asm | fail "the frames below"); (case k2u99 => first | k_asm | fail "the frame"); (case k3u99 => first | k_asm | fail "the written part"); (case k4u99 => first | k_asm | fail "the ledger"); (case k5u99 => first | k_asm | fail "the top's facts"); (case kAu99 => first | exact rfl | fail "the raised"); (case kFu99 => first | exact rfl | fail "the frames"); (case kEu99 => first | exact rfl | fail "the caller's frame"); (case kKu99 => first | exact rfl | assumption | fail "the caller is no def"); (case kpu99 => first | exact trivial | is_list | fail "the premise"); (case kdu99 => first | ktr_room | fail "the frames' room"); (case kuu99 => first | ktr_units | fail "the C units"))); intro t9x h9x tk9x F9x N9x; (try dsimp only); walk_at "M on")
    (rename News _ _ _ (_ :: _ :: _ :: _ :: _) => nS)
    have hLs := News.isList nS (List.Mem.head _)
    walk_at "M drop2"
    (refine go_on ?_; k_dflt (refine' Cl.useI (cl_number _ _ _ I1 (by (try walk_at "M ne"); omega) (spL_01 _ _ hx01)) ?k1u100 ?k2u100 ?k3u100 ?k4u100 ?k5u100 ?kAu100 ?kFu100 ?kEu100 ?kKu100 ?kpu100 ?kdu100 ?kuu100 ?_; ( (case k1u100 => first | k_asm | fail "the frames below"); (case k2u100 => first | k_asm | fail "the frame"); (case k3u100 => first | k_asm | fail "the written part"); (case k4u100 => first | k_asm | fail "the ledger"); (case k5u100 => first | k_asm | fail "the top's facts"); (case kAu100 => first | exact rfl | fail "the raised"); (case kFu100 => first | exact rfl | fail "the frames"); (case kEu100 => first | exact rfl | fail "the caller's frame"); (case kKu100 => first | exact rfl | assumption | fail "the caller is no def"); (case kpu100 => first | exact trivial | is_list | fail "the premise"); (case kdu100 => first | ktr_room | fail "the frames' room"); (case kuu100 => first | ktr_units | fail "the C units"))); intro t9x h9x tk9x F9x N9x; (try dsimp only); walk_at "M on")
    · exfalso
      rename _ ≠ numL _ => hq
      exact hq (num_spread size b mk size hm (Nat.le_refl _)).symm
    rename IntsAre _ (List.map _ _) => hJ
    rw [map_mul (bitsL b size) (bitsL mk size) _ (by (try walk_at "M ne"); omega) (by (try walk_at "M ne"); omega)] at hJ
    (refine go_on ?_; k_dflt (refine' Cl.useI (cl_extract _ _ b mk rfl rfl hm64 _ _) ?k1u101 ?k2u101 ?k3u101 ?k4u101 ?k5u101 ?kAu101 ?kFu101 ?kEu101 ?kKu101 ?kpu101 ?kdu101 ?kuu101 ?_; ( (case k1u101 => first | k_asm | fail "the frames below"); (case k2u101 => first | k_asm | fail "the frame"); (case k3u101 => first | k_asm | fail "the written part"); (case k4u101 => first | k_asm | fail "the ledger"); (case k5u101 => first | k_asm | fail "the top's facts"); (case kAu101 => first | exact rfl | fail "the raised"); (case kFu101 => first | exact rfl | fail "the frames"); (case kEu101 => first | exact rfl | fail "the caller's frame"); (case kKu101 => first | exact rfl | assumption | fail "the caller is no def"); (case kpu101 => first | exact trivial | is_list | fail "the premise"); (case kdu101 => first | ktr_room | fail "the frames' room"); (case kuu101 => first | ktr_units | fail "the C units"))); intro t9x h9x tk9x F9x N9x; (try dsimp only); walk_at "M on")
    (refine go_on ?_; k_dflt (refine' Cl.useI (cl_deposit _ _ (ext b mk) mk rfl rfl _ _) ?k1u102 ?k2u102 ?k3u102 ?k4u102 ?k5u102 ?kAu102 ?kFu102 ?kEu102 ?kKu102 ?kpu102 ?kdu102 ?kuu102 ?_; ( (case k1u102 => first | k_asm | fail "the frames below"); (case k2u102 => first | k_asm | fail "the frame"); (case k3u102 => first | k_asm | fail "the written part"); (case k4u102 => first | k_asm | fail "the ledger"); (case k5u102 => first | k_asm | fail "the top's facts"); (case kAu102 => first | exact rfl | fail "the raised"); (case kFu102 => first | exact rfl | fail "the frames"); (case kEu102 => first | exact rfl | fail "the caller's frame"); (case kKu102 => first | exact rfl | assumption | fail "the caller is no def"); (case kpu102 => first | exact trivial | is_list | fail "the premise"); (case kdu102 => first | ktr_room | fail "the frames' room"); (case kuu102 => first | ktr_units | fail "the C units"))); intro t9x h9x tk9x F9x N9x; (try dsimp only); walk_at "M on")
    (refine go_on ?_; k_dflt (refine' Cl.useI (cl_number _ _ _ hJ (by have := mulL_len (bitsL b size) (bitsL mk size); (try walk_at "M ne"); omega) (mulL_01 _ _ hx01 (bits_01 _ _))) ?k1u103 ?k2u103 ?k3u103 ?k4u103 ?k5u103 ?kAu103 ?kFu103 ?kEu103 ?kKu103 ?kpu103 ?kdu103 ?kuu103 ?_; ( (case k1u103 => first | k_asm | fail "the frames below"); (case k2u103 => first | k_asm | fail "the frame"); (case k3u103 => first | k_asm | fail "the written part"); (case k4u103 => first | k_asm | fail "the ledger"); (case k5u103 => first | k_asm | fail "the top's facts"); (case kAu103 => first | exact rfl | fail "the raised"); (case kFu103 => first | exact rfl | fail "the frames"); (case kEu103 => first | exact rfl | fail "the caller's frame"); (case kKu103 => first | exact rfl | assumption | fail "the caller is no def"); (case kpu103 => first | exact trivial | is_list | fail "the premise"); (case kdu103 => first | ktr_room | fail "the frames' room"); (case kuu103 => first | ktr_units | fail "the C units"))); intro t9x h9x tk9x F9x N9x; (try dsimp only); walk_at "M on")
    · exfalso
      rename _ ≠ numL _ => hq
      exact hq (num_both size b mk hm).symm
    (refine go_on ?_; k_dflt (refine' Cl.useI (cl_deposit _ _ b mk rfl rfl _ _) ?k1u104 ?k2u104 ?k3u104 ?k4u104 ?k5u104 ?kAu104 ?kFu104 ?kEu104 ?kKu104 ?kpu104 ?kdu104 ?kuu104 ?_; ( (case k1u104 => first | k_asm | fail "the frames below"); (case k2u104 => first | k_asm | fail "the frame"); (case k3u104 => first | k_asm | fail "the written part"); (case k4u104 => first | k_asm | fail "the ledger"); (case k5u104 => first | k_asm | fail "the top's facts"); (case kAu104 => first | exact rfl | fail "the raised"); (case kFu104 => first | exact rfl | fail "the frames"); (case kEu104 => first | exact rfl | fail "the caller's frame"); (case kKu104 => first | exact rfl | assumption | fail "the caller is no def"); (case kpu104 => first | exact trivial | is_list | fail "the premise"); (case kdu104 => first | ktr_room | fail "the frames' room"); (case kuu104 => first | ktr_units | fail "the C units"))); intro t9x h9x tk9x F9x N9x; (try dsimp only); walk_at "M on")
    (refine go_on ?_; k_dflt (refine' Cl.useI (cl_extract _ _ (dep b mk) mk rfl rfl hm64 _ _) ?k1u105 ?k2u105 ?k3u105 ?k4u105 ?k5u105 ?kAu105 ?kFu105 ?kEu105 ?kKu105 ?kpu105 ?kdu105 ?kuu105 ?_; ( (case k1u105 => first | k_asm | fail "the frames below"); (case k2u105 => first | k_asm | fail "the frame"); (case k3u105 => first | k_asm | fail "the written part"); (case k4u105 => first | k_asm | fail "the ledger"); (case k5u105 => first | k_asm | fail "the top's facts"); (case kAu105 => first | exact rfl | fail "the raised"); (case kFu105 => first | exact rfl | fail "the frames"); (case kEu105 => first | exact rfl | fail "the caller's frame"); (case kKu105 => first | exact rfl | assumption | fail "the caller is no def"); (case kpu105 => first | exact trivial | is_list | fail "the premise"); (case kdu105 => first | ktr_room | fail "the frames' room"); (case kuu105 => first | ktr_units | fail "the C units"))); intro t9x h9x tk9x F9x N9x; (try dsimp only); walk_at "M on")
    rename IntsAre _ (List.take _ _) => hT
    rw [Int.toNat_natCast] at hT
    (refine go_on ?_; k_dflt (refine' Cl.useI (cl_number _ _ _ hT (by rw [List.length_take]; (try walk_at "M ne"); omega) (fun c hc => hx01 c (List.mem_of_mem_take hc))) ?k1u106 ?k2u106 ?k3u106 ?k4u106 ?k5u106 ?kAu106 ?kFu106 ?kEu106 ?kKu106 ?kpu106 ?kdu106 ?kuu106 ?_; ( (case k1u106 => first | k_asm | fail "the frames below"); (case k2u106 => first | k_asm | fail "the frame"); (case k3u106 => first | k_asm | fail "the written part"); (case k4u106 => first | k_asm | fail "the ledger"); (case k5u106 => first | k_asm | fail "the top's facts"); (case kAu106 => first | exact rfl | fail "the raised"); (case kFu106 => first | exact rfl | fail "the frames"); (case kEu106 => first | exact rfl | fail "the caller's frame"); (case kKu106 => first | exact rfl | assumption | fail "the caller is no def"); (case kpu106 => first | exact trivial | is_list | fail "the premise"); (case kdu106 => first | ktr_room | fail "the frames' room"); (case kuu106 => first | ktr_units | fail "the C units"))); intro t9x h9x tk9x F9x N9x; (try dsimp only); walk_at "M on")
    refine ret _ _ _ (by assumption) (by assumption) (rbool_of ?_)
    rw [num_take size b _ hki, ext_dep]
    simp

example : True := by
  w_top off
  exact True.intro
theorem more_len (b : Nat) : decide (b &&& (b - 1) ≠ 0) = decide ((1 : Int) < ((sqs b 0).length : Nat)) := by
  rw [← pc_sqs]
  by_cases h : b = 0
  · subst h; rw [pc_zero]; decide
  · have h1 := pc_clear b h
    rw [Bool.eq_iff_iff]
    simp only [decide_eq_true_eq]
    by_cases h2 : b &&& (b - 1) = 0
    · rw [h2, pc_zero] at h1; omega
    · have := pc_pos h2
      have h3 : pc (b &&& (b - 1)) ≠ 0 := by
        intro h0
        rw [pc_sqs _ 0, List.length_eq_zero_iff] at h0
        have := sqs_last _ h2 0
        rw [h0] at this; cases this
      omega
theorem low_at (b : Nat) (h : 0 < (sqs b 0).length) : lowI b = (sqs b 0).getD (Int.toNat 0) 0 := by
  unfold lowI
  cases e : sqs b 0 with
  | nil => rw [e] at h; exact absurd h (by decide)
  | cons a r => rfl
theorem high_at (b : Nat) (h : 0 < (sqs b 0).length) : highI b = (sqs b 0).getD ((-1 : Int) + ((sqs b 0).length : Nat)).toNat 0 := by
  have hb : b ≠ 0 := by rintro rfl; rw [sqs_zero] at h; exact absurd h (by decide)
  have := sqs_last b hb 0
  rw [List.getLast?_eq_getElem?] at this
  rw [highI, if_neg hb, List.getD_eq_getElem?_getD, show ((-1 : Int) + ((sqs b 0).length : Nat)).toNat = (sqs b 0).length - 1 by omega, this]
  simp
theorem ends_none (b : Nat) (h : ¬ 0 < (sqs b 0).length) : lowI b = -1 ∧ highI b = -1 := by
  have e : sqs b 0 = [] := List.length_eq_zero_iff.mp (by omega)
  have hb : b = 0 := by
    rcases Nat.eq_zero_or_pos b with h | h
    · exact h
    · have := sqs_last b (by omega) 0
      rw [e] at this; cases this
  subst hb
  exact ⟨by rw [lowI, sqs_zero]; rfl, rfl⟩
theorem map_rev (x : List Int) (size n : Nat) (e : size = n) (h : x.length = n) : (rangeKs 0 n).map (fun k => x.getD ((size : Int) - 1 - k).toNat 0) = x.reverse := by
  subst h
  refine List.ext_getElem (by simp [rangeKs]) fun i h1 h2 => ?_
  have hi : i < x.length := by simpa [rangeKs] using h1
  have e : ((size : Int) - 1 - (0 + (i : Int))).toNat = x.length - 1 - i := by omega
  simp only [rangeKs, List.map_map, List.getElem_map, List.getElem_range, Function.comp, List.getElem_reverse]
  rw [e, List.getD_eq_getElem?_getD, List.getElem?_eq_getElem (by omega)]; rfl
set_option maxHeartbeats 4000000 in
theorem cl_lawcount {w : World} {mean : ExcName → Option Value} {mg mb : Str → Option Value} (b mk size : Nat) (xl ml : Addr) (vs : List Value) (hb : b < 2 ^ size) (hs : 0 < size ∧ size ≤ 64) (I : IntsAre vs (bitsL b size)) (t1 t2 t5 : Tok) (x y : Int) (e : x = b) :
    Cl w mean mg mb 280 12 [.int x t1, .int y t2, .ref xl, .ref ml, .int (size : Int) t5] (fun h => h.IsList xl vs.toArray) (RBool true) := by
  subst e
  have hbl : (bitsL b size).length = size := bitsL_len _ _
  have hvl : vs.length = size := I.length.trans hbl
  obtain ⟨hs0, hs1⟩ := hs
  ( k_dflt (refine' Cl.enterC (binds := [("b", .int (b : Int) t1), ("mask", .int y t2), ("x", .ref xl), ("m", .ref ml), ("size", .int (size : Int) t5)]) ?k6u108 ?k7u108 ?k9u108 ?kBu108 ?kNu108 ?kDu108 ?c2u108 ?c3u108 ?c4u108 ?khu108; (case k6u108 => k_is); (case k7u108 => k_is); (case k9u108 => exact rfl); (case kBu108 => exact rfl); (case kNu108 => decide +kernel); (case kDu108 => decide); (case c2u108 => exact rfl); (case c3u108 => exact rfl); (case c4u108 => exact rfl); k_whole))
  intro outer R A₀ base g L h₁ tk₁ cells gs dr os Q E B F' N' Y' X T hpre hd hu hP ret
  try dsimp only at hpre
  k_cells Y'
  walk_at "M go"
  have hb64 : b < 2 ^ 64 := Nat.lt_of_lt_of_le hb (Nat.pow_le_pow_right (by decide) hs1)
  have hfo := fold_on' (bitsL b size) ((size : Int) - 0).toNat (by (try walk_at "M ne"); omega)
  rw [← sqs_bits size b 0 hb] at hfo
  have hsl := sqs_len 64 b 0 hb64
  rename IntsAre _ (List.foldl _ _ _) => hI
  rename List.length _ = List.length (List.foldl _ _ _) => hL
  rw [hfo] at hI hL
  clear hfo
  (refine go_on ?_; k_dflt (refine' Cl.useB (cl_more _ _) ?k1u109 ?k2u109 ?k3u109 ?k4u109 ?k5u109 ?kAu109 ?kFu109 ?kEu109 ?kKu109 ?kpu109 ?kdu109 ?kuu109 ?_; ( (case k1u109 => first | k_asm | fail "the frames below"); (case k2u109 => first | k_asm | fail "the frame"); (case k3u109 => first | k_asm | fail "the written part"); (case k4u109 => first | k_asm | fail "the ledger"); (case k5u109 => first | k_asm | fail "the top's facts"); (case kAu109 => first | exact rfl | fail "the raised"); (case kFu109 => first | exact rfl | fail "the frames"); (case kEu109 => first | exact rfl | fail "the caller's frame"); (case kKu109 => first | exact rfl | assumption | fail "the caller is no def"); (case kpu109 => first | exact trivial | is_list | fail "the premise"); (case kdu109 => first | ktr_room | fail "the frames' room"); (case kuu109 => first | ktr_units | fail "the C units"))); intro h9x tk9x F9x N9x; (try dsimp only); walk_at "M on")
  · exfalso
    rename (_ != _) = true => hq
    rw [more_len, bne_self_eq_false] at hq
    cases hq
  have hpc := pc_sqs b 0
  (refine go_on ?_; k_dflt (refine' Cl.useI (cl_count_bits _ _) ?k1u110 ?k2u110 ?k3u110 ?k4u110 ?k5u110 ?kAu110 ?kFu110 ?kEu110 ?kKu110 ?kpu110 ?kdu110 ?kuu110 ?_; ( (case k1u110 => first | k_asm | fail "the frames below"); (case k2u110 => first | k_asm | fail "the frame"); (case k3u110 => first | k_asm | fail "the written part"); (case k4u110 => first | k_asm | fail "the ledger"); (case k5u110 => first | k_asm | fail "the top's facts"); (case kAu110 => first | exact rfl | fail "the raised"); (case kFu110 => first | exact rfl | fail "the frames"); (case kEu110 => first | exact rfl | fail "the caller's frame"); (case kKu110 => first | exact rfl | assumption | fail "the caller is no def"); (case kpu110 => first | exact trivial | is_list | fail "the premise"); (case kdu110 => first | ktr_room | fail "the frames' room"); (case kuu110 => first | ktr_units | fail "the C units"))); intro t9x h9x tk9x F9x N9x; (try dsimp only); walk_at "M on")
  · exfalso; omega
  (refine go_on ?_; k_dflt (refine' Cl.useL (cl_squares _ _ rfl hb64 _) ?k1u111 ?k2u111 ?k3u111 ?k4u111 ?k5u111 ?kAu111 ?kFu111 ?kEu111 ?kKu111 ?kpu111 ?kdu111 ?kuu111 ?_; ( (case k1u111 => first | k_asm | fail "the frames below"); (case k2u111 => first | k_asm | fail "the frame"); (case k3u111 => first | k_asm | fail "the written part"); (case k4u111 => first | k_asm | fail "the ledger"); (case k5u111 => first | k_asm | fail "the top's facts"); (case kAu111 => first | exact rfl | fail "the raised"); (case kFu111 => first | exact rfl | fail "the frames"); (case kEu111 => first | exact rfl | fail "the caller's frame"); (case kKu111 => first | exact rfl | assumption | fail "the caller is no def"); (case kpu111 => first | exact trivial | is_list | fail "the premise"); (case kdu111 => first | ktr_room | fail "the frames' room"); (case kuu111 => first | ktr_units | fail "the C units"))); intro l9x vs9x n9x h9x tk9x I9x F9x N9x O9x; (try dsimp only); walk_at "M on")
  rotate_left 2
  · exfalso; rename ¬ sqs b 0 = _ => hq; exact hq rfl
  all_goals (refine go_on ?_; k_dflt (refine' Cl.useI (cl_lowest _ _ rfl hb64 _) ?k1u112 ?k2u112 ?k3u112 ?k4u112 ?k5u112 ?kAu112 ?kFu112 ?kEu112 ?kKu112 ?kpu112 ?kdu112 ?kuu112 ?_; ( (case k1u112 => first | k_asm | fail "the frames below"); (case k2u112 => first | k_asm | fail "the frame"); (case k3u112 => first | k_asm | fail "the written part"); (case k4u112 => first | k_asm | fail "the ledger"); (case k5u112 => first | k_asm | fail "the top's facts"); (case kAu112 => first | exact rfl | fail "the raised"); (case kFu112 => first | exact rfl | fail "the frames"); (case kEu112 => first | exact rfl | fail "the caller's frame"); (case kKu112 => first | exact rfl | assumption | fail "the caller is no def"); (case kpu112 => first | exact trivial | is_list | fail "the premise"); (case kdu112 => first | ktr_room | fail "the frames' room"); (case kuu112 => first | ktr_units | fail "the C units"))); intro t9x h9x tk9x F9x N9x; (try dsimp only); walk_at "M on")
  all_goals (refine go_on ?_; k_dflt (refine' Cl.useI (cl_highest _ _ rfl hb64 _) ?k1u113 ?k2u113 ?k3u113 ?k4u113 ?k5u113 ?kAu113 ?kFu113 ?kEu113 ?kKu113 ?kpu113 ?kdu113 ?kuu113 ?_; ( (case k1u113 => first | k_asm | fail "the frames below"); (case k2u113 => first | k_asm | fail "the frame"); (case k3u113 => first | k_asm | fail "the written part"); (case k4u113 => first | k_asm | fail "the ledger"); (case k5u113 => first | k_asm | fail "the top's facts"); (case kAu113 => first | exact rfl | fail "the raised"); (case kFu113 => first | exact rfl | fail "the frames"); (case kEu113 => first | exact rfl | fail "the caller's frame"); (case kKu113 => first | exact rfl | assumption | fail "the caller is no def"); (case kpu113 => first | exact trivial | is_list | fail "the premise"); (case kdu113 => first | ktr_room | fail "the frames' room"); (case kuu113 => first | ktr_units | fail "the C units"))); intro t9x h9x tk9x F9x N9x; (try dsimp only); walk_at "M on")
  rotate_left 1
  · exfalso
    rename ¬ [lowI b, highI b] = _ => hq
    rename 0 < (sqs b 0).length => hp
    exact hq (by rw [low_at b hp, high_at b hp])
  rotate_left 1
  · exfalso
    rename ¬ [lowI b, highI b] = _ => hq
    rename ¬ 0 < (sqs b 0).length => hp
    have := ends_none b hp
    exact hq (by rw [this.1, this.2])
  all_goals walk_at "M drop2"
  all_goals (refine go_on ?_; k_dflt (refine' Cl.useI (cl_reverse _ _ _ rfl hs1 _ _) ?k1u114 ?k2u114 ?k3u114 ?k4u114 ?k5u114 ?kAu114 ?kFu114 ?kEu114 ?kKu114 ?kpu114 ?kdu114 ?kuu114 ?_; ( (case k1u114 => first | k_asm | fail "the frames below"); (case k2u114 => first | k_asm | fail "the frame"); (case k3u114 => first | k_asm | fail "the written part"); (case k4u114 => first | k_asm | fail "the ledger"); (case k5u114 => first | k_asm | fail "the top's facts"); (case kAu114 => first | exact rfl | fail "the raised"); (case kFu114 => first | exact rfl | fail "the frames"); (case kEu114 => first | exact rfl | fail "the caller's frame"); (case kKu114 => first | exact rfl | assumption | fail "the caller is no def"); (case kpu114 => first | exact trivial | is_list | fail "the premise"); (case kdu114 => first | ktr_room | fail "the frames' room"); (case kuu114 => first | ktr_units | fail "the C units"))); intro t9x h9x tk9x F9x N9x; (try dsimp only); walk_at "M on")
  all_goals
    rename IntsAre _ (List.map _ _) => hJ
    rw [map_rev (bitsL b size) size _ (by (try walk_at "M ne"); omega) (by (try walk_at "M ne"); omega)] at hJ
    (refine go_on ?_; k_dflt (refine' Cl.useI (cl_number _ _ _ hJ (by rw [List.length_reverse]; (try walk_at "M ne"); omega) (fun c hc => bits_01 _ _ c (List.mem_reverse.mp hc))) ?k1u115 ?k2u115 ?k3u115 ?k4u115 ?k5u115 ?kAu115 ?kFu115 ?kEu115 ?kKu115 ?kpu115 ?kdu115 ?kuu115 ?_; ( (case k1u115 => first | k_asm | fail "the frames below"); (case k2u115 => first | k_asm | fail "the frame"); (case k3u115 => first | k_asm | fail "the written part"); (case k4u115 => first | k_asm | fail "the ledger"); (case k5u115 => first | k_asm | fail "the top's facts"); (case kAu115 => first | exact rfl | fail "the raised"); (case kFu115 => first | exact rfl | fail "the frames"); (case kEu115 => first | exact rfl | fail "the caller's frame"); (case kKu115 => first | exact rfl | assumption | fail "the caller is no def"); (case kpu115 => first | exact trivial | is_list | fail "the premise"); (case kdu115 => first | ktr_room | fail "the frames' room"); (case kuu115 => first | ktr_units | fail "the C units"))); intro t9x h9x tk9x F9x N9x; (try dsimp only); walk_at "M on")
  all_goals
    refine ret _ _ _ (by assumption) (by assumption) (rbool_of ?_)
    rw [rev_num]
    simp

example : True := by
  w_top off
  exact True.intro
noncomputable def sumP : Nat → List Int → Int
  | _, [] => 0
  | n, p :: r => ((n % 2 : Nat) : Int) * 2 ^ p.toNat + sumP (n / 2) r
theorem sqs_next (k a : Nat) : sqs (2 ^ k * (2 * a + 1)) 0 = (k : Int) :: sqs (2 ^ k * (2 * a)) 0 := by
  have key : ∀ (k : Nat) (s : Int), sqs (2 ^ k * (2 * a)) s = sqs a (s + k + 1) := by
    intro k
    induction k with
    | zero => intro s; simp only [Nat.pow_zero, Nat.one_mul]; rw [sqs_even]; simp
    | succ k ih =>
      intro s
      rw [Nat.pow_succ, Nat.mul_comm (2 ^ k) 2, Nat.mul_assoc, sqs_even, ih]
      congr 1; omega
  rw [sqs_low, key]; simp
theorem dep_sum (m : Nat) : ∀ n, ((dep n m : Nat) : Int) = sumP n (sqs m 0) := by
  induction m using Nat.strongRecOn with
  | ind m ih =>
    intro n
    by_cases h : m = 0
    · subst h; rw [dep_zero, sqs_zero]; rfl
    · obtain ⟨k, a, rfl⟩ := low_split m h
      have hlt : 2 ^ k * (2 * a) < 2 ^ k * (2 * a + 1) := (Nat.mul_lt_mul_left (Nat.two_pow_pos k)).mpr (by omega)
      rw [dep_low, sqs_next, sumP, ← ih _ hlt, Int.natCast_add, Int.natCast_mul, kbt_cast, Int.toNat_natCast]
theorem drop_ex (d : Nat) : ∀ m : Nat, ∃ M, sqs M 0 = (sqs m 0).drop d ∧ M ≤ m := by
  induction d with
  | zero => intro m; exact ⟨m, rfl, Nat.le_refl _⟩
  | succ d ih =>
    intro m
    by_cases h : m = 0
    · subst h; exact ⟨0, by rw [sqs_zero]; rfl, Nat.le_refl _⟩
    · obtain ⟨k, a, rfl⟩ := low_split m h
      obtain ⟨M, h1, h2⟩ := ih (2 ^ k * (2 * a))
      refine ⟨M, by rw [h1, sqs_next]; rfl, Nat.le_trans h2 (Nat.mul_le_mul_left _ (by omega))⟩
theorem sqs_range (n : Nat) : ∀ (m : Nat) (s : Int), m < 2 ^ n → ∀ p ∈ sqs m s, s ≤ p ∧ p < s + n := by
  induction n with
  | zero => intro m s h p hp; have : m = 0 := by simp at h; omega
            subst this; rw [sqs_zero] at hp; cases hp
  | succ n ih =>
    intro m s h p hp
    rw [Nat.pow_succ] at h
    rw [sqs] at hp
    split at hp
    · cases hp
    · split at hp
      · rcases List.mem_cons.mp hp with rfl | hp
        · omega
        · have := ih (m / 2) (s + 1) (by omega) p hp; omega
      · have := ih (m / 2) (s + 1) (by omega) p hp; omega
theorem sumP_step (n j : Nat) (l : List Int) (h : j < l.length) : sumP (n / 2 ^ j) (l.drop j) = ((n / 2 ^ j % 2 : Nat) : Int) * 2 ^ (l.getD ((j : Nat) : Int).toNat 0).toNat + sumP (n / 2 ^ (j + 1)) (l.drop (j + 1)) := by
  rw [List.drop_eq_getElem_cons h, sumP, Int.toNat_natCast, List.getD_eq_getElem?_getD, List.getElem?_eq_getElem h, Nat.div_div_eq_div_mul, Nat.pow_succ]
  rfl
theorem dep_full (m : Nat) : dep (2 ^ pc m - 1) m = m := by
  induction m using half_ind with
  | h0 => exact dep_zero _
  | h1 m _ ih => rw [dep_even, pc_even, ih]
  | h2 m ih =>
    have hp := Nat.two_pow_pos (pc m)
    rw [dep_odd, pc_odd, Nat.pow_succ, show (2 ^ pc m * 2 - 1) % 2 = 1 by omega, show (2 ^ pc m * 2 - 1) / 2 = 2 ^ pc m - 1 by omega, ih]; omega
theorem subL_last (m : Nat) : (subL m (2 ^ pc m)).getD ((-1 : Int) + ((subL m (2 ^ pc m)).length : Nat)).toNat 0 = m := by
  have hp := Nat.two_pow_pos (pc m)
  rw [subL_len, show ((-1 : Int) + ((2 ^ pc m : Nat) : Int)).toNat = 2 ^ pc m - 1 by omega, List.getD_eq_getElem?_getD, List.getElem?_eq_getElem (by rw [subL_len]; omega)]
  simp only [subL, List.getElem_map, List.getElem_range]
  rw [dep_full]; rfl

example : True := by
  w_top off
  exact True.intro
set_option maxHeartbeats 4000000 in
theorem cl_lawsubsets {w : World} {mean : ExcName → Option Value} {mg mb : Str → Option Value} (mk size : Nat) (ml : Addr) (ws : List Value) (hm : mk < 2 ^ size) (hs : 0 < size ∧ size ≤ 64) (J : IntsAre ws (bitsL mk size)) (t5 : Tok) :
    Cl w mean mg mb 290 12 [.ref ml, .int (size : Int) t5] (fun h => h.IsList ml ws.toArray) (RBool true) := by
  have hml : (bitsL mk size).length = size := bitsL_len _ _
  have hwl : ws.length = size := J.length.trans hml
  obtain ⟨hs0, hs1⟩ := hs
  ( k_dflt (refine' Cl.enterC (binds := [("m", .ref ml), ("size", .int (size : Int) t5)]) ?k6u116 ?k7u116 ?k9u116 ?kBu116 ?kNu116 ?kDu116 ?c2u116 ?c3u116 ?c4u116 ?khu116; (case k6u116 => k_is); (case k7u116 => k_is); (case k9u116 => exact rfl); (case kBu116 => exact rfl); (case kNu116 => decide +kernel); (case kDu116 => decide); (case c2u116 => exact rfl); (case c3u116 => exact rfl); (case c4u116 => exact rfl); k_whole))
  intro outer R A₀ base g L h₁ tk₁ cells gs dr os Q E B F' N' Y' X T hpre hd hu hP ret
  try dsimp only at hpre
  k_cells Y'
  walk_at "M go"
  have hfo := fold_on' (bitsL mk size) ((size : Int) - 0).toNat (by (try walk_at "M ne"); omega)
  rw [← sqs_bits size mk 0 hm] at hfo
  rename IntsAre _ (List.drop _ _) => hI
  rename IsRange _ _ _ _ _ _ _ _ => hR
  rename List.length _ = List.length (List.foldl _ _ _) => hz1
  rename IntsAre _ (List.foldl _ _ _) => hz2
  rename List.length (List.drop _ _) ≤ _ => hz3
  rename List.length (List.drop _ _) = _ => hz4
  clear hz1 hz2 hz3 hz4
  rw [hfo] at hI hR
  clear hfo
  obtain ⟨M, hM, hMm⟩ := drop_ex ((sqs mk 0).length - 4) mk
  have hsl := sqs_len size mk 0 hm
  have hpl := pc_sqs M 0
  have hlen : (sqs M 0).length ≤ 4 := by rw [hM, List.length_drop]; omega
  have hrg := sqs_range size M 0 (by (try walk_at "M ne"); omega)
  rw [← hM] at hI hR
  rw [Int.toNat_natCast, ← hpl, ← kbt_cast] at hR
  have hk16 : 2 ^ pc M ≤ 16 := Nat.pow_le_pow_right (j := 4) (by decide) (by (try walk_at "M ne"); omega)
  clear hm hM hMm
  obtain ⟨NN, hNN⟩ : ∃ n, 2 ^ pc M = n := ⟨_, rfl⟩
  rw [hNN] at hR hk16
  (refine go_on ?_; refine' m_range2 (fun (c : List Value × List Int × Nat) => c.1) (fun c => c.2.2) (fun lo g c => [("want", .ref lo), ("places", .ref g)]) (fun i c => IntsAre c.1 c.2.1 ∧ c.2.1 = subL M i) ([], [], 0) NN rfl (by assumption) ?hsmallu117 ?hnu117 (by assumption) (by assumption) ?hku117 ?_ ?_ ?_; (case hku117 => walk_at "M all"); (case hsmallu117 => first | exact small_one (by omega) (by omega) (by omega) (by omega) | exact small_down (by omega) (by omega) (by omega) (by omega)); (case hnu117 => first | exact (rangeSize_nat _ _).trans (by omega) | exact (rangeSize_downNat _ _).trans (by omega)))
  · exact ⟨.nil, rfl⟩
  · rintro i ⟨us, ns, cap⟩ t0 u1 h1 tkk own hi hoff ⟨I1, hns⟩ F1 N1
    dsimp only at I1 hns F1 N1
    subst hns
    rw [show (0 : Int) + (i : Int) * 1 = (i : Int) by omega] at F1
    have hsz : us.toArray.size ≤ sizeLine := by
      have h1 := I1.length
      rw [subL_len] at h1
      rw [sizeLine_eq, List.size_toArray]; omega
    walk_at "M go"
    (refine go_on ?_; refine' m_rangeK2 (fun lo g (c : Int × Tok) => [("total", .int c.1 c.2), ("n", .int (i : Int) t0), ("want", .ref lo), ("places", .ref g)]) (fun j c => c.1 + sumP (i / 2 ^ j) ((sqs M 0).drop j) = dep i M) (0, _) ((sqs M 0).length) rfl (by assumption) ?hsmallu118 ?hnu118 (by assumption) (by assumption) ?hku118 ?_ ?_ ?_; (case hku118 => walk_at "M all"); (case hsmallu118 => first | exact small_one (by omega) (by omega) (by omega) (by omega) | exact small_down (by omega) (by omega) (by omega) (by omega)); (case hnu118 => first | exact (rangeSize_nat _ _).trans (by omega) | exact (rangeSize_downNat _ _).trans (by omega)))
    · rw [dep_sum]; simp
    · rintro j ⟨tot, t6⟩ t7 u2 h2 tk2 own2 hj hoff2 hP F2 N2
      dsimp only at hP F2 N2
      rw [show (0 : Int) + (j : Int) * 1 = (j : Int) by omega] at F2
      rw [sumP_step i j _ hj] at hP
      have hpl2 : 0 ≤ (sqs M 0).getD ((j : Nat) : Int).toNat 0 ∧ (sqs M 0).getD ((j : Nat) : Int).toNat 0 < size := by
        rw [Int.toNat_natCast, List.getD_eq_getElem?_getD, List.getElem?_eq_getElem hj]
        have := hrg _ (List.getElem_mem hj)
        exact ⟨this.1, by have := this.2; simpa using this⟩
      have e1 : ((i : Int).fdiv (2 ^ (j : Int).toNat)).fmod 2 = ((i / 2 ^ j % 2 : Nat) : Int) := by rw [Int.toNat_natCast, shr_nat, fmod2]
      walk_at "M go"
      (refine go_on ?_; (rename News _ _ _ _ => nEx); (try simp only [List.push_toArray] at nEx); refine' f_end (_, _) (by assumption) nEx ?hnu119 ?hau119 ?hku119 ?_; (case hku119 => walk_at "M all"); (case hnu119 => first | exact fun p hp => hp | k_sub | skip); (case hau119 => first | exact rfl | skip))
      show tot + ((i : Int).fdiv (2 ^ (j : Int).toNat)).fmod 2 * _ + _ = _
      rw [← hP, e1, Int.add_assoc]
    · rintro ⟨tot, t6⟩ u2 h2 tk2 hP F2 N2
      dsimp only at hP F2 N2
      rw [List.drop_length, show sumP (i / 2 ^ (sqs M 0).length) [] = 0 from rfl, Int.add_zero] at hP
      subst hP
      walk_at "M go"
      (refine go_on ?_; (rename News _ _ _ _ => nEx); (try simp only [List.push_toArray] at nEx); refine' f_end (us ++ [.int (dep i M : Nat) t6], subL M (i + 1), cap + 1) (by assumption) nEx ?hnu120 ?hau120 ?hku120 ?_; (case hku120 => walk_at "M all"); (case hnu120 => first | exact fun p hp => hp | k_sub | skip); (case hau120 => first | exact rfl | skip))
      exact ⟨by rw [subL_succ]; exact I1.append (.cons _ _ .nil), rfl⟩
  · rintro ⟨us, ns, cap⟩ u1 h1 tkk ⟨I1, hns⟩ F1 N1
    dsimp only at I1 hns F1 N1
    subst hns
    have hll := subL_len M NN
    have hlo := subL_last M
    rw [hNN] at hlo
    have hNp : 0 < NN := by rw [← hNN]; exact Nat.two_pow_pos _
    walk_at "M go"
    (refine go_on ?_; k_dflt (refine' Cl.useL (cl_subsets _ M hlo (by (try walk_at "M ne"); omega) _) ?k1u121 ?k2u121 ?k3u121 ?k4u121 ?k5u121 ?kAu121 ?kFu121 ?kEu121 ?kKu121 ?kpu121 ?kdu121 ?kuu121 ?_; ( (case k1u121 => first | k_asm | fail "the frames below"); (case k2u121 => first | k_asm | fail "the frame"); (case k3u121 => first | k_asm | fail "the written part"); (case k4u121 => first | k_asm | fail "the ledger"); (case k5u121 => first | k_asm | fail "the top's facts"); (case kAu121 => first | exact rfl | fail "the raised"); (case kFu121 => first | exact rfl | fail "the frames"); (case kEu121 => first | exact rfl | fail "the caller's frame"); (case kKu121 => first | exact rfl | assumption | fail "the caller is no def"); (case kpu121 => first | exact trivial | is_list | fail "the premise"); (case kdu121 => first | ktr_room | fail "the frames' room"); (case kuu121 => first | ktr_units | fail "the C units"))); intro l9x vs9x n9x h9x tk9x I9x F9x N9x O9x; (try dsimp only); walk_at "M on")
    refine ret _ _ _ (by assumption) (by assumption) (rbool_of ?_)
    rw [hNN]; simp

example : True := by
  w_top off
  exact True.intro
/-! the tokens' count generalized by a lemma: the library's generalize looks at every sum in the goal and may not end -/
theorem gen_toks {M : Model} {A : Around} {α : Type} {t : Sem α} {Q : α → Shared → Prop} {E : Value → Shared → Prop} {h g d o} {n : Nat}
    (H : ∀ tk : Nat, wpAny M A t Q E { heap := h, gens := g, drawn := d, toks := tk, os := o }) : wpAny M A t Q E { heap := h, gens := g, drawn := d, toks := n, os := o } := H n

example : True := by
  w_top off
  exact True.intro
/-! the picture: rows of signs, glued -/
noncomputable def rowP (f : Nat → Bool) (k : Nat) : Str := ⟨((List.range k).map fun c => if f c then 88 else 46).toArray⟩
theorem rowP_len (f : Nat → Bool) (k : Nat) : (rowP f k).length = k := by
  show (rowP f k).cps.size = k
  simp [rowP]
theorem rowP_succ (f : Nat → Bool) (k : Nat) : rowP f (k + 1) = rowP f k ++ (if f k then Str.ofString "X" else Str.ofString ".") := by
  show _ = Str.mk _
  simp only [rowP, List.range_succ, List.map_append, List.map_cons, List.map_nil]
  congr 1
  split
  · rw [show (Str.ofString "X").cps = #[88] by decide +kernel]; simp
  · rw [show (Str.ofString ".").cps = #[46] by decide +kernel]; simp
theorem glued_snoc (sep y : Str) (l : List Str) (h : l ≠ []) : Txt.join sep (l ++ [y]) = Txt.join sep l ++ sep ++ y := by
  cases l with
  | nil => exact absurd rfl h
  | cons a r => simp only [Txt.join, Builtin.Str.glued, List.cons_append, List.drop_succ_cons, List.drop_zero, List.foldl_append, List.foldl_cons, List.foldl_nil, List.headD_cons]; rfl
noncomputable def bitAt (b : Nat) (i : Nat) : Bool := b / 2 ^ i % 2 == 1
noncomputable def picR (b files ranks : Nat) (i : Nat) : Str := rowP (fun c => bitAt b ((ranks - 1 - i) * files + c)) files
noncomputable def picL (b files ranks k : Nat) : List Str := (List.range k).map (picR b files ranks)
theorem picL_succ (b files ranks k : Nat) : picL b files ranks (k + 1) = picL b files ranks k ++ [picR b files ranks k] := by simp [picL, List.range_succ]
theorem picL_len (b files ranks k : Nat) : (picL b files ranks k).length = k := by simp [picL]
theorem picL_sum (b files ranks k : Nat) : ((picL b files ranks k).map (·.length)).sum = k * files := by
  induction k with
  | zero => simp [picL]
  | succ k ih => rw [picL_succ, List.map_append, List.sum_append, ih]; simp [picR, rowP_len, Nat.succ_mul]
theorem bits_at (n : Nat) : ∀ (b i : Nat), i < n → (bitsL b n).getD i 0 = ((b / 2 ^ i % 2 : Nat) : Int) := by
  induction n with
  | zero => intro b i h; omega
  | succ n ih =>
    intro b i h
    cases i with
    | zero => simp [bitsL]
    | succ i =>
      have := ih (b / 2) i (by omega)
      rw [bitsL, List.getD_cons_succ, this, Nat.div_div_eq_div_mul, Nat.pow_succ, Nat.mul_comm 2]
section
variable {prog : Program} {w : World} {A : Around} {E : Value → Shared → Prop} {s : Shared} {env : Env} {h₀ : Heap} {x : Str} {body : List Stmt} {Q : Flow → Shared → Prop}
/-! the ledger stands still; its first address goes to the names -/
theorem m_rangeK1 {σ : Type} {r lo : Addr} {ox : Obj} {rest : List (Addr × Obj)} {a₀ b₀ st : Int} {t₀ u₀ v₀ : Tok} {m₀ : Str → Option Value} (ps : Addr → σ → List (Str × Value)) (P : Nat → σ → Prop) (c₀ : σ) (n : Nat)
    (hh : A.handled = none) (hr : IsRange s.heap r a₀ b₀ st t₀ u₀ v₀) (hsmall : Builtin.Range.small a₀ b₀ st = true) (hn : Builtin.Range.rangeSize a₀ b₀ st = (n : Int)) (F : Fr h₀ env.locals s.heap m₀) (N : News h₀ env.locals s.heap ((lo, ox) :: rest)) (hk : ∀ p ∈ ps lo c₀, m₀ p.1 = some p.2) (hp : P 0 c₀)
    (turn : ∀ (i : Nat) (c : σ) t (u : Str → Option Value) h tk own, i < n → OwnOff own (((lo, ox) :: rest).map (·.1)) → P i c →
      Fr h₀ env.locals h (kstB u ((x, .int (a₀ + i * st) t) :: ps lo c)) → News h₀ env.locals h (((lo, ox) :: rest) ++ own) →
      wpAny (model prog w) A (execs body env) (FPost h₀ env.locals { s with heap := h, toks := tk } (fun _ : σ => (lo, ox) :: rest) (ps lo) (P (i + 1)) own (((lo, ox) :: rest).map (·.1)) Q) E { s with heap := h, toks := tk })
    (done : ∀ (c : σ) (u : Str → Option Value) h tk, P n c → Fr h₀ env.locals h (kstB u (ps lo c)) → News h₀ env.locals h ((lo, ox) :: rest) → Q .next { s with heap := h, toks := tk }) :
    wpAny (model prog w) A (pyIter (.ref r)) (fun it s₂ => LoopAtV prog w A h₀ env x body Q E it s₂) E s :=
  m_range (fun _ => (lo, ox) :: rest) (ps lo) P c₀ n hh hr hsmall hn F N hk hp turn done
end

example : True := by
  w_top off
  exact True.intro
noncomputable def Hid (P : Prop) : Prop := P
set_option maxHeartbeats 4000000 in
theorem cl_rows {w : World} {mean : ExcName → Option Value} {mg mb : Str → Option Value} (x : Int) (b files ranks : Nat) (e : x = b) (hf : Hid (2 ≤ files ∧ files ≤ 8)) (hr : Hid (3 ≤ ranks ∧ ranks ≤ 8)) (t u v : Tok) :
    Cl w mean mg mb 84 1 [.int x t, .int (files : Int) u, .int (ranks : Int) v] PTrue (RStr (Txt.join (Str.ofString "\n") (picL b files ranks ranks))) := by
  subst e
  ( k_dflt (refine' Cl.enter (binds := [("b", .int (b : Int) t), ("files", .int (files : Int) u), ("ranks", .int (ranks : Int) v)]) ?k6u122 ?k7u122 ?k9u122 ?kBu122 ?kDu122 ?c2u122 ?c3u122 ?c4u122 ?c5u122 ?khu122; (case k6u122 => k_is); (case k7u122 => k_is); (case k9u122 => exact rfl); (case kBu122 => exact locs rfl); (case kDu122 => decide); (case c2u122 => exact rfl); (case c3u122 => exact rfl); (case c4u122 => exact rfl); (case c5u122 => decide); k_whole))
  intro outer R A₀ base g L h₁ tk₁ gs dr os Q E B F' N' X T hpre hd hu hP ret
  try dsimp only at hpre F'
  walk_at "M go"
  have hr2 : 3 ≤ ranks ∧ ranks ≤ 8 := hr
  (refine go_on ?_; refine' m_range1 (fun (c : List Value × List Str × Nat) => c.1) (fun c => c.2.2) (fun lo c => [("rows", .ref lo), ("b", .int (b : Int) t), ("files", .int (files : Int) u), ("ranks", .int (ranks : Int) v)]) (fun i c => StrsAre c.1 c.2.1 ∧ c.2.1 = picL b files ranks i) ([], [], 0) ranks rfl (by assumption) ?hsmallu123 ?hnu123 (by assumption) (by assumption) ?hku123 ?_ ?_ ?_; (case hku123 => walk_at "M all"); (case hsmallu123 => first | exact small_one (by omega) (by omega) (by omega) (by omega) | exact small_down (by omega) (by omega) (by omega) (by omega)); (case hnu123 => first | exact (rangeSize_nat _ _).trans (by omega) | exact (rangeSize_downNat _ _).trans (by omega)))
  · exact ⟨.nil, rfl⟩
  · rintro i ⟨us, ss, cap⟩ t0 u1 h1 tk1 own hi hoff ⟨I1, hss⟩ F1 N1
    dsimp only at I1 hss F1 N1
    subst hss
    have hidx : (ranks : Int) - 1 + (i : Int) * -1 = ((ranks - 1 - i : Nat) : Int) := by omega
    rw [hidx] at F1
    have hsz : us.toArray.size ≤ sizeLine := by
      have h1 := I1.len_eq
      rw [picL_len] at h1
      rw [sizeLine_eq, List.size_toArray]; omega
    obtain ⟨R, hR⟩ : ∃ R, ranks - 1 - i = R := ⟨_, rfl⟩
    have hR7 : R ≤ 7 := by omega
    rw [hR] at F1
    clear hidx hr2
    walk_at "M go"
    have hf2 : 2 ≤ files ∧ files ≤ 8 := hf
    (refine go_on ?_; refine' m_rangeK1 (fun lo (c : Str × Tok) => [("row", .str c.1 c.2), ("rank", .int (R : Int) t0), ("rows", .ref lo), ("b", .int (b : Int) t), ("files", .int (files : Int) u), ("ranks", .int (ranks : Int) v)]) (fun j c => c.1 = rowP (fun c => bitAt b (R * files + c)) j) (_, _) files rfl (by assumption) ?hsmallu124 ?hnu124 (by assumption) (by assumption) ?hku124 ?_ ?_ ?_; (case hku124 => walk_at "M all"); (case hsmallu124 => first | exact small_one (by omega) (by omega) (by omega) (by omega) | exact small_down (by omega) (by omega) (by omega) (by omega)); (case hnu124 => first | exact (rangeSize_nat _ _).trans (by omega) | exact (rangeSize_downNat _ _).trans (by omega)))
    · rfl
    · rintro j ⟨row, t6⟩ t7 u2 h2 tk2 own2 hj hoff2 hP F2 N2
      dsimp only at hP F2 N2
      subst hP
      rw [show (0 : Int) + (j : Int) * 1 = (j : Int) by omega] at F2
      have hrl := rowP_len (fun c => bitAt b (R * files + c)) j
      have hRf : (R : Int) * (files : Int) = ((R * files : Nat) : Int) := (Int.natCast_mul _ _).symm
      have hRf2 : R * files ≤ 56 := Nat.mul_le_mul hR7 hf2.2
      have hbit : Builtin.bitAnd ((b : Int).fdiv (2 ^ ((R : Int) * (files : Int) + (j : Int)).toNat)) 1 = ((b / 2 ^ (R * files + j) % 2 : Nat) : Int) := by
        rw [hRf, show (((R * files : Nat) : Int) + (j : Int)).toNat = R * files + j by omega, shr_nat, and1]
      walk_at "M go"
      · rename _ ≠ (0 : Int) => hq
        rw [hbit] at hq
        (refine go_on ?_; (rename News _ _ _ _ => nEx); (try simp only [List.push_toArray] at nEx); refine' f_end (_, _) (by assumption) nEx ?hnu125 ?hau125 ?hku125 ?_; (case hku125 => walk_at "M all"); (case hnu125 => first | exact fun p hp => hp | k_sub | skip); (case hau125 => first | exact rfl | skip))
        show rowP _ j ++ Str.ofString "X" = _
        have hb1 : bitAt b (R * files + j) = true := by
          unfold bitAt; rw [beq_iff_eq]; omega
        rw [rowP_succ, hb1, if_pos rfl]
      · rename _ = (0 : Int) => hq
        rw [hbit] at hq
        (refine go_on ?_; (rename News _ _ _ _ => nEx); (try simp only [List.push_toArray] at nEx); refine' f_end (_, _) (by assumption) nEx ?hnu126 ?hau126 ?hku126 ?_; (case hku126 => walk_at "M all"); (case hnu126 => first | exact fun p hp => hp | k_sub | skip); (case hau126 => first | exact rfl | skip))
        show rowP _ j ++ Str.ofString "." = _
        have hb1 : bitAt b (R * files + j) = false := by
          unfold bitAt; rw [beq_eq_false_iff_ne]; omega
        rw [rowP_succ, hb1, if_neg (by decide)]
    · rintro ⟨row, t6⟩ u2 h2 tk2 hP F2 N2
      dsimp only at hP F2 N2
      subst hP
      walk_at "M go"
      (refine go_on ?_; (rename News _ _ _ _ => nEx); (try simp only [List.push_toArray] at nEx); refine' f_end (us ++ [.str (rowP (fun c => bitAt b (R * files + c)) files) t6], picL b files ranks (i + 1), cap + 1) (by assumption) nEx ?hnu127 ?hau127 ?hku127 ?_; (case hku127 => walk_at "M all"); (case hnu127 => first | exact fun p hp => hp | k_sub | skip); (case hau127 => first | exact rfl | skip))
      refine ⟨?_, rfl⟩
      rw [picL_succ]
      refine I1.append' ?_
      rw [show picR b files ranks i = rowP (fun c => bitAt b (R * files + c)) files by rw [picR, hR]]
      exact .cons _ _ .nil
  · rintro ⟨us, ss, cap⟩ u1 h1 tk1 ⟨I1, hss⟩ F1 N1
    dsimp only at I1 hss F1 N1
    subst hss
    walk_at "M go"
    have hw : ((picL b files ranks ranks).map (·.length)).sum ≤ 64 := by
      have hf2 : 2 ≤ files ∧ files ≤ 8 := hf
      rw [picL_sum]
      exact Nat.mul_le_mul hr2.2 hf2.2
    have hl := picL_len b files ranks ranks
    refine join_listW (News.isList (by assumption) (.head _)) (by simpa using I1) (by decide +kernel) (by omega) fun t8 k8 => ?_
    walk_at "M go"
    refine ret _ _ _ (by assumption) (by assumption) (rstr_of ?_)
    rfl

example : True := by
  w_top off
  exact True.intro
theorem join_none (sep : Str) : Txt.join sep [] = Str.ofString "" := by
  rw [show Str.ofString "" = ⟨#[]⟩ by decide +kernel]; rfl
theorem empty_app (y : Str) : Str.ofString "" ++ y = y := by
  rw [show Str.ofString "" = ⟨#[]⟩ by decide +kernel]
  show Str.mk _ = y
  simp
theorem app_app (x y z : Str) : x ++ (y ++ z) = x ++ y ++ z := by
  show Str.mk _ = Str.mk _
  congr 1
  show x.cps ++ (y.cps ++ z.cps) = x.cps ++ y.cps ++ z.cps
  rw [Array.append_assoc]
theorem str_len_app (x y : Str) : (x ++ y).length = x.length + y.length := by
  show (x.cps ++ y.cps).size = x.cps.size + y.cps.size
  simp
theorem rowP_zero (f : Nat → Bool) (x : Str) : x ++ rowP f 0 = x := by
  show Str.mk _ = x
  show Str.mk (x.cps ++ (rowP f 0).cps) = x
  simp [rowP]
set_option maxHeartbeats 4000000 in
theorem cl_lawpicture {w : World} {mean : ExcName → Option Value} {mg mb : Str → Option Value} (x : Int) (b files ranks size : Nat) (xl : Addr) (vs : List Value) (e : x = b) (hf : Hid (2 ≤ files ∧ files ≤ 8)) (hr : Hid (3 ≤ ranks ∧ ranks ≤ 8)) (hs : size = files * ranks) (I : IntsAre vs (bitsL b size)) (t u v : Tok) :
    Cl w mean mg mb 297 12 [.int x t, .ref xl, .int (files : Int) u, .int (ranks : Int) v] (fun h => h.IsList xl vs.toArray) (RBool true) := by
  subst e
  have hbl : (bitsL b size).length = size := bitsL_len _ _
  have hvl : vs.length = size := I.length.trans hbl
  ( k_dflt (refine' Cl.enter (binds := [("b", .int (b : Int) t), ("x", .ref xl), ("files", .int (files : Int) u), ("ranks", .int (ranks : Int) v)]) ?k6u128 ?k7u128 ?k9u128 ?kBu128 ?kDu128 ?c2u128 ?c3u128 ?c4u128 ?c5u128 ?khu128; (case k6u128 => k_is); (case k7u128 => k_is); (case k9u128 => exact rfl); (case kBu128 => exact locs rfl); (case kDu128 => decide); (case c2u128 => exact rfl); (case c3u128 => exact rfl); (case c4u128 => exact rfl); (case c5u128 => decide); k_whole))
  intro outer R A₀ base g L h₁ tk₁ gs dr os Q E B F' N' X T hpre hd hu hP ret
  try dsimp only at hpre F'
  walk_at "M go"
  have hnl : (Str.ofString "\n").length = 1 := by decide +kernel
  have hXl : (Str.ofString "X").length = 1 := by decide +kernel
  have hDl : (Str.ofString ".").length = 1 := by decide +kernel
  have hr2 : 3 ≤ ranks ∧ ranks ≤ 8 := hr
  (refine go_on ?_; refine' m_range (fun _ => []) (fun (c : Str × Tok) => [("text", .str c.1 c.2), ("b", .int (b : Int) t), ("x", .ref xl), ("files", .int (files : Int) u), ("ranks", .int (ranks : Int) v)]) (fun i c => c.1 = Txt.join (Str.ofString "\n") (picL b files ranks i) ∧ c.1.length ≤ 9 * i) (Str.ofString "", _) ranks rfl (by assumption) ?hsmallu129 ?hnu129 (by assumption) (by assumption) ?hku129 ?_ ?_ ?_; (case hku129 => walk_at "M all"); (case hsmallu129 => first | exact small_one (by omega) (by omega) (by omega) (by omega) | exact small_down (by omega) (by omega) (by omega) (by omega)); (case hnu129 => first | exact (rangeSize_nat _ _).trans (by omega) | exact (rangeSize_downNat _ _).trans (by omega)))
  · refine ⟨(join_none _).symm, ?_⟩
    show (Str.ofString "").length ≤ 0
    decide +kernel
  · rintro i ⟨text, t1⟩ t0 u1 h1 tk1 own hi hoff ⟨hP, hL⟩ F1 N1
    dsimp only at hP hL F1 N1
    rw [show (0 : Int) + (i : Int) * 1 = (i : Int) by omega] at F1
    obtain ⟨T0, hT0, hTL⟩ : ∃ T, T = (if (0 : Int) < (i : Int) then text ++ Str.ofString "\n" else text) ∧ T.length ≤ 9 * i + 1 := by
      refine ⟨_, rfl, ?_⟩
      split
      · rw [str_len_app, hnl]; omega
      · omega
    have hTe : T0 ++ picR b files ranks i = Txt.join (Str.ofString "\n") (picL b files ranks (i + 1)) := by
      rw [picL_succ, hT0, hP]
      cases i with
      | zero => rw [if_neg (by decide)]; exact (congrArg (· ++ _) (join_none _)).trans (empty_app _)
      | succ i => rw [if_pos (by omega), glued_snoc _ _ _ (by rw [picL_succ]; simp)]
    obtain ⟨R, hR⟩ : ∃ R, ranks - 1 - i = R := ⟨_, rfl⟩
    have hi7 : i ≤ 7 := by have := (show 3 ≤ ranks ∧ ranks ≤ 8 from hr).2; omega
    have hR7 : R ≤ 7 := by have := (show 3 ≤ ranks ∧ ranks ≤ 8 from hr).2; omega
    have hRi : (ranks : Int) - 1 - (i : Int) = (R : Int) := by omega
    have hsz : R * files + files ≤ size := by
      rw [hs, Nat.mul_comm files]
      have := Nat.mul_le_mul_right files (show R + 1 ≤ ranks by omega)
      rw [Nat.succ_mul] at this; exact this
    walk_at "M go"
    rotate_left 1
    · rename ¬ 0 < (i : Int) => hq
      rw [if_neg hq] at hT0
      subst hT0
      have hf2 : 2 ≤ files ∧ files ≤ 8 := hf
      (refine go_on ?_; refine' m_range (fun _ => _) (fun (c : Str × Tok) => [("text", .str c.1 c.2), ("row", .int (i : Int) t0), ("b", .int (b : Int) t), ("x", .ref xl), ("files", .int (files : Int) u), ("ranks", .int (ranks : Int) v)]) (fun j c => c.1 = T0 ++ rowP (fun c => bitAt b (R * files + c)) j) (_, _) files rfl (by assumption) ?hsmallu130 ?hnu130 (by assumption) (by assumption) ?hku130 ?_ ?_ ?_; (case hku130 => walk_at "M all"); (case hsmallu130 => first | exact small_one (by omega) (by omega) (by omega) (by omega) | exact small_down (by omega) (by omega) (by omega) (by omega)); (case hnu130 => first | exact (rangeSize_nat _ _).trans (by omega) | exact (rangeSize_downNat _ _).trans (by omega)))
      · exact (rowP_zero _ _).symm
      · rintro j ⟨row, t6⟩ t7 u2 h2 tk2 own2 hj hoff2 hP F2 N2
        dsimp only at hP F2 N2
        rw [show (0 : Int) + (j : Int) * 1 = (j : Int) by omega] at F2
        have hrl : row.length ≤ 9 * i + 1 + j := by rw [hP, str_len_app, rowP_len]; omega
        have hRf : ((ranks : Int) - 1 - (i : Int)) * (files : Int) = ((R * files : Nat) : Int) := by rw [hRi]; exact (Int.natCast_mul _ _).symm
        have hRf2 : R * files ≤ 56 := Nat.mul_le_mul hR7 hf2.2
        have hgt := bits_at size b (R * files + j) (by omega)
        have hj2 : (((ranks : Int) - 1 - (i : Int)) * (files : Int) + (j : Int)).toNat = R * files + j := by omega
        rw [← hj2] at hgt
        walk_at "M go"
        · rename _ = (1 : Int) => hq
          rw [hgt, hj2] at hq
          (refine go_on ?_; (rename News _ _ _ _ => nEx); (try simp only [List.push_toArray] at nEx); refine' f_end (_, _) (by assumption) nEx ?hnu131 ?hau131 ?hku131 ?_; (case hku131 => walk_at "M all"); (case hnu131 => first | exact fun p hp => hp | k_sub | skip); (case hau131 => first | exact rfl | skip))
          show row ++ Str.ofString "X" = _
          rw [hP, rowP_succ, show bitAt b (R * files + j) = true by unfold bitAt; rw [beq_iff_eq]; omega, if_pos rfl, app_app]
        · rename _ ≠ (1 : Int) => hq
          rw [hgt, hj2] at hq
          (refine go_on ?_; (rename News _ _ _ _ => nEx); (try simp only [List.push_toArray] at nEx); refine' f_end (_, _) (by assumption) nEx ?hnu132 ?hau132 ?hku132 ?_; (case hku132 => walk_at "M all"); (case hnu132 => first | exact fun p hp => hp | k_sub | skip); (case hau132 => first | exact rfl | skip))
          show row ++ Str.ofString "." = _
          rw [hP, rowP_succ, show bitAt b (R * files + j) = false by unfold bitAt; rw [beq_eq_false_iff_ne]; omega, if_neg (by decide), app_app]
      · rintro ⟨row, t6⟩ u2 h2 tk2 hP F2 N2
        dsimp only at hP F2 N2
        subst hP
        walk_at "M go"
        (refine go_on ?_; (rename News _ _ _ _ => nEx); (try simp only [List.push_toArray] at nEx); refine' f_end (_, _) (by assumption) nEx ?hnu133 ?hau133 ?hku133 ?_; (case hku133 => walk_at "M all"); (case hnu133 => first | exact fun p hp => hp | k_sub | skip); (case hau133 => first | exact rfl | skip))
        show T0 ++ rowP _ files = _ ∧ (T0 ++ rowP _ files).length ≤ _
        refine ⟨?_, by rw [str_len_app, rowP_len]; omega⟩
        rw [← hTe, picR, hR]
    · rename 0 < (i : Int) => hq
      rw [if_pos hq] at hT0
      have hf2 : 2 ≤ files ∧ files ≤ 8 := hf
      (refine go_on ?_; refine' m_range (fun _ => _) (fun (c : Str × Tok) => [("text", .str c.1 c.2), ("row", .int (i : Int) t0), ("b", .int (b : Int) t), ("x", .ref xl), ("files", .int (files : Int) u), ("ranks", .int (ranks : Int) v)]) (fun j c => c.1 = T0 ++ rowP (fun c => bitAt b (R * files + c)) j) (_, _) files rfl (by assumption) ?hsmallu134 ?hnu134 (by assumption) (by assumption) ?hku134 ?_ ?_ ?_; (case hku134 => walk_at "M all"); (case hsmallu134 => first | exact small_one (by omega) (by omega) (by omega) (by omega) | exact small_down (by omega) (by omega) (by omega) (by omega)); (case hnu134 => first | exact (rangeSize_nat _ _).trans (by omega) | exact (rangeSize_downNat _ _).trans (by omega)))
      · show text ++ Str.ofString "\n" = _
        rw [rowP_zero, hT0]
      · rintro j ⟨row, t6⟩ t7 u2 h2 tk2 own2 hj hoff2 hP F2 N2
        dsimp only at hP F2 N2
        rw [show (0 : Int) + (j : Int) * 1 = (j : Int) by omega] at F2
        have hrl : row.length ≤ 9 * i + 1 + j := by rw [hP, str_len_app, rowP_len]; omega
        have hRf : ((ranks : Int) - 1 - (i : Int)) * (files : Int) = ((R * files : Nat) : Int) := by rw [hRi]; exact (Int.natCast_mul _ _).symm
        have hRf2 : R * files ≤ 56 := Nat.mul_le_mul hR7 hf2.2
        have hgt := bits_at size b (R * files + j) (by omega)
        have hj2 : (((ranks : Int) - 1 - (i : Int)) * (files : Int) + (j : Int)).toNat = R * files + j := by omega
        rw [← hj2] at hgt
        walk_at "M go"
        · rename _ = (1 : Int) => hq
          rw [hgt, hj2] at hq
          (refine go_on ?_; (rename News _ _ _ _ => nEx); (try simp only [List.push_toArray] at nEx); refine' f_end (_, _) (by assumption) nEx ?hnu135 ?hau135 ?hku135 ?_; (case hku135 => walk_at "M all"); (case hnu135 => first | exact fun p hp => hp | k_sub | skip); (case hau135 => first | exact rfl | skip))
          show row ++ Str.ofString "X" = _
          rw [hP, rowP_succ, show bitAt b (R * files + j) = true by unfold bitAt; rw [beq_iff_eq]; omega, if_pos rfl, app_app]
        · rename _ ≠ (1 : Int) => hq
          rw [hgt, hj2] at hq
          (refine go_on ?_; (rename News _ _ _ _ => nEx); (try simp only [List.push_toArray] at nEx); refine' f_end (_, _) (by assumption) nEx ?hnu136 ?hau136 ?hku136 ?_; (case hku136 => walk_at "M all"); (case hnu136 => first | exact fun p hp => hp | k_sub | skip); (case hau136 => first | exact rfl | skip))
          show row ++ Str.ofString "." = _
          rw [hP, rowP_succ, show bitAt b (R * files + j) = false by unfold bitAt; rw [beq_eq_false_iff_ne]; omega, if_neg (by decide), app_app]
      · rintro ⟨row, t6⟩ u2 h2 tk2 hP F2 N2
        dsimp only at hP F2 N2
        subst hP
        walk_at "M go"
        (refine go_on ?_; (rename News _ _ _ _ => nEx); (try simp only [List.push_toArray] at nEx); refine' f_end (_, _) (by assumption) nEx ?hnu137 ?hau137 ?hku137 ?_; (case hku137 => walk_at "M all"); (case hnu137 => first | exact fun p hp => hp | k_sub | skip); (case hau137 => first | exact rfl | skip))
        show T0 ++ rowP _ files = _ ∧ (T0 ++ rowP _ files).length ≤ _
        refine ⟨?_, by rw [str_len_app, rowP_len]; omega⟩
        rw [← hTe, picR, hR]
  · rintro ⟨text, t1⟩ u1 h1 tk1 ⟨hP, -⟩ F1 N1
    dsimp only at hP F1 N1
    subst hP
    walk_at "M go"
    (refine go_on ?_; k_dflt (refine' Cl.useS (cl_rows _ b files ranks rfl hf hr _ _ _) ?k1u138 ?k2u138 ?k3u138 ?k4u138 ?k5u138 ?kAu138 ?kFu138 ?kEu138 ?kKu138 ?kpu138 ?kdu138 ?kuu138 ?_; ( (case k1u138 => first | k_asm | fail "the frames below"); (case k2u138 => first | k_asm | fail "the frame"); (case k3u138 => first | k_asm | fail "the written part"); (case k4u138 => first | k_asm | fail "the ledger"); (case k5u138 => first | k_asm | fail "the top's facts"); (case kAu138 => first | exact rfl | fail "the raised"); (case kFu138 => first | exact rfl | fail "the frames"); (case kEu138 => first | exact rfl | fail "the caller's frame"); (case kKu138 => first | exact rfl | assumption | fail "the caller is no def"); (case kpu138 => first | exact trivial | is_list | fail "the premise"); (case kdu138 => first | ktr_room | fail "the frames' room"); (case kuu138 => first | ktr_units | fail "the C units"))); intro t9x h9x tk9x F9x N9x; (try dsimp only); walk_at "M on")
    refine ret _ _ _ (by assumption) (by assumption) (rbool_of ?_)
    simp

example : True := by
  w_top off
  exact True.intro
/-! an exception that bears a dict: what the machine's notes about its way leave as it is -/
theorem dict_mapFields (o : Obj) (f : Array Value → Array Value) : (Obj.mapFields f o).dict = o.dict := by
  unfold Obj.mapFields
  split <;> rfl
noncomputable def Way (h base : Heap) (e C d : Addr) (fl : Value) : Prop :=
  ∃ oe vs T oT ts, h.get? e = some oe ∧ (oe.cls = .ref C ∧ oe.dict = some d) ∧ oe.data = .fields vs ∧ vs[1]? = some (.ref T) ∧ base.get? T = none ∧ T ≠ e ∧ h.get? T = some oT ∧ oT.data = .fields ts ∧ ts[3]? = some fl
noncomputable def Fly (base : Heap) (l : List Env) (e C d : Addr) (fl : Value) (h : Heap) : Prop := base.StaysIn h ∧ base.get? e = none ∧ h.FunFrames base l ∧ Way h base e C d fl
section
variable {M : Model} {A : Around} {E : Value → Shared → Prop} {s : Shared} {base : Heap} {env : Env} {outer l : List Env} {L e C d : Addr} {oe : Obj} {vs : Array Value} {head : Value} {hadNext : Bool} {Q : Unit → Shared → Prop}
theorem fields_ne {h : Heap} {b : Addr} {o : Obj} (he : h.get? e = some oe) (hd : oe.data = .fields vs) (hb : h.get? b = some o) (hn : ∀ ws, o.data ≠ .fields ws) : b ≠ e := by
  rintro rfl
  rw [he] at hb
  cases hb
  exact hn vs hd
theorem entry_way (hfr : A.frames = some (env :: outer)) (hl : s.heap.FunFrames base (env :: outer)) (hf : env.frame = some L) (he : s.heap.get? e = some oe) (hc : oe.cls = .ref C ∧ oe.dict = some d)
    (hkb : base.StaysIn s.heap) (hen : base.get? e = none) (hd : oe.data = .fields vs) (hsz : 1 < vs.size)
    (k : ∀ h', Fly base (env :: outer) e C d (rawInt L) h' → s.heap.UpToSlots h' → Q () { s with heap := h' }) :
    wpAny M A (do let a ← frameOf env; let pl ← entryPlaceOf L hadNext; let b ← EntryCells.newEntry head a .none (rawInt L) .none pl; setField (.ref e) 1 b) Q E s := by
  have nf : e ∉ (env :: outer).filterMap (·.frame) := fun hm => by
    obtain ⟨_, o, ho, hnf⟩ := hl.mem hm
    exact fields_ne he hd ho hnf rfl
  refine wpAny_bind (wpAny_frameOf_fun hfr hl hf fun h₁ S => ?_)
  refine wpAny_bind (wpAny_entryPlaceOf fun pl hpl => ?_)
  unfold EntryCells.newEntry newFields
  refine wpAny_bind (wpAny_newObj_type ?_ (hpl.sizeOk5 _ _ _ _ _))
  have e1 : h₁.get? e = some oe := (S.2.1 e nf).trans he
  have hT : h₁.objs.size ≠ e := Nat.ne_of_gt (Heap.lt_size e1)
  refine wpAny_setField (Heap.get?_push_of_some _ e1) hd hsz (k _ ⟨?_, hen, ?_, ?_⟩ ?_)
  · intro b o hb
    have b1 : h₁.get? b = some o := (S.2.1 b fun hm => by rw [(hl.mem hm).1] at hb; cases hb).trans (hkb b o hb)
    rw [Heap.get?_update_other _ _ (fun q : e = b => by rw [← q, hen] at hb; cases hb)]
    exact Heap.get?_push_of_some _ b1
  · refine hl.of_keeps fun b o hb hn => ?_
    obtain ⟨sl, hs⟩ := S.2.2 b o hb
    exact ⟨_, (Heap.get?_update_other _ _ (Ne.symm (fields_ne he hd hb hn))).trans (Heap.get?_push_of_some _ hs), rfl⟩
  · have hdm := Obj.data_mapFields hd (·.setIfInBounds 1 (Value.ref h₁.objs.size))
    refine ⟨_, _, h₁.objs.size, _, _, Heap.get?_update_self _ (Heap.get?_push_of_some _ e1) (Obj.isFreed_of_fields hdm), ⟨(Obj.cls_mapFields _ _).trans hc.1, (dict_mapFields _ _).trans hc.2⟩, hdm, by simp [hsz], ?_, hT,
      (Heap.get?_update_other _ _ (Ne.symm hT)).trans (Heap.get?_push_size h₁ rfl), rfl, ?_⟩
    · cases q : base.get? h₁.objs.size with
      | none => rfl
      | some o =>
        have b1 : h₁.get? h₁.objs.size = some o := (S.2.1 _ fun hm => by rw [(hl.mem hm).1] at q; cases q).trans (hkb _ o q)
        exact absurd (Heap.lt_size b1) (Nat.lt_irrefl _)
    · rcases hpl with rfl | ⟨_, _, _, _, _, _, _, rfl⟩ <;> simp
  · intro b o hb hn
    obtain ⟨sl, hs⟩ := S.2.2 b o hb
    exact ⟨sl, (Heap.get?_update_other _ _ (Ne.symm (fields_ne he hd hb hn))).trans (Heap.get?_push_of_some _ hs)⟩
theorem note_first (hfr : A.frames = some (env :: outer)) (hl : s.heap.FunFrames base (env :: outer)) (hf : env.frame = some L) (he : s.heap.get? e = some oe) (hc : oe.cls = .ref C ∧ oe.dict = some d)
    (hkb : base.StaysIn s.heap) (hen : base.get? e = none) (hd : oe.data = .fields vs) (h1 : vs[1]? = some .none)
    (k : ∀ h', Fly base (env :: outer) e C d (rawInt L) h' → s.heap.UpToSlots h' → Q () { s with heap := h' }) : wpAny M A (noteFrame (.ref e) env) Q E s := by
  unfold noteFrame
  simp only [hf]
  refine wpAny_bind (wpAny_field he hd h1 ?_)
  rw [if_neg (by decide)]
  exact entry_way hfr hl hf he hc hkb hen hd (Array.getElem?_eq_some_iff.mp h1).1 k
theorem note_next (hfr : A.frames = some (env :: outer)) (hf : env.frame = some L) (H : Fly base (env :: outer) e C d .none s.heap)
    (k : ∀ h', Fly base (env :: outer) e C d (rawInt L) h' → s.heap.UpToSlots h' → Q () { s with heap := h' }) : wpAny M A (noteFrame (.ref e) env) Q E s := by
  obtain ⟨hkb, hen, hl, oe, vs, T, oT, ts, he, hc, hd, h1, hnT, hTe, hT, hdT, h3⟩ := H
  unfold noteFrame
  simp only [hf]
  refine wpAny_bind (wpAny_field he hd h1 ?_)
  rw [if_pos (show (Value.ref T != Value.none) = true from by simp)]
  refine wpAny_bind (wpAny_field hT hdT h3 ?_)
  rw [if_neg (show ¬ ((Value.none == rawInt L) = true) from by simp [rawInt])]
  refine wpAny_bind (wpAny_setField hT hdT (Array.getElem?_eq_some_iff.mp h3).1 ?_)
  have other : ∀ b, b ≠ T → (s.heap.update T (Obj.mapFields (·.setIfInBounds 3 Value.none))).get? b = s.heap.get? b := fun b hb => Heap.get?_update_other _ _ (Ne.symm hb)
  refine entry_way hfr (hl.of_keeps fun b o hb hn => ⟨o, (other b (fields_ne hT hdT hb hn)).trans hb, rfl⟩) hf ((other e (Ne.symm hTe)).trans he) hc
    (fun b o hb => (other b fun q => by rw [q, hnT] at hb; cases hb).trans (hkb b o hb)) hen hd (Array.getElem?_eq_some_iff.mp h1).1 fun h' H' U => k h' H' fun b o hb hn => U b o ((other b (fields_ne hT hdT hb hn)).trans hb) hn
theorem land {fl : Value} (H : Fly base l e C d fl s.heap) (k : ∀ h', Fly base l e C d .none h' → s.heap.UpToSlots h' → Q () { s with heap := h' }) : wpAny M A (setFlight (.ref e) none) Q E s := by
  obtain ⟨hkb, hen, hl, oe, vs, T, oT, ts, he, hc, hd, h1, hnT, hTe, hT, hdT, h3⟩ := H
  have h33 : 3 < ts.size := (Array.getElem?_eq_some_iff.mp h3).1
  unfold setFlight
  refine wpAny_bind (wpAny_field he hd h1 ?_)
  rw [if_pos (show (Value.ref T != Value.none) = true from by simp)]
  have other : ∀ (x : Value) b, b ≠ T → (s.heap.update T (Obj.mapFields (·.setIfInBounds 3 x))).get? b = s.heap.get? b := fun x b hb => Heap.get?_update_other _ _ (Ne.symm hb)
  refine wpAny_setField hT hdT h33 (k _ ⟨fun b o hb => (other _ b fun q => by rw [q, hnT] at hb; cases hb).trans (hkb b o hb), hen, hl.of_keeps fun b o hb hn => ⟨o, (other _ b (fields_ne hT hdT hb hn)).trans hb, rfl⟩,
    oe, vs, T, _, _, (other _ e (Ne.symm hTe)).trans he, hc, hd, h1, hnT, hTe, Heap.get?_update_self _ hT (Obj.isFreed_of_fields (Obj.data_mapFields hdT _)), Obj.data_mapFields hdT _, by simp [h33]⟩
    fun b o hb hn => ⟨o.slots, (other _ b (fields_ne hT hdT hb hn)).trans hb⟩)
theorem leave_first (hfr : A.frames = some (env :: outer)) (hl : s.heap.FunFrames base (env :: outer)) (hf : env.frame = some L) (he : s.heap.get? e = some oe) (hc : oe.cls = .ref C ∧ oe.dict = some d)
    (hkb : base.StaysIn s.heap) (hen : base.get? e = none) (hd : oe.data = .fields vs) (h1 : vs[1]? = some .none)
    (k : ∀ h', Fly base outer e C d .none h' → s.heap.UpToSlots h' → Q () { s with heap := h' }) : wpAny M A (leaving env (.ref e)) Q E s := by
  unfold leaving
  refine wpAny_bind (note_first hfr hl hf he hc hkb hen hd h1 fun h' H U => land H fun h'' H' U' => k h'' ⟨H'.1, H'.2.1, ?_, H'.2.2.2⟩ (U.trans U'))
  obtain ⟨_, _, r⟩ := H'.2.2.1
  exact r
end

example : True := by
  w_top off
  exact True.intro
/-! making an object of a class two steps below Exception, by its own __init__ -/
noncomputable abbrev excE : List Value := [.type "Exception", .type "BaseException", .type "object"]
section
variable {prog : Program} {w : World} {A : Around} {E : Value → Shared → Prop} {R : Result → Shared → Prop} {h : Heap} {g : Array GenState} {d : Drawn} {t : Nat} {os : OsState}
variable {nm q : Str} {C C2 N : Addr} {bs : List Value} {hdct : Bool} {sn : List Str} {sub : List Value} {ab : Bool} {col : Option Bool} {dd : Option Addr} {k0 k1 k2 k3 k5 : Option Value}
theorem two_has (C C2 : Addr) (X : String) (b : Bool) (hb : excE.contains (.type X) = b) : (Value.ref C :: .ref C2 :: excE).contains (.type X) = b := by
  rw [List.contains_cons, List.contains_cons, hb]; rfl
theorem two_check {rest : List Value} {Q : Unit → Shared → Prop} (hC : h.get? C = some (excClassObj nm q C N bs (.ref C2 :: excE) hdct sn sub ab col dd k0 k1 k2 k3 k5 "Exception.__new__")) (hq : Q () ⟨h, g, d, t, os⟩) :
    wpAny (model prog w) A (checkBuiltinCall "Exception.__new__" ⟨.ref C :: rest, []⟩) Q E ⟨h, g, d, t, os⟩ := by
  have F := F.excBase_Exception
  have hcont := two_has C C2 "Exception" true (by decide)
  have hstar := F.noStar
  simp only [checkBuiltinCall, F.newKind, F.newSplit, F.newRow]
  repeat (first | refine wpAny_loadPart_at hC ?_ | (refine wpAny_isSubtype_exc hC ?_; rw [hcont]) | refine wpAny_staticBase_exc hC ?_ | refine wpAny_madeBy_exc hC ?_ | simp only [bne_self_eq_false, Bool.false_eq_true, if_false] | wp_step)
  exact hq
theorem two_new {rest : List Value} (hC : h.get? C = some (excClassObj nm q C N bs (.ref C2 :: excE) hdct sn sub ab col dd k0 k1 k2 k3 k5 "Exception.__new__"))
    (hq : R (.ok (.ret (.ref (h.objs.size + 1)))) ⟨(h.push { cls := .type "tuple", data := .seq rest.toArray }).push
      { cls := .ref C, data := .fields #[.ref h.objs.size, .none, .none, .none, .bool false, .none] }, g, d, t, os⟩) (hrest : rest.length ≤ sizeLine) :
    codeAny (model prog w) A (.builtin "Exception.__new__" ⟨.ref C :: rest, []⟩) R ⟨h, g, d, t, os⟩ := by
  have F := F.excBase_Exception
  have hends := F.ends
  have hcB := two_has C C2 "Exception" true (by decide)
  have hcA := two_has C C2 "AttributeError" false (by decide)
  have hcN := two_has C C2 "NameError" false (by decide)
  refine codeAny_builtinAt F.entry ?_
  unfold Builtin.«BaseException.__new__»
  refine PySem.wpAt_bind ?_
  show PySem.wpAt _ _ _ (stack >>= _) _ _ _
  refine PySem.wpAt_bind (PySem.wpAt_stack fun p below => PySem.wpAt_of_wpAny ?_)
  wp_walk
  refine PySem.wpAt_of_wpAny ?_
  rw [F.owner]
  repeat (first | with_reducible refine wpAny_madeHere_exc F.canon hC ?_ | with_reducible refine wpAny_loadPart_at hC ?_ | (with_reducible refine wpAny_isSubtype_exc hC ?_; first | rw [hcB] | rw [hcA] | rw [hcN]) | wp_step)
  show R _ _
  rw [Heap.size_push]
  exact hq
theorem two_type_call {rest : List Value} {fI : Addr} {oI : Obj} {Q : Fin → Shared → Prop}
    (hC : h.get? C = some (excClassObj nm q C N bs (.ref C2 :: excE) hdct sn sub ab col dd k0 k1 k2 k3 k5 "Exception.__new__")) (hlk : Looks (model prog w) h (typeLookup (.ref C) "__init__") (some (.ref fI)))
    (hfI : h.get? fI = some oI) (hfc : oI.cls = .type "function")
    (hq : ∀ h' e, Heap.MadeExcOf h h' e (.ref C) rest →
      wpAny (model prog w) A (call (.ref fI) (.ref e :: rest)) (fun r s' => r = .none ∧ Q (.done (.ret (.ref e))) s') E ⟨h', g, d, t, os⟩) (hrest : rest.length ≤ sizeLine) :
    wpAny (model prog w) A (Builtin.«type.__call__» ⟨.ref C :: rest, []⟩) Q E ⟨h, g, d, t, os⟩ := by
  have F := F.excBase_Exception
  repeat (first | with_reducible refine wpAny_loadPart_at hC ?_ | with_reducible refine wpAny_madeBy_exc hC ?_ | wp_step)
  refine codeAny_call_builtin_code (Code.quiet_builtin _ F.quiet) (two_check hC ?_)
  refine two_new hC ?_ hrest
  show wpAny _ _ _ _ _ _
  have up : ∀ b o, h.get? b = some o → ((h.push { cls := .type "tuple", data := .seq rest.toArray }).push { cls := .ref C, data := .fields #[.ref h.objs.size, .none, .none, .none, .bool false, .none] }).get? b = some o :=
    fun b o e => Heap.get?_push_of_some _ (Heap.get?_push_of_some _ e)
  have hC₁ := up _ _ hC
  have hfI₁ := up _ _ hfI
  have hget : ((h.push { cls := .type "tuple", data := .seq rest.toArray }).push
      { cls := .ref C, data := .fields #[.ref h.objs.size, .none, .none, .none, .bool false, .none] }).get? (h.objs.size + 1) = some
      { cls := .ref C, data := .fields #[.ref h.objs.size, .none, .none, .none, .bool false, .none] } := by heap_get
  have hcC : (Value.ref C :: .ref C2 :: excE).contains (.ref C) = true := by simp
  unfold isInstance
  repeat (first | with_reducible refine wpAny_loadPart_at hget ?_ | (with_reducible refine wpAny_isSubtype_exc hC₁ ?_; rw [hcC]) | wp_step)
  show wpAny _ _ (typeLookup (.ref C) _) _ _ _
  refine hlk A _ E _ up ?_
  refine wpAny_holding (wpAny_bind ?_)
  unfold bindSpecial
  refine wpAny_bind (wpAny_typeOf (T := "function") ⟨_, hfI₁, hfc⟩ ?_)
  rw [if_pos (by decide)]
  refine wpAny_pure (wpAny_bind (wpAny_mono (hq _ (h.objs.size + 1) ⟨up, Heap.get?_none_of_le (Nat.le_succ _), h.objs.size, hget, Heap.get?_none_of_le (Nat.le_refl _), ?_⟩) (fun r s' hr => ?_) fun _ _ x => x))
  · exact Heap.get?_push_of_some _ (Heap.get?_push_at rfl rfl)
  · obtain ⟨rfl, hQ⟩ := hr
    wp_walk
    exact hQ
theorem two_call {rest : List Value} {fI : Addr} {oI : Obj} {Q : Value → Shared → Prop}
    (hC : h.get? C = some (excClassObj nm q C N bs (.ref C2 :: excE) hdct sn sub ab col dd k0 k1 k2 k3 k5 "Exception.__new__")) (hlk : Looks (model prog w) h (typeLookup (.ref C) "__init__") (some (.ref fI)))
    (hfI : h.get? fI = some oI) (hfc : oI.cls = .type "function")
    (hq : ∀ h' e, Heap.MadeExcOf h h' e (.ref C) rest →
      wpAny (model prog w) (A.under (.builtin "type.__call__" ⟨.ref C :: rest, []⟩)) (call (.ref fI) (.ref e :: rest)) (fun r s' => r = .none ∧ Q (.ref e) s') E ⟨h', g, d, t, os⟩) (hrest : rest.length ≤ sizeLine) :
    wpAny (model prog w) A (call (.ref C) rest) Q E ⟨h, g, d, t, os⟩ := by
  have f1 := tc_lookup
  have f2 := tc_bind (.ref C)
  have hT : (⟨h, g, d, t, os⟩ : Shared).TypeIs (.ref C) "type" := ⟨_, hC, rfl⟩
  refine wpAny_call (codeAny_of_tree ?_)
  show wpAny _ _ (callAny (.ref C) _) _ _ _
  repeat (any_goals (first | assumption | with_reducible refine wpAny_loadPart_at hC ?_ | wp_step))
  refine ⟨rfl, ?_⟩
  refine codeAny_call_builtin_at (Code.quiet_builtin _ (by decide +kernel)) entry_typeCall (wpAny_check_type_call_sub hC (two_type_call (hrest := hrest) hC hlk hfI hfc fun h' e hm => ?_))
  exact hq h' e hm
end
/-! raising it -/
noncomputable def Raises2 (E : Value → Shared → Prop) (v : Value) (s₁ : Shared) : Prop :=
  ∃ nm q C C2 N bs hdct sn sub ab col dd k0 k1 k2 k3 k5 e oe vs, v = .ref e ∧ s₁.heap.get? C = some (excClassObj nm q C N bs (.ref C2 :: excE) hdct sn sub ab col dd k0 k1 k2 k3 k5 "Exception.__new__") ∧
    s₁.heap.get? e = some oe ∧ oe.cls = .ref C ∧ oe.data = .fields vs ∧ vs[1]? = some .none ∧ E (.ref e) s₁
theorem raise_own {prog : Program} {w : World} {A : Around} {E : Value → Shared → Prop} {s : Shared} {env : Env} {x : Expr} {pos : Pos} {Q : Flow → Shared → Prop} (hh : A.handled = none)
    (k : wpAny (model prog w) A (eval x env) (Raises2 E) E s) : wpAny (model prog w) A (exec (.Raise (some x) none pos) env) Q E s := by
  show wpAny _ A (do standAt pos; raiseStmt env (some (do let v ← eval x env; standAt pos; pure v)) none) Q E s
  refine wpAny_bind (wpAny_standAt ?_)
  unfold raiseStmt
  refine wpAny_bind (wpAny_bind (wpAny_mono k (fun v s₁ h₁ => wpAny_bind (wpAny_standAt (wpAny_pure ?_))) fun _ _ x => x))
  obtain ⟨nm, q, C, C2, N, bs, hdct, sn, sub, ab, col, dd, k0, k1, k2, k3, k5, e, oe, vs, rfl, hC, he, hc, hd, h1, hE⟩ := h₁
  have hcB := two_has C C2 "BaseException" true (by decide)
  obtain ⟨hp, g, d, tk, os⟩ := s₁
  repeat (first | (with_reducible refine wpAny_loadPart_at he ?_; rw [hc]) | with_reducible refine wpAny_loadPart_at hC ?_ | (with_reducible refine wpAny_isSubtype_exc hC ?_; rw [hcB]) | simp only [hd, Bool.false_eq_true, if_false] | (rw [h1]; refine wpAny_pure ?_; rw [if_neg (by decide)]) | wp_step)
  exact wpAny_raiseNew_none hh hE

example : True := by
  w_top off
  exact True.intro
/-! a field of such an object: stored, read -/
section
variable {prog : Program} {w : World} {A : Around} {E : Value → Shared → Prop} {h : Heap} {g : Array GenState} {d : Drawn} {t : Nat} {os : OsState}
variable {nm q : Str} {C C2 N x : Addr} {bs : List Value} {sn : List Str} {sub : List Value} {ab : Bool} {col : Option Bool} {dd : Option Addr} {k0 k1 k2 k3 k5 : Option Value} {mA : Str → Option Value} {name : Str} {v : Value}
theorem two_store_entry {tk : Tok} {Q : Fin → Shared → Prop} {ns : List Str}
    (hC : h.get? C = some (excClassObj nm q C N bs (.ref C2 :: excE) true sn sub ab col dd k0 k1 k2 k3 k5 "Exception.__new__")) (hl : Looks (model prog w) h (typeLookup (.ref C) name) none) (I : h.Inst x C mA)
    (hq : ∀ h' tk', h'.Inst x C (fun y => if y = name then some v else mA y) →
      (∀ b o, b ≠ x → (∀ o₀ dx, h.get? x = some o₀ → o₀.dict = some dx → b ≠ dx) → h.get? b = some o → h'.get? b = some o) →
      (∀ o₀, h.get? x = some o₀ → ∃ o₁, h'.get? x = some o₁ ∧ o₁.cls = o₀.cls ∧ o₁.data = o₀.data ∧ o₁.slots = o₀.slots ∧ (∀ dx, o₀.dict = some dx → o₁.dict = some dx) ∧ (∀ dx, o₁.dict = some dx → o₀.dict = some dx ∨ h.get? dx = none)) → Q (.done (.ret .none)) ⟨h', g, d, tk', os⟩) (hw : Within mA ns) (hsz : ns.length ≤ sizeLine) :
    wpAny (model prog w) A (Builtin.«object.__setattr__» ⟨[.ref x, .str name tk, v], []⟩) Q E ⟨h, g, d, t, os⟩ := by
  have SF := F.store_Exception
  obtain ⟨o, hx, hc, hnc, hd⟩ := I
  have hpass := SF.passes (.ref x)
  unfold Builtin.«object.__setattr__»
  repeat (first | rw [refuse_eq] | (rw [refuseLoop_ref, refuseLoop_ref, hpass]) | (with_reducible refine wpAny_loadPart_at hx ?_; rw [hc]) | with_reducible refine wpAny_mroOf_exc hC ?_ | (refine Looks.here hl ?_) | wp_step)
  rcases hd with ⟨hdn, hmA⟩ | ⟨dx, hdx, hne, hns⟩
  · rw [hdn, if_neg (by simp [typeHasDict])]
    split
    · rename_i hcd
      cases hcd
    split
    · rename_i c hcd
      exact absurd hcd (hnc c)
    · have hx₁ : (h.push { cls := .type "dict", data := .dict #[] }).get? x = some o := Heap.get?_push_of_some _ hx
      have hxs : x ≠ h.objs.size := Nat.ne_of_lt (Heap.lt_size hx)
      refine wpAny_bind (wpAny_alloc' ?_)
      refine wpAny_bind (wpAny_update' hx₁ ?_)
      refine wpAny_pure ?_
      have hgd : ((h.push { cls := .type "dict", data := .dict #[] }).update x fun o => { cls := o.cls, dict := some h.objs.size, data := o.data, slots := o.slots }).get? h.objs.size
          = some { cls := .type "dict", data := .dict #[] } :=
        (Heap.get?_update_ne _ _ _ _ hxs.symm).trans (Heap.get?_push_at rfl rfl)
      have hnd : ((h.push { cls := .type "dict", data := .dict #[] }).update x fun o => { cls := o.cls, dict := some h.objs.size, data := o.data, slots := o.slots }).Ns h.objs.size (fun _ => none) :=
        ⟨_, #[], _, hgd, rfl, fun e he => absurd he (by simp), fun _ => rfl⟩
      show wpAny _ _ (Builtin.ObjectAttr.storeInDict h.objs.size (.str name tk) name v) _ _ _
      unfold Builtin.ObjectAttr.storeInDict Builtin.ObjectAttr.newKeyGuard
      refine wpAny_bind (wpAny_pure (wpAny_bind (wpAny_nsSet1 (Heap.Ns1.of_empty hnd) fun h' hn' hs => ?_)))
      obtain ⟨oD, esD, epD, hoD, hdD, hcD⟩ := hn'.count (Within.cons name v Within.nil)
      refine wpAny_bind (wpAny_lookBehind hoD (by rw [hdD]; exact pastItsLine_dict (Nat.le_trans hcD (by rw [List.length_cons, List.length_nil, sizeLine_eq]; omega))) ?_)
      wp_walk
      have hx' : h'.get? x = some { cls := o.cls, dict := some h.objs.size, data := o.data, slots := o.slots } := ?_
      refine hq h' _ ⟨{ cls := o.cls, dict := some h.objs.size, data := o.data, slots := o.slots }, hx', hc, hnc, .inr ⟨h.objs.size, rfl, hxs.symm, ?_⟩⟩ (fun b ob hbx _ hb => ?_)
        (fun o₀ h₀ => by
          obtain rfl : o = o₀ := Option.some.inj (hx.symm.trans h₀)
          refine ⟨_, hx', rfl, rfl, rfl, fun dx e => ?_, fun dx e => .inr ?_⟩
          · rw [hdn] at e; cases e
          · cases e; exact Heap.get?_none_of_le (Nat.le_refl _))
      · obtain ⟨o', es, ep, e1, e2, e3, eu, e4⟩ := hn'
        exact ⟨o', es, ep, e1, e2, e3, eu, fun y => by rw [e4 y]; by_cases hy : y = name <;> simp [hy, hmA]⟩
      · exact (hs.2 b (Nat.ne_of_lt (Heap.lt_size hb))).trans ((Heap.get?_update_ne _ _ _ _ hbx).trans (Heap.get?_push_of_some _ hb))
      · refine (hs.2 x hxs).trans (Heap.get?_update_self _ hx₁ ?_)
        have hfr := (Heap.get?_some_iff.mp hx).2
        obtain ⟨oc, od, odt, osl⟩ := o
        cases odt <;> first | rfl | exact hfr
  · rw [hdx]
    refine wpAny_pure ?_
    show wpAny _ _ (Builtin.ObjectAttr.storeInDict dx (.str name tk) name v) _ _ _
    unfold Builtin.ObjectAttr.storeInDict Builtin.ObjectAttr.newKeyGuard
    refine wpAny_bind (wpAny_pure (wpAny_bind (wpAny_nsSet1 hns fun h' hn' hs => ?_)))
    obtain ⟨oD, esD, epD, hoD, hdD, hcD⟩ := hn'.count (Within.cons name v hw)
    refine wpAny_bind (wpAny_lookBehind hoD (by rw [hdD]; exact pastItsLine_dict (Nat.le_trans hcD (by rw [List.length_cons]; omega))) ?_)
    wp_walk
    refine hq h' _ ⟨o, (hs.2 x hne.symm).trans hx, hc, hnc, .inr ⟨dx, hdx, hne, hn'⟩⟩ (fun b ob _ hbd hb => ?_)
      (fun o₀ h₀ => ⟨o₀, (hs.2 x hne.symm).trans h₀, rfl, rfl, rfl, fun _ e => e, fun _ e => .inl e⟩)
    exact (hs.2 b (hbd o dx hx hdx)).trans hb
theorem two_check_sa {o : Obj} {nameV : Value} {Q : Unit → Shared → Prop} (hC : h.get? C = some (excClassObj nm q C N bs (.ref C2 :: excE) true sn sub ab col dd k0 k1 k2 k3 k5 "Exception.__new__")) (hx : h.get? x = some o) (hc : o.cls = .ref C) (hq : Q () ⟨h, g, d, t, os⟩) :
    wpAny (model prog w) A (checkBuiltinCall "object.__setattr__" ⟨[.ref x, nameV, v], []⟩) Q E ⟨h, g, d, t, os⟩ := by
  have SF := F.store_Exception
  have hcB := two_has C C2 "object" true (by decide)
  have ha := SF.args (.ref x) nameV v
  simp only [checkBuiltinCall, SF.kind, SF.split]
  refine wpAny_bind ?_
  unfold isInstance
  repeat (first | (with_reducible refine wpAny_loadPart_at hx ?_; rw [hc]) | (with_reducible refine wpAny_isSubtype_exc hC ?_; rw [hcB]) | wp_step)
  exact hq
theorem two_store_call {tk : Tok} {R : Result → Shared → Prop} {ns : List Str}
    (hC : h.get? C = some (excClassObj nm q C N bs (.ref C2 :: excE) true sn sub ab col dd k0 k1 k2 k3 k5 "Exception.__new__")) (hl : Looks (model prog w) h (typeLookup (.ref C) name) none) (I : h.Inst x C mA)
    (hq : ∀ h' tk', h'.Inst x C (fun y => if y = name then some v else mA y) →
      (∀ b o, b ≠ x → (∀ o₀ dx, h.get? x = some o₀ → o₀.dict = some dx → b ≠ dx) → h.get? b = some o → h'.get? b = some o) →
      (∀ o₀, h.get? x = some o₀ → ∃ o₁, h'.get? x = some o₁ ∧ o₁.cls = o₀.cls ∧ o₁.data = o₀.data ∧ o₁.slots = o₀.slots ∧ (∀ dx, o₀.dict = some dx → o₁.dict = some dx) ∧ (∀ dx, o₁.dict = some dx → o₀.dict = some dx ∨ h.get? dx = none)) → R (.ok (.ret .none)) ⟨h', g, d, tk', os⟩) (hw : Within mA ns) (hsz : ns.length ≤ sizeLine) :
    codeAny (model prog w) A (.call (.builtin "object.__setattr__") ⟨[.ref x, .str name tk, v], []⟩) R ⟨h, g, d, t, os⟩ := by
  have SF := F.store_Exception
  obtain ⟨o, hx, hc, _⟩ := id I
  exact codeAny_call_builtin SF.slot.plain SF.entry (two_check_sa hC hx hc (two_store_entry hC hl I hq hw hsz))
theorem two_store {Q : Unit → Shared → Prop} {ns : List Str}
    (hC : h.get? C = some (excClassObj nm q C N bs (.ref C2 :: excE) true sn sub ab col dd k0 k1 k2 k3 k5 "Exception.__new__")) (hl : Looks (model prog w) h (typeLookup (.ref C) name) none)
    (hs : Looks (model prog w) h (typeLookup (.ref C) "__setattr__") (some (.builtin "object.__setattr__"))) (I : h.Inst x C mA)
    (hq : ∀ h' tk', h'.Inst x C (fun y => if y = name then some v else mA y) →
      (∀ b o, b ≠ x → (∀ o₀ dx, h.get? x = some o₀ → o₀.dict = some dx → b ≠ dx) → h.get? b = some o → h'.get? b = some o) →
      (∀ o₀, h.get? x = some o₀ → ∃ o₁, h'.get? x = some o₁ ∧ o₁.cls = o₀.cls ∧ o₁.data = o₀.data ∧ o₁.slots = o₀.slots ∧ (∀ dx, o₀.dict = some dx → o₁.dict = some dx) ∧ (∀ dx, o₁.dict = some dx → o₀.dict = some dx ∨ h.get? dx = none)) → Q () ⟨h', g, d, tk', os⟩) (hw : Within mA ns) (hsz : ns.length ≤ sizeLine) :
    wpAny (model prog w) A (setAttr (.ref x) name v) Q E ⟨h, g, d, t, os⟩ := by
  have SF := F.store_Exception
  obtain ⟨o, hx, hc, _⟩ := id I
  have f3 := SF.slot.bind (.ref x)
  unfold setAttr callSpecial? specialOf
  repeat (any_goals (first | assumption | (with_reducible refine wpAny_loadPart_at hx ?_; rw [hc]) | (refine Looks.here hs ?_) | wp_step))
  refine two_store_call hC hl I (fun h' tk' I' hk hsame => ?_) hw hsz
  repeat (any_goals (first | assumption | wp_step))
  exact hq h' tk' I' hk hsame
theorem two_load_entry {tk : Tok} {Q : Fin → Shared → Prop} (hC : h.get? C = some (excClassObj nm q C N bs (.ref C2 :: excE) true sn sub ab col dd k0 k1 k2 k3 k5 "Exception.__new__")) (hl : Looks (model prog w) h (typeLookup (.ref C) name) none) (I : h.Inst x C mA) (hv : mA name = some v) (hq : Q (.done (.ret v)) ⟨h, g, d, t, os⟩) :
    wpAny (model prog w) A (Builtin.«object.__getattribute__» ⟨[.ref x, .str name tk], []⟩) Q E ⟨h, g, d, t, os⟩ := by
  obtain ⟨o, hx, hc, hnc, hd⟩ := I
  rcases hd with ⟨_, hmA⟩ | ⟨dx, hdx, hne, hns⟩
  · rw [hmA name] at hv; cases hv
  unfold Builtin.«object.__getattribute__»
  repeat (first | (with_reducible refine wpAny_loadPart_at hx ?_; rw [hc]) | (refine Looks.here hl ?_) | wp_step)
  split
  · rename_i c hcd
    exact absurd hcd (hnc c)
  unfold instanceDict
  repeat (first | (with_reducible refine wpAny_loadPart_at hx ?_; rw [hc]) | with_reducible refine wpAny_loadPart_at hC ?_ | wp_step)
  rw [hdx]
  repeat (first | (with_reducible refine wpAny_nsGet hns.ns ?_; rw [hv]) | wp_step)
  exact hq
theorem two_check_ga {o : Obj} {nameV : Value} {Q : Unit → Shared → Prop} (hC : h.get? C = some (excClassObj nm q C N bs (.ref C2 :: excE) true sn sub ab col dd k0 k1 k2 k3 k5 "Exception.__new__")) (hx : h.get? x = some o) (hc : o.cls = .ref C) (hq : Q () ⟨h, g, d, t, os⟩) :
    wpAny (model prog w) A (checkBuiltinCall "BaseException.__getattribute__" ⟨[.ref x, nameV], []⟩) Q E ⟨h, g, d, t, os⟩ := by
  have hk : builtinKind "BaseException.__getattribute__" = some .slot := by decide +kernel
  have hsplit : splitId "BaseException.__getattribute__" = some ("BaseException", "__getattribute__") := by decide +kernel
  have hcB := two_has C C2 "BaseException" true (by decide)
  have ha := F.args_bexc_ga (.ref x) nameV
  simp only [checkBuiltinCall, hk, hsplit]
  refine wpAny_bind ?_
  unfold isInstance
  repeat (first | (with_reducible refine wpAny_loadPart_at hx ?_; rw [hc]) | (with_reducible refine wpAny_isSubtype_exc hC ?_; rw [hcB]) | wp_step)
  exact hq
theorem two_load {expr : Bool} {Q : Value → Shared → Prop} (hC : h.get? C = some (excClassObj nm q C N bs (.ref C2 :: excE) true sn sub ab col dd k0 k1 k2 k3 k5 "Exception.__new__")) (hl : Looks (model prog w) h (typeLookup (.ref C) name) none)
    (hg1 : Looks (model prog w) h (typeLookup (.ref C) "__getattribute__") (some (.builtin "BaseException.__getattribute__"))) (hg2 : Looks (model prog w) h (typeLookup (.ref C) "__getattr__") none)
    (I : h.Inst x C mA) (hv : mA name = some v) (hh : handedOut v = pure v) (hq : Q v ⟨h, g, d, t + 1, os⟩) :
    wpAny (model prog w) A (getAttr (.ref x) name expr) Q E ⟨h, g, d, t, os⟩ := by
  have FB := F.attrBase_Exception
  obtain ⟨o, hx, hc, _⟩ := id I
  have f3 := FB.ga.bind (.ref x)
  have hx0 : (expr && onTheHeap (Value.builtin "BaseException.__getattribute__")) = false := by cases expr <;> rfl
  have hx2 : (Value.builtin "BaseException.__getattribute__" == Value.builtin "object.__getattribute__") = false := by decide +kernel
  have hx1 : (onTheHeap (Value.ref C) && Value.builtin "BaseException.__getattribute__" == Value.builtin "object.__getattribute__") = false := by rw [hx2]; rfl
  unfold getAttr getAttrBy
  repeat (any_goals (first | assumption | (with_reducible refine wpAny_loadPart_at hx ?_; rw [hc]) | (refine Looks.here hg1 ?_) | (refine Looks.here hg2 ?_) | wp_step))
  refine codeAny_call_builtin FB.ga.plain F.entry_bexc_ga (two_check_ga hC hx hc (two_load_entry hC hl I hv ?_))
  repeat (any_goals (first | assumption | wp_step))
end

example : True := by
  w_top off
  exact True.intro
theorem type_exc : typeOf (.type "Exception") = pure (.type "type") := by first | rfl | kernel_rfl
theorem method_exc {prog : Program} {w : World} {A : Around} {E : Value → Shared → Prop} {s : Shared} {K : Frag} {h₀ : Heap} {L : Addr} {m : Str → Option Value} {v : Value} {pl : Sem Bool} {Q : Value × List Value → Shared → Prop}
    (F : Fr h₀ L s.heap m) (X₀ : K.In h₀) (e : findCls K (.type "Exception") (.type "type") "__init__" = some (.val v)) (hh : handedIn v = true) (h : Q (v, []) { s with toks := s.toks + 1 }) :
    wpAny (model prog w) A (getMethod (.type "Exception") (Str.ofString "__init__") pl) Q E s := by
  have X := X₀.keeps F.keep
  have hstub : opaqueClassAbove (.type "Exception") = pure none := by unfold opaqueClassAbove; dsimp only; rw [show Manifest.isStub "Exception" = false by decide +kernel]; rfl
  have L0 : Looks (model prog w) s.heap (typeOf (.type "Exception")) (.type "type") := Looks.of_pure type_exc
  have hg : findIn K (.type "type") "__getattribute__" = some (some (.builtin "type.__getattribute__")) := type_tga
  unfold getMethod specialOf
  refine wpAny_bind (wpAny_bind (L0.here ((looks_findIn X hg).here ?_)))
  dsimp only
  rw [if_pos canon_tga]
  refine wpAny_bind (wpAny_mono (Q := fun v => Q (v, [])) (E := E) ?_ (fun _ _ z => wpAny_pure z) fun _ _ z => z)
  have LO : Looks (model prog w) s.heap (opaqueClassAbove (.type "Exception")) none := Looks.of_pure hstub
  exact cls_open X LO L0 hg (looks_hook X (r := none) (by rfl)) (by show subIn K _ _ = _; rfl) e (wpAny_pure (handed_on hh h))
section
variable {prog : Program} {w : World} {A : Around} {E : Value → Shared → Prop} {h : Heap} {g : Array GenState} {d : Drawn} {t : Nat} {os : OsState}
variable {nm q : Str} {C C2 N : Addr} {bs : List Value} {hdct : Bool} {sn : List Str} {sub : List Value} {ab : Bool} {col : Option Bool} {dd : Option Addr} {k0 k1 k2 k3 k5 : Option Value}
noncomputable abbrev madeObj (C t0 : Addr) : Obj := { cls := .ref C, data := .fields #[.ref t0, .none, .none, .none, .bool false, .none] }
theorem two_init {e t0 : Addr} {v : Value} {Q : Value → Shared → Prop}
    (hC : h.get? C = some (excClassObj nm q C N bs (.ref C2 :: excE) hdct sn sub ab col dd k0 k1 k2 k3 k5 "Exception.__new__")) (he : h.get? e = some (madeObj C t0))
    (hq : ∀ h' y, (∀ b o, b ≠ e → h.get? b = some o → h'.get? b = some o) → h'.get? e = some (madeObj C y) → Q .none ⟨h', g, d, t, os⟩) :
    wpAny (model prog w) A (call (.builtin "Exception.__init__") [.ref e, v]) Q E ⟨h, g, d, t, os⟩ := by
  have F := F.excBase_Exception
  have hcB := two_has C C2 "Exception" true (by decide)
  have hshort := F.noStar
  refine wpAny_call (codeAny_call_builtin F.init.plain F.initEntry ?_)
  have chk : ∀ (Q' : Unit → Shared → Prop) A' E', Q' () ⟨h, g, d, t, os⟩ → wpAny (model prog w) A' (checkBuiltinCall "Exception.__init__" ⟨[.ref e, v], []⟩) Q' E' ⟨h, g, d, t, os⟩ := by
    intro Q' A' E' hq'
    simp only [checkBuiltinCall, F.initKind, F.initSplit, F.initRow]
    repeat (first | with_reducible refine wpAny_loadPart_at he ?_ | with_reducible refine wpAny_loadPart_at hC ?_ | (with_reducible refine wpAny_isSubtype_exc hC ?_; rw [hcB]) | wp_step)
    exact hq'
  refine chk _ _ _ ?_
  have he₁ := Heap.get?_push_of_some { cls := .type "tuple", data := .seq #[v] } he
  wp_walk
  refine hq _ h.objs.size (fun b o hb e' => ?_) ?_
  · rw [Heap.get?_update_other _ _ (Ne.symm hb)]
    exact Heap.get?_push_of_some _ e'
  · rw [Heap.get?_update_self _ he₁ rfl]
    rfl
end

example : True := by
  w_top off
  exact True.intro
/-! the same upon the ledger -/
noncomputable def HasNs (d : Addr) (od : Obj) (mA : Str → Option Value) : Prop := ∀ h : Heap, h.get? d = some od → h.Ns1 d mA
noncomputable def Is2 (K : Frag) (C : Addr) : Prop := ∃ nm q C2 N bs sn sub ab col dd k0 k1 k2 k3 k5, K.lookup C = some (excClassObj nm q C N bs (.ref C2 :: excE) true sn sub ab col dd k0 k1 k2 k3 k5 "Exception.__new__")
section
variable {prog : Program} {w : World} {A : Around} {E : Value → Shared → Prop} {s : Shared} {K : Frag} {h₀ : Heap} {L e C : Addr} {oe : Obj} {m : Str → Option Value} {news : List (Addr × Obj)}
theorem fr_but {h h' : Heap} (F : Fr h₀ L h m) (hL : e ≠ L) (h0 : h₀.get? e = none) (k : ∀ b o, b ≠ e → h.get? b = some o → h'.get? b = some o) : Fr h₀ L h' m := by
  obtain ⟨o, es, ep, ho, r⟩ := F.ns
  exact ⟨⟨o, es, ep, k _ _ (Ne.symm hL) ho, r⟩, fun b o hb => k b o (fun q => by rw [q, h0] at hb; cases hb) (F.keep b o hb), F.above⟩
theorem init_led {t0 : Addr} {v : Value} {Q : Value → Shared → Prop} (F : Fr h₀ L s.heap m) (X₀ : K.In h₀) (N : News h₀ L s.heap ((e, madeObj C t0) :: news)) (I2 : Is2 K C) (hne : ∀ p ∈ news, p.1 ≠ e)
    (k : ∀ h' y, Fr h₀ L h' m → News h₀ L h' ((e, madeObj C y) :: news) → Q .none { s with heap := h' }) :
    wpAny (model prog w) A (call (.builtin "Exception.__init__") [.ref e, v]) Q E s := by
  obtain ⟨nm, q, C2, Nn, bs, sn, sub, ab, col, dd, k0, k1, k2, k3, k5, hK⟩ := I2
  obtain ⟨he, hL, h0⟩ := N _ (.head _)
  have hC := F.keep _ _ (X₀ _ _ hK)
  obtain ⟨hp, g, d, t, os⟩ := s
  refine two_init hC he fun h' y up he' => k h' y (fr_but F hL h0 up) fun p hp => ?_
  rcases List.mem_cons.mp hp with rfl | hp
  · exact ⟨he', hL, h0⟩
  · obtain ⟨a, b, c⟩ := N p (.tail _ hp)
    exact ⟨up _ _ (hne p hp) a, b, c⟩
theorem store_led1 {nm : Str} {v : Value} {vs : Array Value} {Q : Unit → Shared → Prop} (F : Fr h₀ L s.heap m) (X₀ : K.In h₀) (N : News h₀ L s.heap ((e, oe) :: news)) (I2 : Is2 K C) (hne : ∀ p ∈ news, p.1 ≠ e)
    (hc : oe.cls = .ref C) (hd : oe.dict = none) (hv : oe.data = .fields vs) (hl : findIn K (.ref C) nm = some none) (hs : findIn K (.ref C) "__setattr__" = some (some (.builtin "object.__setattr__")))
    (k : ∀ h' tk' d od oe', Fr h₀ L h' m → News h₀ L h' ((e, oe') :: (d, od) :: news) → oe'.cls = .ref C → oe'.dict = some d → oe'.data = .fields vs → HasNs d od (fun y => if y = nm then some v else none) → d ≠ e → (∀ p ∈ news, p.1 ≠ d) → Q () { s with heap := h', toks := tk' }) :
    wpAny (model prog w) A (setAttr (.ref e) nm v) Q E s := by
  obtain ⟨nm2, q, C2, Nn, bs, sn, sub, ab, col, dd, k0, k1, k2, k3, k5, hK⟩ := I2
  obtain ⟨he, hL, h0⟩ := N _ (.head _)
  have X := X₀.keeps F.keep
  have hC := X _ _ hK
  obtain ⟨hp, g, dr, t, os⟩ := s
  refine two_store (mA := fun _ => none) (ns := []) hC (looks_findIn X hl) (looks_findIn X hs) ⟨oe, he, hc, (fun c q => by rw [hv] at q; cases q), .inl ⟨hd, fun _ => rfl⟩⟩ (fun h' tk' I' up sm => ?_) (fun _ h => absurd rfl h) (Nat.zero_le _)
  obtain ⟨o1, ho1, c1, d1, _, _, n1⟩ := sm oe he
  obtain ⟨o2, ho2, _, _, hdd⟩ := I'
  rw [ho1] at ho2
  obtain rfl := Option.some.inj ho2
  rcases hdd with ⟨_, hz⟩ | ⟨d, hdd, hde, hns⟩
  · have := hz nm
    simp at this
  have hdn : hp.get? d = none := (n1 d hdd).resolve_left fun q => by rw [hd] at q; cases q
  have up' : ∀ b o, b ≠ e → hp.get? b = some o → h'.get? b = some o := fun b o hb hbo => up b o hb (fun o₀ dx h1 h2 => by rw [he] at h1; cases h1; rw [hd] at h2; cases h2) hbo
  obtain ⟨od, es, ep, hod, r⟩ := hns
  refine k h' tk' d od o1 (fr_but F hL h0 up') (fun p hp' => ?_) (c1.trans hc) hdd (d1.trans hv) (fun h hh => ⟨od, es, ep, hh, r⟩) hde (fun p hp' q => ?_)
  · rcases List.mem_cons.mp hp' with rfl | hp'
    · exact ⟨ho1, hL, h0⟩
    · rcases List.mem_cons.mp hp' with rfl | hp'
      · refine ⟨hod, fun q => ?_, ?_⟩
        · obtain ⟨oL, _, _, hoL, _⟩ := F.ns
          have q' : d = L := q
          rw [← q', hdn] at hoL; cases hoL
        · cases q : h₀.get? d with
          | none => rfl
          | some o => have := F.keep _ _ q; rw [hdn] at this; cases this
      · obtain ⟨a, b, c⟩ := N p (.tail _ hp')
        exact ⟨up' _ _ (hne p hp') a, b, c⟩
  · have := (N p (.tail _ hp')).1
    rw [q, hdn] at this; cases this
theorem store_led2 {nm : Str} {v : Value} {vs : Array Value} {d : Addr} {od : Obj} {mA : Str → Option Value} {Q : Unit → Shared → Prop} {ns : List Str} (F : Fr h₀ L s.heap m) (X₀ : K.In h₀) (N : News h₀ L s.heap ((e, oe) :: (d, od) :: news)) (I2 : Is2 K C) (hne : ∀ p ∈ news, p.1 ≠ e) (hnd : ∀ p ∈ news, p.1 ≠ d) (hde : d ≠ e)
    (hc : oe.cls = .ref C) (hd : oe.dict = some d) (hv : oe.data = .fields vs) (hns : HasNs d od mA) (hw : PySem.Within mA ns) (hsz : ns.length ≤ sizeLine) (hl : findIn K (.ref C) nm = some none) (hs : findIn K (.ref C) "__setattr__" = some (some (.builtin "object.__setattr__")))
    (k : ∀ h' tk' od' oe', Fr h₀ L h' m → News h₀ L h' ((e, oe') :: (d, od') :: news) → oe'.cls = .ref C → oe'.dict = some d → oe'.data = .fields vs → HasNs d od' (fun y => if y = nm then some v else mA y) → Q () { s with heap := h', toks := tk' }) :
    wpAny (model prog w) A (setAttr (.ref e) nm v) Q E s := by
  obtain ⟨nm2, q, C2, Nn, bs, sn, sub, ab, col, dd, k0, k1, k2, k3, k5, hK⟩ := I2
  obtain ⟨he, hL, h0⟩ := N _ (.head _)
  obtain ⟨hod, hdL, hd0⟩ := N _ (.tail _ (.head _))
  have X := X₀.keeps F.keep
  have hC := X _ _ hK
  obtain ⟨hp, g, dr, t, os⟩ := s
  refine two_store (mA := mA) (ns := ns) hC (looks_findIn X hl) (looks_findIn X hs) ⟨oe, he, hc, (fun c q => by rw [hv] at q; cases q), .inr ⟨d, hd, hde, hns _ hod⟩⟩ (fun h' tk' I' up sm => ?_) hw hsz
  obtain ⟨o1, ho1, c1, d1, _, k1', n1⟩ := sm oe he
  obtain ⟨o2, ho2, _, _, hdd⟩ := I'
  rw [ho1] at ho2
  obtain rfl := Option.some.inj ho2
  have hd1 := k1' d hd
  rcases hdd with ⟨hz, _⟩ | ⟨d2, hdd, _, hns'⟩
  · rw [hd1] at hz; cases hz
  rw [hd1] at hdd
  cases hdd
  have up' : ∀ b o, b ≠ e → b ≠ d → hp.get? b = some o → h'.get? b = some o := fun b o hb hb2 hbo => up b o hb (fun o₀ dx h1 h2 => by rw [he] at h1; cases h1; rw [hd] at h2; cases h2; exact hb2) hbo
  obtain ⟨od', es, ep, hod', r⟩ := hns'
  refine k h' tk' od' o1 ⟨?_, fun b o hb => up' b o (fun q => by rw [q, h0] at hb; cases hb) (fun q => by rw [q, hd0] at hb; cases hb) (F.keep b o hb), F.above⟩ (fun p hp' => ?_) (c1.trans hc) hd1 (d1.trans hv) (fun h hh => ⟨od', es, ep, hh, r⟩)
  · obtain ⟨o, es, ep, ho, r⟩ := F.ns
    exact ⟨o, es, ep, up' _ _ (Ne.symm hL) (Ne.symm hdL) ho, r⟩
  · rcases List.mem_cons.mp hp' with rfl | hp'
    · exact ⟨ho1, hL, h0⟩
    · rcases List.mem_cons.mp hp' with rfl | hp'
      · exact ⟨hod', hdL, hd0⟩
      · obtain ⟨a, b, c⟩ := N p (.tail _ (.tail _ hp'))
        exact ⟨up' _ _ (hne p hp') (hnd p hp') a, b, c⟩
end

example : True := by
  w_top off
  exact True.intro
example : True := by
  k_with "getMethod type:Exception" => (k_here; k_dflt (refine' method_exc ?k1Zq ?k2Zq ?k3Zq ?k4Zq ?_; (case k1Zq => k_asm); (case k2Zq => k_asm); (case k3Zq => k_is); (case k4Zq => rfl)))
  k_with "call builtin:Exception.__init__" => (k_here; k_dflt (refine' init_led ?k1Zq ?k2Zq ?k3Zq ?k4Zq ?k5Zq ?_; (case k1Zq => k_asm); (case k2Zq => k_asm); (case k3Zq => k_asm); (case k4Zq => assumption); (case k5Zq => assumption); k_whole); intro hyx yyx Fyx Nyx; (try k_sweep))
  exact True.intro
set_option maxHeartbeats 4000000 in
theorem run_init0 {w : World} {mean : ExcName → Option Value} {mg mb : Str → Option Value} (e C t0 : Addr) (txt : Str) (t : Tok) {dp un : Nat} {gd : Option (List Code)} {cn : Str} {cs : Scope} {aF : Addr} {ccd : Value} {cl : List (Str × Addr)} {outer : List Env} {A₀ : Around} {base h₀ : Heap} {L : Addr} {m : Str → Option Value} {s : Shared} {Q E : Value → Shared → Prop} {news : List (Addr × Obj)}
    (B : Below A₀ base outer h₀) (F : Fr h₀ L s.heap m) (X : Frag.In (hd.heap_1 w.params) h₀) (N : News h₀ L s.heap ((e, madeObj C t0) :: news)) (T : Top hd.view_39 (looseW hd.view_39 []) mean mg mb h₀) (hk : cs.kind = .function) (hdp : dp + 3 < recursionLimit)
    (I2 : Is2 (hd.heap_1 w.params) C) (hne : ∀ p ∈ news, p.1 ≠ e) (hl : findIn (hd.heap_1 w.params) (.ref C) (Str.ofString "text") = some none) (hs : findIn (hd.heap_1 w.params) (.ref C) "__setattr__" = some (some (.builtin "object.__setattr__")))
    (ret : ∀ h' tk' d od oe' vs, Fr h₀ L h' m → News h₀ L h' ((e, oe') :: (d, od) :: news) → oe'.cls = .ref C → oe'.dict = some d → oe'.data = .fields vs → vs[1]? = some .none → HasNs d od (fun y => if y = Str.ofString "text" then some (.str txt t) else none) → d ≠ e → (∀ p ∈ news, p.1 ≠ d) → Q .none { s with heap := h', toks := tk' }) :
    wpAny (model Challenge.rw_nt0423_01.row.prog w) (ktrTop dp un gd cn cs L aF ccd cl outer) (call (.ref 98) [.ref e, .str txt t]) Q E s := by
  revert X; k_fill; intro X
  ( refine wpAny_call ?_; k_dflt (refine' code_def (binds := [("self", .ref e), ("text", .str txt t)]) ?k1u139 ?k2u139 ?k3u139 ?k4u139 ?k5u139 ?kAu139 ?kFu139 ?kKu139 ?k6u139 ?k7u139 ?k8u139 ?k9u139 ?kBu139 ?_ ?c2u139 ?c3u139 ?c4u139 ?c5u139; (case kAu139 => exact rfl); (case kFu139 => exact rfl); (case kKu139 => assumption); (case k1u139 => k_asm); (case k2u139 => k_asm); (case k3u139 => k_asm); (case k4u139 => k_asm); (case k5u139 => k_asm); (case k6u139 => k_is); (case k7u139 => k_is); (case k8u139 => ktr_room); (case k9u139 => exact BindsTo.of_eq rfl); (case c5u139 => decide); (case kBu139 => exact locs rfl); (case c2u139 => exact rfl); (case c3u139 => exact rfl); (case c4u139 => exact rfl); k_whole))
  intro g' L' h' FG' F' N' B' X' T'
  walk_at "M go"
  refine store_led1 (by assumption) (by assumption) (by assumption) I2 hne rfl rfl rfl hl hs fun h9 tk9 d od oe' F9 N9 c9 d9 v9 ns9 de9 nd9 => ?_
  walk_at "M go"
  exact ret _ _ d od oe' _ (by assumption) (by assumption) c9 d9 v9 rfl ns9 de9 nd9
theorem within2 {x : Str} {v : Value} : PySem.Within (fun y => if y = x then some v else none) [x] := fun y h => by
  by_cases e : y = x
  · rw [e]; exact .head _
  · exact absurd (if_neg e) h
set_option maxHeartbeats 4000000 in
theorem run_init1 {w : World} {mean : ExcName → Option Value} {mg mb : Str → Option Value} (e t0 : Addr) (v : Value) {dp un : Nat} {gd : Option (List Code)} {cn : Str} {cs : Scope} {aF : Addr} {ccd : Value} {cl : List (Str × Addr)} {outer : List Env} {A₀ : Around} {base h₀ : Heap} {L : Addr} {m : Str → Option Value} {s : Shared} {Q E : Value → Shared → Prop} {news : List (Addr × Obj)}
    (B : Below A₀ base outer h₀) (F : Fr h₀ L s.heap m) (X : Frag.In (hd.heap_1 w.params) h₀) (N : News h₀ L s.heap ((e, madeObj 121 t0) :: news)) (T : Top hd.view_39 (looseW hd.view_39 []) mean mg mb h₀) (hk : cs.kind = .function) (hdp : dp + 8 < recursionLimit)
    (I2 : Is2 (hd.heap_1 w.params) 121) (hne : ∀ p ∈ news, p.1 ≠ e) (hl : findIn (hd.heap_1 w.params) (.ref 121) (Str.ofString "text") = some none) (hl2 : findIn (hd.heap_1 w.params) (.ref 121) (Str.ofString "square") = some none) (hs : findIn (hd.heap_1 w.params) (.ref 121) "__setattr__" = some (some (.builtin "object.__setattr__")))
    (ret : ∀ h' tk' d od oe' vs mA, Fr h₀ L h' m → News h₀ L h' ((e, oe') :: (d, od) :: news) → oe'.cls = .ref 121 → oe'.dict = some d → oe'.data = .fields vs → vs[1]? = some .none → HasNs d od mA → mA (Str.ofString "square") = some v → d ≠ e → (∀ p ∈ news, p.1 ≠ d) → Q .none { s with heap := h', toks := tk' }) :
    wpAny (model Challenge.rw_nt0423_01.row.prog w) (ktrTop dp un gd cn cs L aF ccd cl outer) (call (.ref 118) [.ref e, v]) Q E s := by
  revert X; k_fill; intro X
  ( refine wpAny_call ?_; k_dflt (refine' code_def (binds := [("self", .ref e), ("square", v)]) ?k1u140 ?k2u140 ?k3u140 ?k4u140 ?k5u140 ?kAu140 ?kFu140 ?kKu140 ?k6u140 ?k7u140 ?k8u140 ?k9u140 ?kBu140 ?_ ?c2u140 ?c3u140 ?c4u140 ?c5u140; (case kAu140 => exact rfl); (case kFu140 => exact rfl); (case kKu140 => assumption); (case k1u140 => k_asm); (case k2u140 => k_asm); (case k3u140 => k_asm); (case k4u140 => k_asm); (case k5u140 => k_asm); (case k6u140 => k_is); (case k7u140 => k_is); (case k8u140 => ktr_room); (case k9u140 => exact BindsTo.of_eq rfl); (case c5u140 => decide); (case kBu140 => exact locs rfl); (case c2u140 => exact rfl); (case c3u140 => exact rfl); (case c4u140 => exact rfl); k_whole))
  intro g' L' h' FG' F' N' B' X' T'
  walk_at "M go"
  refine go_on ?_
  k_dflt (refine' run_init0 e 121 t0 _ _ ?k1 ?k2 ?k3 ?k4 ?k5 ?k6 ?k7 I2 hne hl hs ?_)
  case k1 => assumption
  case k2 => assumption
  case k3 => assumption
  case k4 => assumption
  case k5 => assumption
  case k6 => rfl
  case k7 => ktr_room
  intro h8 tk8 d od oe vs F8 N8 c8 d8 v8 n8 ns8 de8 nd8
  walk_at "M go"
  refine store_led2 (ns := [Str.ofString "text"]) (by assumption) (by assumption) (by assumption) I2 hne nd8 de8 c8 d8 v8 ns8 within2 (by decide) hl2 hs fun h9 tk9 od' oe' F9 N9 c9 d9 v9 ns9 => ?_
  walk_at "M go"
  exact ret _ _ d od' oe' _ _ (by assumption) (by assumption) c9 d9 v9 n8 ns9 (if_pos rfl) de8 nd8

example : True := by
  w_top off
  exact True.intro
/-! it leaves the frame that raised it -/
noncomputable def RaD (base G : Heap) (l : List Env) (e C : Addr) (nm : Str) (v : Value) (news : List (Addr × Obj)) (h : Heap) : Prop :=
  ∃ B d od mA, base.StaysIn B ∧ (∀ b o, G.get? b = some o → b ∉ l.filterMap (·.frame) → B.get? b = some o) ∧ (∀ q ∈ (d, od) :: news, B.get? q.1 = some q.2 ∧ G.get? q.1 = none ∧ base.get? q.1 = none) ∧ Fly B l e C d .none h ∧ HasNs d od mA ∧ mA nm = some v
section
variable {M : Model} {A : Around} {E : Value → Shared → Prop} {s' : Shared} {base g : Heap} {outer : List Env} {L a e C d : Addr} {oe od : Obj} {vs : Array Value} {mA : Str → Option Value} {nm : Str} {v : Value} {m : Str → Option Value} {name : Str} {scope : Scope} {cd : Value} {Q : Unit → Shared → Prop} {news : List (Addr × Obj)}
theorem leave_led (K : Below A base outer g) (F : Fr g L s'.heap m) (N : News g L s'.heap ((e, oe) :: (d, od) :: news)) (hc : oe.cls = .ref C) (hd : oe.dict = some d) (hv : oe.data = .fields vs) (h1 : vs[1]? = some .none) (hns : HasNs d od mA) (hm : mA nm = some v)
    (hde : d ≠ e) (hne : ∀ p ∈ news, p.1 ≠ e)
    (k : ∀ h', RaD base g outer e C nm v news h' → g.UpToSlots h' → Q () { s' with heap := h' }) (hk : scope.kind = .function := by rfl) :
    wpAny M (A.deeper (envOf name scope L a cd)) (leaving (envOf name scope L a cd) (.ref e)) Q E s' := by
  have K' := K.push (name := name) (a := a) (cd := cd) F hk
  obtain ⟨he, heL, he0⟩ := N _ (.head _)
  have inFr : ∀ env ∈ (envOf name scope L a cd :: outer), ∀ b, env.frame = some b → b ∈ e :: (envOf name scope L a cd :: outer).filterMap (·.frame) := fun env hx b hb => .tail _ (List.mem_filterMap.mpr ⟨env, hx, hb⟩)
  have frIn : ∀ b, b ∈ (envOf name scope L a cd :: outer).filterMap (·.frame) → b = L ∨ ∃ o, g.get? b = some o := fun b hb => by
    rcases kts_mem hb with z | z
    · exact .inl z
    · obtain ⟨_, o, ho, _⟩ := K.frames.mem z
      exact .inr ⟨o, ho⟩
  have hid : ∀ b o, s'.heap.get? b = some o → b ≠ e → b ∉ (envOf name scope L a cd :: outer).filterMap (·.frame) → (hideAll s'.heap (e :: (envOf name scope L a cd :: outer).filterMap (·.frame))).get? b = some o := fun b o hb h2 h3 => hideAll_get _ hb fun hx => by
    rcases List.mem_cons.mp hx with z | z
    · exact h2 z
    · exact h3 z
  have newOff : ∀ q ∈ (e, oe) :: (d, od) :: news, q.1 ∉ (envOf name scope L a cd :: outer).filterMap (·.frame) := fun q hq hx => by
    obtain ⟨_, b2, c2⟩ := N q hq
    rcases frIn _ hx with z | ⟨o, ho⟩
    · exact b2 z
    · rw [c2] at ho; cases ho
  refine leave_first (base := hideAll s'.heap (e :: (envOf name scope L a cd :: outer).filterMap (·.frame))) (d := d) K'.stack (funFrames_hide K'.frames inFr) rfl he ⟨hc, hd⟩ (fun b o q => of_hideAll _ q) (hideAll_none _ (.head _)) hv h1 fun h' H U => ?_
  refine k h' ⟨_, d, od, mA, fun b o q => ?_, fun b o q nf => ?_, fun q hq => ?_, H, hns, hm⟩ ((Heap.UpToSlots.of_keeps F.keep).trans U)
  · refine hid b o (K'.stays b o q) (fun z => ?_) fun z => ?_
    · rw [z] at q
      have := K.stays _ _ q
      rw [he0] at this; cases this
    · rw [(K'.frames.mem z).1] at q; cases q
  · refine hid b o (F.keep b o q) (fun z => by rw [z, he0] at q; cases q) fun z => ?_
    rcases kts_mem z with z | z
    · rw [z, kts_self F] at q; cases q
    · exact nf z
  · have hq' : q ∈ (e, oe) :: (d, od) :: news := .tail _ hq
    obtain ⟨a2, b2, c2⟩ := N q hq'
    refine ⟨hid _ _ a2 ?_ (newOff q hq'), c2, fresh_of_stays K.stays c2⟩
    rcases List.mem_cons.mp hq with rfl | hq
    · exact hde
    · exact hne q hq
end

example : True := by
  w_top off
  exact True.intro
example : True := by
  k_with "exec Raise some none" => (k_here; k_dflt (refine raise_own rfl ?_))
  exact True.intro
theorem make_led {prog : Program} {w : World} {A : Around} {E : Value → Shared → Prop} {s : Shared} {K : Frag} {h₀ : Heap} {L C fI : Addr} {oI : Obj} {m : Str → Option Value} {news : List (Addr × Obj)} {rest : List Value} {Q : Value → Shared → Prop}
    (F : Fr h₀ L s.heap m) (X₀ : K.In h₀) (N : News h₀ L s.heap news) (I2 : Is2 K C) (hi : findIn K (.ref C) "__init__" = some (some (.ref fI))) (ho : K.lookup fI = some oI) (hf : oI.cls = .type "function") (hr : rest.length ≤ sizeLine)
    (k : ∀ h' e t0, Fr h₀ L h' m → News h₀ L h' ((e, madeObj C t0) :: news) → (∀ p ∈ news, p.1 ≠ e) →
      wpAny (model prog w) (A.under (.builtin "type.__call__" ⟨.ref C :: rest, []⟩)) (call (.ref fI) (.ref e :: rest)) (fun r s' => r = .none ∧ Q (.ref e) s') E { s with heap := h' }) :
    wpAny (model prog w) A (call (.ref C) rest) Q E s := by
  obtain ⟨nm, q, C2, Nn, bs, sn, sub, ab, col, dd, k0, k1, k2, k3, k5, hK⟩ := I2
  have X := X₀.keeps F.keep
  obtain ⟨hp, g, d, t, os⟩ := s
  refine two_call (X _ _ hK) (looks_findIn X hi) (X _ _ ho) hf (fun h' e M => ?_) hr
  obtain ⟨t0, he, _, _⟩ := M.there
  refine k h' e t0 (F.keeps M.keeps) (fun p hp' => ?_) fun p hp' q => ?_
  · rcases List.mem_cons.mp hp' with rfl | hp'
    · refine ⟨he, fun q => ?_, ?_⟩
      · obtain ⟨oL, _, _, hoL, _⟩ := F.ns
        have q' : e = L := q
        have := M.new
        rw [q', hoL] at this; cases this
      · cases q : h₀.get? e with
        | none => rfl
        | some o => have := F.keep _ _ q; rw [M.new] at this; cases this
    · obtain ⟨a, b, c⟩ := N p hp'
      exact ⟨M.keeps _ _ a, b, c⟩
  · have := (N p hp').1
    rw [q, M.new] at this; cases this
set_option maxHeartbeats 4000000 in
theorem bad_square {w : World} {mean : ExcName → Option Value} {mg mb : Str → Option Value} (files sq : Int) (t u : Tok) {dp un : Nat} {gd : Option (List Code)} {cn : Str} {cs : Scope} {aF : Addr} {ccd : Value} {outer : List Env} {A₀ : Around} {base h₀ : Heap} {L : Addr} {m : Str → Option Value} {s : Shared} {Q E : Value → Shared → Prop} {news : List (Addr × Obj)}
    (B : Below A₀ base outer h₀) (F : Fr h₀ L s.heap m) (X : Frag.In (hd.heap_1 w.params) h₀) (N : News h₀ L s.heap news) (T : Top hd.view_39 (looseW hd.view_39 []) mean mg mb h₀) (hk : cs.kind = .function) (hdp : dp + 12 < recursionLimit)
    (hf : 0 < files ∧ files ≤ 8) (hsq : sq < 0 ∨ sq ≥ files * 8)
    (ret : ∀ e h' tk' G, Fr h₀ L G m → RaD base G (envX cn cs L aF ccd [] :: outer) e 121 (Str.ofString "square") (.int sq u) news h' → G.UpToSlots h' → E (.ref e) { s with heap := h', toks := tk' }) :
    wpAny (model Challenge.rw_nt0423_01.row.prog w) (ktrTop dp un gd cn cs L aF ccd [] outer) (call (.ref 247) [.int files t, .int sq u]) Q E s := by
  revert X; k_fill; intro X
  ( refine wpAny_call ?_; k_dflt (refine' code_def (binds := [("files", .int files t), ("square", .int sq u)]) ?k1u143 ?k2u143 ?k3u143 ?k4u143 ?k5u143 ?kAu143 ?kFu143 ?kKu143 ?k6u143 ?k7u143 ?k8u143 ?k9u143 ?kBu143 ?_ ?c2u143 ?c3u143 ?c4u143 ?c5u143; (case kAu143 => exact rfl); (case kFu143 => exact rfl); (case kKu143 => assumption); (case k1u143 => k_asm); (case k2u143 => k_asm); (case k3u143 => k_asm); (case k4u143 => k_asm); (case k5u143 => k_asm); (case k6u143 => k_is); (case k7u143 => k_is); (case k8u143 => ktr_room); (case k9u143 => exact BindsTo.of_eq rfl); (case c5u143 => decide); (case kBu143 => exact locs rfl); (case c2u143 => exact rfl); (case c3u143 => exact rfl); (case c4u143 => exact rfl); k_whole))
  intro g' L' h' FG' F' N' B' X' T'
  have i2 : Is2 (hd.heap_1 w.params) 121 := ⟨_, _, _, _, _, _, _, _, _, _, _, _, _, _, _, by k_is⟩
  have hl : findIn (hd.heap_1 w.params) (.ref 121) (Str.ofString "text") = some none := by k_is
  have hl2 : findIn (hd.heap_1 w.params) (.ref 121) (Str.ofString "square") = some none := by k_is
  have hs : findIn (hd.heap_1 w.params) (.ref 121) "__setattr__" = some (some (.builtin "object.__setattr__")) := by k_is
  have hwt : (Code.builtin "type.__call__" ⟨[.ref 121, .int sq u], []⟩).weight = 1 := rfl
  walk_at "M go"
  all_goals
    refine go_on ?_
    refine make_led (by assumption) (by assumption) (by assumption) i2 (by k_is) (by k_is) rfl (by show 1 ≤ sizeLine; decide) fun h8 e t0 F8 N8 ne8 => ?_
    (k_dflt (refine' (run_init1 e t0 (.int sq u)) ?k1u144 ?k2u144 ?k3u144 ?k4u144 ?k5u144 ?k6u144 ?k7u144 ?k8u144 ?k9u144 ?k10u144 ?k11u144 ?k12u144 ?_); (case k1u144 => assumption); (case k2u144 => assumption); (case k3u144 => assumption); (case k4u144 => assumption); (case k5u144 => assumption); (case k6u144 => rfl); (case k7u144 => ktr_room); (case k8u144 => assumption); (case k9u144 => assumption); (case k10u144 => assumption); (case k11u144 => assumption); (case k12u144 => assumption))
    intro h9 tk9 d od oe vs mA F9 N9 c9 d9 v9 n9 ns9 hm9 de9 nd9
    obtain ⟨nm2, q2, C2, Nn, bs, sn, sub, ab, col, dd, k0, k1, k2, k3, k5, hK⟩ := i2
    refine ⟨rfl, nm2, q2, 121, C2, Nn, bs, true, sn, sub, ab, col, dd, k0, k1, k2, k3, k5, e, oe, vs, rfl, F9.keep _ _ (X' _ _ hK), (N9 _ (.head _)).1, c9, v9, n9, ?_⟩
    exact leave_led B' F9 N9 c9 d9 v9 n9 ns9 hm9 de9 ne8 fun h10 R10 U10 => ret e h10 _ g' FG' R10 U10

example : True := by
  w_top off
  exact True.intro
/-! it is caught by its class's name, in a frame of any depth -/
section
variable {prog : Program} {w : World} {A₀ : Around} {E : Value → Shared → Prop} {s' : Shared} {base g g₀ G : Heap} {outer : List Env} {L a e C : Addr} {m : Str → Option Value} {name : Str} {scope : Scope} {cd : Value}
  {n : Str} {b₀ : Stmt} {suite : List Stmt} {pos np : Pos} {rest : List ExceptHandler} {Q : Flow → Shared → Prop} {news : List (Addr × Obj)} {KF : Frag} {nm : Str} {v : Value}
  {p : Program} {loose : List Str} {mean : ExcName → Option Value} {mg mb : Str → Option Value} {x : Str}
theorem caught_own2 (R : RaD base G (envOf name scope L a cd :: outer) e C nm v news s'.heap) (F : Fr g L G m) (K : Below A₀ base outer g) (hsm : G.UpToSlots s'.heap) (XB : KF.In base) (TB : Top p loose mean mg mb base)
    (D : KtsDicts (outer.filterMap (·.frame)) g) (T0 : KtsTurn (outer.filterMap (·.frame)) g₀ g)
    (ex : nsIn KF mainGlobals x = some (some (.ref C))) (q : ktsIn KF C "BaseException" = true)
    (k : ∀ h' g' tk oe d od mA ws, KtsTurn (outer.filterMap (·.frame)) g₀ g' → Fr g' L h' (fun y => if y = n then some (.ref e) else m y) → News g' L h' ((e, oe) :: (d, od) :: news) → oe.cls = .ref C → oe.dict = some d → oe.data = .fields ws → d ≠ e → HasNs d od mA → mA nm = some v →
      Below A₀ base outer g' → KF.In g' → Top p loose mean mg mb g' → KtsDicts (outer.filterMap (·.frame)) g' →
      wpAny (model prog w) ((A₀.deeper (envOf name scope L a cd)).mark (some (.ref e))) (execs (b₀ :: suite) (envOf name scope L a cd))
        (fun f s₄ => wpAny (model prog w) (A₀.deeper (envOf name scope L a cd)) (do bindName (envOf name scope L a cd) n .none; unbindBehindTheSuite (envOf name scope L a cd) n pos) (fun _ s₅ => Q f s₅) E s₄)
        (AsSuiteRaised (model prog w) ((A₀.deeper (envOf name scope L a cd)).mark (some (.ref e))) (envOf name scope L a cd) n pos (notedBy (model prog w) ((A₀.deeper (envOf name scope L a cd)).mark (some (.ref e))) (envOf name scope L a cd) (cameBackBy (model prog w) (A₀.deeper (envOf name scope L a cd)) (envOf name scope L a cd) E)))
        { s' with heap := h', toks := tk })
    (hk : scope.kind = .function := by rfl) (hlo : (envOf name scope L a cd).kindOf n = some .local := by rfl) (hx : (envOf name scope L a cd).kindOf x = some .globalImplicit := by rfl) (hd : (x == ("__debug__" : Str)) = false := by decide) :
    wpAny (model prog w) (A₀.deeper (envOf name scope L a cd)) (noteFrame (.ref e) (envOf name scope L a cd))
      (fun _ s₂ => wpAny (model prog w) (A₀.deeper (envOf name scope L a cd)) (setFlight (.ref e) none) (fun _ s₃ =>
        wpAny (model prog w) (A₀.deeper (envOf name scope L a cd)) (handleBy (.ref e) (envOf name scope L a cd) (.ExceptHandler (some (.Name x np)) (some n) (b₀ :: suite) pos :: rest)) Q E s₃) E s₂) E s' := by
  obtain ⟨B, d, od, mA, hB, hBG, hl, hfl, hns, hm⟩ := R
  have hL : B.get? L = none := by
    obtain ⟨_, ⟨L', _, hf, hn', _⟩, _⟩ := hfl.2.2.1
    obtain rfl : L = L' := Option.some.inj hf
    exact hn'
  refine note_next (Around.frames_deeper K.stack) rfl hfl fun h₄ H₄ U₄ => ?_
  refine land H₄ fun h₅ H₅ U₅ => ?_
  have hsm₅ := hsm.trans (U₄.trans U₅)
  obtain ⟨g₅, T₅, F₅, K₅⟩ := kts_ground K F hBG H₅.1 hsm₅
  have X₅ : KF.In g₅ := XB.keeps K₅.stays
  have P₅ : TopRead p loose mg mb g₅ := topRead_of (TB.keeps K₅.stays)
  obtain ⟨ob, hob, hobc⟩ : ∃ ob, h₅.get? e = some ob ∧ ob.cls = .ref C := by
    obtain ⟨_, _, _, oe, _, _, _, _, he, hc, _⟩ := H₅
    exact ⟨oe, he, hc.1⟩
  obtain ⟨nm', q', Nn, bs, bm, hdct, sn, sub, ab, col, dd, k0, k1, k2, k3, k5, newId, hC, hbase, hbT⟩ := kts_cls X₅ q
  have hC₅ := F₅.keep _ _ hC
  refine wpAny_handleBy_cons (codeAny_handlers_test (name_K F₅ X₅ P₅ ex ?_ hk hx hd)) (by intro q; cases q)
  refine wpAny_excMatches_sub_self hC₅ hob hobc hbase (codeAny_handlers_suite_as ?_)
  refine land H₅ fun h₆ H₆ U₆ => ?_
  have hsm₆ := hsm₅.trans U₆
  obtain ⟨g₆, T₆, F₆, K₆⟩ := kts_ground K F hBG H₆.1 hsm₆
  obtain ⟨_, hBe, _, oe, ws, _, _, _, hoe, hcd, hoed, _⟩ := id H₆
  have ne₆ : g₆.get? e = none := T₆.none_ _ (kts_fresh F hBG hBe fun o ho m => by
    obtain ⟨_, o', ho', hd⟩ := K.frames.mem m
    rw [ho] at ho'
    cases ho'
    obtain ⟨sl, hs⟩ := hsm₆ _ _ (F.keep _ _ ho) hd
    rw [hoe] at hs
    cases hs
    exact hd _ hoed)
  have hde : d ≠ e := fun z => by
    have := (hl _ (.head _)).1
    rw [show ((d, od) : Addr × Obj).1 = d from rfl, z, hBe] at this
    cases this
  have heL : e ≠ L := fun z => by
    obtain ⟨oL, es, ep, hoL, hLd, _⟩ := F₆.ns
    rw [← z, hoe] at hoL
    cases hoL
    rw [hoed] at hLd; cases hLd
  have N₆ : News g₆ L h₆ ((e, oe) :: (d, od) :: news) := fun r hr => by
    rcases List.mem_cons.mp hr with rfl | hr
    · exact ⟨hoe, heL, ne₆⟩
    · exact ⟨H₆.1 _ _ (hl r hr).1, (fun z => by have := (hl r hr).1; rw [z, hL] at this; cases this), T₆.none_ _ (kts_none F.keep (hl r hr).2.1)⟩
  have X₆ : KF.In g₆ := XB.keeps K₆.stays
  have P₆ : Top p loose mean mg mb g₆ := TB.keeps K₆.stays
  have D₆ : KtsDicts (outer.filterMap (·.frame)) g₆ := D.turn T₆
  refine stN F₆ N₆ (fun h₇ F₇ N₇ => ?_) hk hlo
  exact k h₇ g₆ _ oe d od mA ws (T0.trans T₆) F₇ N₇ hcd.1 hcd.2 hoed hde hns hm K₆ X₆ P₆ D₆
/-! the attribute is read -/
theorem load_led {A : Around} {E : Value → Shared → Prop} {s : Shared} {K : Frag} {h₀ : Heap} {oe od : Obj} {d : Addr} {mA : Str → Option Value} {ws : Array Value} {expr : Bool} {Q : Value → Shared → Prop} (F : Fr h₀ L s.heap m) (X₀ : K.In h₀) (N : News h₀ L s.heap ((e, oe) :: (d, od) :: news)) (I2 : Is2 K C)
    (hc : oe.cls = .ref C) (hd : oe.dict = some d) (hv : oe.data = .fields ws) (hde : d ≠ e) (hns : HasNs d od mA) (hm : mA nm = some v) (hl : findIn K (.ref C) nm = some none)
    (hg1 : findIn K (.ref C) "__getattribute__" = some (some (.builtin "BaseException.__getattribute__"))) (hg2 : findIn K (.ref C) "__getattr__" = some none) (hh : handedIn v = true) (k : Q v { s with toks := s.toks + 1 }) :
    wpAny (model prog w) A (getAttr (.ref e) nm expr) Q E s := by
  obtain ⟨nm2, q, C2, Nn, bs, sn, sub, ab, col, dd, k0, k1, k2, k3, k5, hK⟩ := I2
  have X := X₀.keeps F.keep
  have he := (N _ (.head _)).1
  have hod := (N _ (.tail _ (.head _))).1
  obtain ⟨hp, g, dr, t, os⟩ := s
  exact two_load (X _ _ hK) (looks_findIn X hl) (looks_findIn X hg1) (looks_findIn X hg2) ⟨oe, he, hc, (fun c q => by rw [hv] at q; cases q), .inr ⟨d, hd, hde, hns _ hod⟩⟩ hm (handedOut_of hh) k
end

example : True := by
  w_top off
  exact True.intro
/-- what a call gives that may raise and catch within: the frames below may bear new slots, the rest stands -/
noncomputable def ClX (w : World) (mean : ExcName → Option Value) (mg mb : Str → Option Value) (f : Addr) (D : Nat) (vs : List Value) (post : Value → Prop) : Prop :=
  ∀ (dp un : Nat) (gd : Option (List Code)) (cn : Str) (cs : Scope) (a : Addr) (ccd : Value) (outer : List Env) (A₀ : Around) (base g₀ h₀ : Heap) (L : Addr) (m : Str → Option Value) (s : Shared) (Q E : Value → Shared → Prop) (news : List (Addr × Obj)),
    Below A₀ base outer h₀ → Fr h₀ L s.heap m → Frag.In (hd.heap_1 w.params) h₀ → News h₀ L s.heap news → Top hd.view_39 (looseW hd.view_39 []) mean mg mb h₀ → Frag.In (hd.heap_1 w.params) base → Top hd.view_39 (looseW hd.view_39 []) mean mg mb base →
    KtsDicts (outer.filterMap (·.frame)) h₀ → KtsTurn (outer.filterMap (·.frame)) g₀ h₀ → cs.kind = .function → dp + D < recursionLimit → un + 8 * D < cLine →
    (∀ (v : Value) (h' : Heap) (tk' : Nat) (h₀' : Heap), KtsTurn (outer.filterMap (·.frame)) g₀ h₀' → Fr h₀' L h' m → News h₀' L h' news → Below A₀ base outer h₀' → Frag.In (hd.heap_1 w.params) h₀' → Top hd.view_39 (looseW hd.view_39 []) mean mg mb h₀' → KtsDicts (outer.filterMap (·.frame)) h₀' → post v → Q v { s with heap := h', toks := tk' }) →
    wpAny (model Challenge.rw_nt0423_01.row.prog w) (ktrTop dp un gd cn cs L a ccd [] outer) (call (.ref f) vs) Q E s
theorem ClX.use {w : World} {mean : ExcName → Option Value} {mg mb : Str → Option Value} {f : Addr} {D : Nat} {vs : List Value} {post : Value → Prop} (C : ClX w mean mg mb f D vs post)
    {dp un : Nat} {gd : Option (List Code)} {cn : Str} {cs : Scope} {a : Addr} {ccd : Value} {outer : List Env} {A₀ : Around} {base g₀ h₀ : Heap} {L : Addr} {m : Str → Option Value} {s : Shared} {Q E : Value → Shared → Prop} {news : List (Addr × Obj)}
    (B : Below A₀ base outer h₀) (F : Fr h₀ L s.heap m) (X : Frag.In (hd.heap_1 w.params) h₀) (N : News h₀ L s.heap news) (T : Top hd.view_39 (looseW hd.view_39 []) mean mg mb h₀) (XB : Frag.In (hd.heap_1 w.params) base) (TB : Top hd.view_39 (looseW hd.view_39 []) mean mg mb base)
    (D' : KtsDicts (outer.filterMap (·.frame)) h₀) (T0 : KtsTurn (outer.filterMap (·.frame)) g₀ h₀) (hk : cs.kind = .function) (hdp : dp + D < recursionLimit) (hu : un + 8 * D < cLine)
    (ret : ∀ (v : Value) (h' : Heap) (tk' : Nat) (h₀' : Heap), KtsTurn (outer.filterMap (·.frame)) g₀ h₀' → Fr h₀' L h' m → News h₀' L h' news → Below A₀ base outer h₀' → Frag.In (hd.heap_1 w.params) h₀' → Top hd.view_39 (looseW hd.view_39 []) mean mg mb h₀' → KtsDicts (outer.filterMap (·.frame)) h₀' → post v → Q v { s with heap := h', toks := tk' }) :
    wpAny (model Challenge.rw_nt0423_01.row.prog w) (ktrTop dp un gd cn cs L a ccd [] outer) (call (.ref f) vs) Q E s :=
  C _ _ _ _ _ _ _ _ _ _ _ _ _ _ _ _ _ _ B F X N T XB TB D' T0 hk hdp hu ret
set_option maxHeartbeats 4000000 in
theorem clx_lawname {w : World} {mean : ExcName → Option Value} {mg mb : Str → Option Value} (files sq : Int) (hf : 0 < files ∧ files ≤ 8) (hsq : sq < 0 ∨ sq ≥ files * 8) (t u : Tok) : ClX w mean mg mb 304 20 [.int files t, .int sq u] (fun v => ∃ t, v = .int sq t) := by
  unfold ClX; k_fill
  intro dp un gd cn cs aF ccd outer A₀ base g₀ h₀ L m s Q E news B F X N T XB TB D T0 hk hdp hu ret
  ( refine wpAny_call ?_; k_dflt (refine' code_defS (binds := [("files", .int files t), ("square", .int sq u)]) ?k1u146 ?k2u146 ?k3u146 ?k4u146 ?k5u146 ?x1u146 ?x2u146 ?x3u146 ?x4u146 ?kAu146 ?k6u146 ?k7u146 ?k8u146 ?k9u146 ?kBu146 ?_ ?kKu146 ?c2u146 ?c3u146 ?c4u146 ?c5u146; (case kAu146 => exact rfl); (case kKu146 => assumption); (case k1u146 => k_asm); (case k2u146 => k_asm); (case k3u146 => k_asm); (case k4u146 => k_asm); (case k5u146 => k_asm); (case x1u146 => assumption); (case x2u146 => assumption); (case x3u146 => assumption); (case x4u146 => assumption); (case k6u146 => k_is); (case k7u146 => k_is); (case k8u146 => ktr_room); (case k9u146 => exact BindsTo.of_eq rfl); (case c5u146 => decide); (case kBu146 => exact locs rfl); (case c2u146 => exact rfl); (case c3u146 => exact rfl); (case c4u146 => exact rfl); k_whole))
  intro g' L' h' FG' F' N' B' X' T' D'
  walk_at "M go"
  refine go_on ?_
  k_dflt (refine' bad_square files sq t u ?k1 ?k2 ?k3 ?k4 ?k5 ?k6 ?k7 hf hsq ?_)
  case k1 => assumption
  case k2 => assumption
  case k3 => assumption
  case k4 => assumption
  case k5 => assumption
  case k6 => rfl
  case k7 => ktr_room
  intro e h9 tk9 G9 F9 R9 U9
  (try k_unfold)
  (try dsimp only)
  k_dflt (refine' caught_own2 R9 F9 B' U9 ?x1 ?x2 ?x3 KtsTurn.refl ?x5 ?x6 ?_)
  case x1 => assumption
  case x2 => assumption
  case x3 => assumption
  case x5 => k_is
  case x6 => kts_isx
  intro h8 g8 tk8 oe d od mA ws T8 F8 N8 c8 d8 v8 de8 ns8 hm8 K8 X8 P8 D8
  have i2 : Is2 (hd.heap_1 w.params) 121 := ⟨_, _, _, _, _, _, _, _, _, _, _, _, _, _, _, by k_is⟩
  clear F' N' B' X' T' D' R9 U9 F9
  walk_at "M go"
  refine load_led F8 X8 N8 i2 c8 d8 v8 de8 ns8 hm8 (by k_is) (by k_is) (by k_is) rfl ?_
  walk_at "M go"
  (rename KtsTurn _ g₀ _ => kT9)
  refine ret _ _ _ _ kT9 (by assumption) ?_ (by assumption) (by assumption) (by assumption) (by assumption) ⟨_, rfl⟩
  exact news_tail (news_tail (by assumption))

example : True := by
  w_top off
  exact True.intro
example : True := by
  k_with "getMethod type:Exception" => (k_here; k_dflt (refine' method_exc ?k1Zq ?k2Zq ?k3Zq ?k4Zq ?_; (case k1Zq => k_asm); (case k2Zq => k_asm); (case k3Zq => k_is); (case k4Zq => rfl)))
  k_with "call builtin:Exception.__init__" => (k_here; k_dflt (refine' init_led ?k1Zq ?k2Zq ?k3Zq ?k4Zq ?k5Zq ?_; (case k1Zq => k_asm); (case k2Zq => k_asm); (case k3Zq => k_asm); (case k4Zq => assumption); (case k5Zq => assumption); k_whole); intro hyx yyx Fyx Nyx; (try k_sweep))
  k_with "exec Raise some none" => (k_here; k_dflt (refine raise_own rfl ?_))
  k_with "call ref" => (k_here; first | (k_dflt (refine' Cl.useB (cl_is_piece _ _) ?k1u154 ?k2u154 ?k3u154 ?k4u154 ?k5u154 ?kAu154 ?kFu154 ?kEu154 ?kKu154 ?kpu154 ?kdu154 ?kuu154 ?_; ( (case k1u154 => first | k_asm | fail "the frames below"); (case k2u154 => first | k_asm | fail "the frame"); (case k3u154 => first | k_asm | fail "the written part"); (case k4u154 => first | k_asm | fail "the ledger"); (case k5u154 => first | k_asm | fail "the top's facts"); (case kAu154 => first | exact rfl | fail "the raised"); (case kFu154 => first | exact rfl | fail "the frames"); (case kEu154 => first | exact rfl | fail "the caller's frame"); (case kKu154 => first | exact rfl | assumption | fail "the caller is no def"); (case kpu154 => first | exact trivial | is_list | fail "the premise"); (case kdu154 => first | ktr_room | fail "the frames' room"); (case kuu154 => first | ktr_units | fail "the C units"))); intro h9x tk9x F9x N9x; (try dsimp only)) | refine stop_here ?_)
  exact True.intro
set_option maxHeartbeats 4000000 in
theorem run_init1p {w : World} {mean : ExcName → Option Value} {mg mb : Str → Option Value} (e t0 : Addr) (v : Value) {dp un : Nat} {gd : Option (List Code)} {cn : Str} {cs : Scope} {aF : Addr} {ccd : Value} {cl : List (Str × Addr)} {outer : List Env} {A₀ : Around} {base h₀ : Heap} {L : Addr} {m : Str → Option Value} {s : Shared} {Q E : Value → Shared → Prop} {news : List (Addr × Obj)}
    (B : Below A₀ base outer h₀) (F : Fr h₀ L s.heap m) (X : Frag.In (hd.heap_1 w.params) h₀) (N : News h₀ L s.heap ((e, madeObj 140 t0) :: news)) (T : Top hd.view_39 (looseW hd.view_39 []) mean mg mb h₀) (hk : cs.kind = .function) (hdp : dp + 8 < recursionLimit)
    (I2 : Is2 (hd.heap_1 w.params) 140) (hne : ∀ p ∈ news, p.1 ≠ e) (hl : findIn (hd.heap_1 w.params) (.ref 140) (Str.ofString "text") = some none) (hl2 : findIn (hd.heap_1 w.params) (.ref 140) (Str.ofString "piece") = some none) (hs : findIn (hd.heap_1 w.params) (.ref 140) "__setattr__" = some (some (.builtin "object.__setattr__")))
    (ret : ∀ h' tk' d od oe' vs mA, Fr h₀ L h' m → News h₀ L h' ((e, oe') :: (d, od) :: news) → oe'.cls = .ref 140 → oe'.dict = some d → oe'.data = .fields vs → vs[1]? = some .none → HasNs d od mA → mA (Str.ofString "piece") = some v → d ≠ e → (∀ p ∈ news, p.1 ≠ d) → Q .none { s with heap := h', toks := tk' }) :
    wpAny (model Challenge.rw_nt0423_01.row.prog w) (ktrTop dp un gd cn cs L aF ccd cl outer) (call (.ref 137) [.ref e, v]) Q E s := by
  revert X; k_fill; intro X
  ( refine wpAny_call ?_; k_dflt (refine' code_def (binds := [("self", .ref e), ("piece", v)]) ?k1u147 ?k2u147 ?k3u147 ?k4u147 ?k5u147 ?kAu147 ?kFu147 ?kKu147 ?k6u147 ?k7u147 ?k8u147 ?k9u147 ?kBu147 ?_ ?c2u147 ?c3u147 ?c4u147 ?c5u147; (case kAu147 => exact rfl); (case kFu147 => exact rfl); (case kKu147 => assumption); (case k1u147 => k_asm); (case k2u147 => k_asm); (case k3u147 => k_asm); (case k4u147 => k_asm); (case k5u147 => k_asm); (case k6u147 => k_is); (case k7u147 => k_is); (case k8u147 => ktr_room); (case k9u147 => exact BindsTo.of_eq rfl); (case c5u147 => decide); (case kBu147 => exact locs rfl); (case c2u147 => exact rfl); (case c3u147 => exact rfl); (case c4u147 => exact rfl); k_whole))
  intro g' L' h' FG' F' N' B' X' T'
  walk_at "M go"
  refine go_on ?_
  k_dflt (refine' run_init0 e 140 t0 _ _ ?k1 ?k2 ?k3 ?k4 ?k5 ?k6 ?k7 I2 hne hl hs ?_)
  case k1 => assumption
  case k2 => assumption
  case k3 => assumption
  case k4 => assumption
  case k5 => assumption
  case k6 => rfl
  case k7 => ktr_room
  intro h8 tk8 d od oe vs F8 N8 c8 d8 v8 n8 ns8 de8 nd8
  walk_at "M go"
  refine store_led2 (ns := [Str.ofString "text"]) (by assumption) (by assumption) (by assumption) I2 hne nd8 de8 c8 d8 v8 ns8 within2 (by decide) hl2 hs fun h9 tk9 od' oe' F9 N9 c9 d9 v9 ns9 => ?_
  walk_at "M go"
  exact ret _ _ d od' oe' _ _ (by assumption) (by assumption) c9 d9 v9 n8 ns9 (if_pos rfl) de8 nd8
set_option maxHeartbeats 4000000 in
theorem bad_piece {w : World} {mean : ExcName → Option Value} {mg mb : Str → Option Value} (sq : Int) (u : Tok) {dp un : Nat} {gd : Option (List Code)} {cn : Str} {cs : Scope} {aF : Addr} {ccd : Value} {outer : List Env} {A₀ : Around} {base h₀ : Heap} {L : Addr} {m : Str → Option Value} {s : Shared} {Q E : Value → Shared → Prop} {news : List (Addr × Obj)}
    (B : Below A₀ base outer h₀) (F : Fr h₀ L s.heap m) (X : Frag.In (hd.heap_1 w.params) h₀) (N : News h₀ L s.heap news) (T : Top hd.view_39 (looseW hd.view_39 []) mean mg mb h₀) (hk : cs.kind = .function) (hdp : dp + 12 < recursionLimit) (hu : un + 60 < cLine)
    (hs0 : sq ≠ 0) (hsq : ¬ (0 < sq ∧ sq < 15 ∧ sq ≠ 7 ∧ sq ≠ 8))
    (ret : ∀ e h' tk' G, Fr h₀ L G m → RaD base G (envX cn cs L aF ccd [] :: outer) e 140 (Str.ofString "piece") (.int sq u) news h' → G.UpToSlots h' → E (.ref e) { s with heap := h', toks := tk' }) :
    wpAny (model Challenge.rw_nt0423_01.row.prog w) (ktrTop dp un gd cn cs L aF ccd [] outer) (call (.ref 177) [.int sq u]) Q E s := by
  revert X; k_fill; intro X
  ( refine wpAny_call ?_; k_dflt (refine' code_def (binds := [("piece", .int sq u)]) ?k1u148 ?k2u148 ?k3u148 ?k4u148 ?k5u148 ?kAu148 ?kFu148 ?kKu148 ?k6u148 ?k7u148 ?k8u148 ?k9u148 ?kBu148 ?_ ?c2u148 ?c3u148 ?c4u148 ?c5u148; (case kAu148 => exact rfl); (case kFu148 => exact rfl); (case kKu148 => assumption); (case k1u148 => k_asm); (case k2u148 => k_asm); (case k3u148 => k_asm); (case k4u148 => k_asm); (case k5u148 => k_asm); (case k6u148 => k_is); (case k7u148 => k_is); (case k8u148 => ktr_room); (case k9u148 => exact BindsTo.of_eq rfl); (case c5u148 => decide); (case kBu148 => exact locs rfl); (case c2u148 => exact rfl); (case c3u148 => exact rfl); (case c4u148 => exact rfl); k_whole))
  intro g' L' h' FG' F' N' B' X' T'
  have i2 : Is2 (hd.heap_1 w.params) 140 := ⟨_, _, _, _, _, _, _, _, _, _, _, _, _, _, _, by k_is⟩
  have hl : findIn (hd.heap_1 w.params) (.ref 140) (Str.ofString "text") = some none := by k_is
  have hl2 : findIn (hd.heap_1 w.params) (.ref 140) (Str.ofString "piece") = some none := by k_is
  have hs : findIn (hd.heap_1 w.params) (.ref 140) "__setattr__" = some (some (.builtin "object.__setattr__")) := by k_is
  have hwt : (Code.builtin "type.__call__" ⟨[.ref 140, .int sq u], []⟩).weight = 1 := rfl
  walk_at "M go"
  rotate_left 1
  · exact absurd (by assumption) hs0
  refine go_on ?_
  refine make_led (by assumption) (by assumption) (by assumption) i2 (by k_is) (by k_is) rfl (by show 1 ≤ sizeLine; decide) fun h8 e t0 F8 N8 ne8 => ?_
  (k_dflt (refine' (run_init1p e t0 (.int sq u)) ?k1u149 ?k2u149 ?k3u149 ?k4u149 ?k5u149 ?k6u149 ?k7u149 ?k8u149 ?k9u149 ?k10u149 ?k11u149 ?k12u149 ?_); (case k1u149 => assumption); (case k2u149 => assumption); (case k3u149 => assumption); (case k4u149 => assumption); (case k5u149 => assumption); (case k6u149 => rfl); (case k7u149 => ktr_room); (case k8u149 => assumption); (case k9u149 => assumption); (case k10u149 => assumption); (case k11u149 => assumption); (case k12u149 => assumption))
  intro h9 tk9 d od oe vs mA F9 N9 c9 d9 v9 n9 ns9 hm9 de9 nd9
  obtain ⟨nm2, q2, C2, Nn, bs, sn, sub, ab, col, dd, k0, k1, k2, k3, k5, hK⟩ := i2
  refine ⟨rfl, nm2, q2, 140, C2, Nn, bs, true, sn, sub, ab, col, dd, k0, k1, k2, k3, k5, e, oe, vs, rfl, F9.keep _ _ (X' _ _ hK), (N9 _ (.head _)).1, c9, v9, n9, ?_⟩
  exact leave_led B' F9 N9 c9 d9 v9 n9 ns9 hm9 de9 ne8 fun h10 R10 U10 => ret e h10 _ g' FG' R10 U10
example : True := by
  k_with "call ref" => (k_here; refine stop_here ?_)
  exact True.intro

example : True := by
  w_top off
  exact True.intro
example : True := by
  k_with "call ref" => (k_here; first | (k_dflt (refine' Cl.useB (cl_is_piece _ _) ?k1u161 ?k2u161 ?k3u161 ?k4u161 ?k5u161 ?kAu161 ?kFu161 ?kEu161 ?kKu161 ?kpu161 ?kdu161 ?kuu161 ?_; ( (case k1u161 => first | k_asm | fail "the frames below"); (case k2u161 => first | k_asm | fail "the frame"); (case k3u161 => first | k_asm | fail "the written part"); (case k4u161 => first | k_asm | fail "the ledger"); (case k5u161 => first | k_asm | fail "the top's facts"); (case kAu161 => first | exact rfl | fail "the raised"); (case kFu161 => first | exact rfl | fail "the frames"); (case kEu161 => first | exact rfl | fail "the caller's frame"); (case kKu161 => first | exact rfl | assumption | fail "the caller is no def"); (case kpu161 => first | exact trivial | is_list | fail "the premise"); (case kdu161 => first | ktr_room | fail "the frames' room"); (case kuu161 => first | ktr_units | fail "the C units"))); intro h9x tk9x F9x N9x; (try dsimp only)) | refine stop_here ?_)
  exact True.intro
set_option maxHeartbeats 4000000 in
theorem clx_letter_bad {w : World} {mean : ExcName → Option Value} {mg mb : Str → Option Value} (sq : Int) (hs0 : sq ≠ 0) (hsq : ¬ (0 < sq ∧ sq < 15 ∧ sq ≠ 7 ∧ sq ≠ 8)) (u : Tok) : ClX w mean mg mb 332 20 [.int sq u] (fun v => ∃ t, v = .int sq t) := by
  unfold ClX; k_fill
  intro dp un gd cn cs aF ccd outer A₀ base g₀ h₀ L m s Q E news B F X N T XB TB D T0 hk hdp hu ret
  ( refine wpAny_call ?_; k_dflt (refine' code_defS (binds := [("piece", .int sq u)]) ?k1u156 ?k2u156 ?k3u156 ?k4u156 ?k5u156 ?x1u156 ?x2u156 ?x3u156 ?x4u156 ?kAu156 ?k6u156 ?k7u156 ?k8u156 ?k9u156 ?kBu156 ?_ ?kKu156 ?c2u156 ?c3u156 ?c4u156 ?c5u156; (case kAu156 => exact rfl); (case kKu156 => assumption); (case k1u156 => k_asm); (case k2u156 => k_asm); (case k3u156 => k_asm); (case k4u156 => k_asm); (case k5u156 => k_asm); (case x1u156 => assumption); (case x2u156 => assumption); (case x3u156 => assumption); (case x4u156 => assumption); (case k6u156 => k_is); (case k7u156 => k_is); (case k8u156 => ktr_room); (case k9u156 => exact BindsTo.of_eq rfl); (case c5u156 => decide); (case kBu156 => exact locs rfl); (case c2u156 => exact rfl); (case c3u156 => exact rfl); (case c4u156 => exact rfl); k_whole))
  intro g' L' h' FG' F' N' B' X' T' D'
  walk_at "M go"
  refine go_on ?_
  k_dflt (refine' bad_piece sq u ?k1 ?k2 ?k3 ?k4 ?k5 ?k6 ?k7 ?k8 hs0 hsq ?_)
  case k1 => assumption
  case k2 => assumption
  case k3 => assumption
  case k4 => assumption
  case k5 => assumption
  case k6 => rfl
  case k7 => ktr_room
  case k8 => ktr_units
  intro e h9 tk9 G9 F9 R9 U9
  (try k_unfold)
  (try dsimp only)
  k_dflt (refine' caught_own2 R9 F9 B' U9 ?x1 ?x2 ?x3 KtsTurn.refl ?x5 ?x6 ?_)
  case x1 => assumption
  case x2 => assumption
  case x3 => assumption
  case x5 => k_is
  case x6 => kts_isx
  intro h8 g8 tk8 oe d od mA ws T8 F8 N8 c8 d8 v8 de8 ns8 hm8 K8 X8 P8 D8
  have i2 : Is2 (hd.heap_1 w.params) 140 := ⟨_, _, _, _, _, _, _, _, _, _, _, _, _, _, _, by k_is⟩
  clear F' N' B' X' T' D' R9 U9 F9
  walk_at "M go"
  refine load_led F8 X8 N8 i2 c8 d8 v8 de8 ns8 hm8 (by k_is) (by k_is) (by k_is) rfl ?_
  walk_at "M go"
  (rename KtsTurn _ g₀ _ => kT9)
  refine ret _ _ _ _ kT9 (by assumption) ?_ (by assumption) (by assumption) (by assumption) (by assumption) ⟨_, rfl⟩
  exact news_tail (news_tail (by assumption))
noncomputable def letterS (p : Int) : Str := Txt.item (Str.ofString ".PNBRQK..pnbrqk") p
set_option maxHeartbeats 4000000 in
theorem cl_letter {w : World} {mean : ExcName → Option Value} {mg mb : Str → Option Value} (sq : Int) (h : 0 ≤ sq ∧ sq < 15 ∧ sq ≠ 7 ∧ sq ≠ 8) (u : Tok) : Cl w mean mg mb 177 4 [.int sq u] PTrue (RStr (letterS sq)) := by
  obtain ⟨h0, h1, h7, h8⟩ := h
  ( k_dflt (refine' Cl.enter (binds := [("piece", .int sq u)]) ?k6u157 ?k7u157 ?k9u157 ?kBu157 ?kDu157 ?c2u157 ?c3u157 ?c4u157 ?c5u157 ?khu157; (case k6u157 => k_is); (case k7u157 => k_is); (case k9u157 => exact rfl); (case kBu157 => exact locs rfl); (case kDu157 => decide); (case c2u157 => exact rfl); (case c3u157 => exact rfl); (case c4u157 => exact rfl); (case c5u157 => decide); k_whole))
  intro outer R A₀ base g L h₁ tk₁ gs dr os Q E B F' N' X T hpre hd hu hP ret
  try dsimp only at hpre F'
  have hlen : (Str.ofString ".PNBRQK..pnbrqk").length = 15 := by decide +kernel
  walk_at "M go"
  all_goals first
    | (exfalso; omega)
    | (refine ret _ _ _ (by assumption) (by assumption) (rstr_of ?_)
       rfl)
set_option maxHeartbeats 4000000 in
theorem clx_letter_good {w : World} {mean : ExcName → Option Value} {mg mb : Str → Option Value} (sq : Int) (hh : 0 ≤ sq ∧ sq < 15 ∧ sq ≠ 7 ∧ sq ≠ 8) (u : Tok) : ClX w mean mg mb 332 20 [.int sq u] (fun v => ∃ t, v = .str (letterS sq) t) := by
  unfold ClX; k_fill
  intro dp un gd cn cs aF ccd outer A₀ base g₀ h₀ L m s Q E news B F X N T XB TB D T0 hk hdp hu ret
  ( refine wpAny_call ?_; k_dflt (refine' code_defS (binds := [("piece", .int sq u)]) ?k1u158 ?k2u158 ?k3u158 ?k4u158 ?k5u158 ?x1u158 ?x2u158 ?x3u158 ?x4u158 ?kAu158 ?k6u158 ?k7u158 ?k8u158 ?k9u158 ?kBu158 ?_ ?kKu158 ?c2u158 ?c3u158 ?c4u158 ?c5u158; (case kAu158 => exact rfl); (case kKu158 => assumption); (case k1u158 => k_asm); (case k2u158 => k_asm); (case k3u158 => k_asm); (case k4u158 => k_asm); (case k5u158 => k_asm); (case x1u158 => assumption); (case x2u158 => assumption); (case x3u158 => assumption); (case x4u158 => assumption); (case k6u158 => k_is); (case k7u158 => k_is); (case k8u158 => ktr_room); (case k9u158 => exact BindsTo.of_eq rfl); (case c5u158 => decide); (case kBu158 => exact locs rfl); (case c2u158 => exact rfl); (case c3u158 => exact rfl); (case c4u158 => exact rfl); k_whole))
  intro g' L' h' FG' F' N' B' X' T' D'
  walk_at "M go"
  (refine go_on ?_; k_dflt (refine' Cl.useS (cl_letter sq hh _) ?k1u159 ?k2u159 ?k3u159 ?k4u159 ?k5u159 ?kAu159 ?kFu159 ?kEu159 ?kKu159 ?kpu159 ?kdu159 ?kuu159 ?_; ( (case k1u159 => first | k_asm | fail "the frames below"); (case k2u159 => first | k_asm | fail "the frame"); (case k3u159 => first | k_asm | fail "the written part"); (case k4u159 => first | k_asm | fail "the ledger"); (case k5u159 => first | k_asm | fail "the top's facts"); (case kAu159 => first | exact rfl | fail "the raised"); (case kFu159 => first | exact rfl | fail "the frames"); (case kEu159 => first | exact rfl | fail "the caller's frame"); (case kKu159 => first | exact rfl | assumption | fail "the caller is no def"); (case kpu159 => first | exact trivial | is_list | fail "the premise"); (case kdu159 => first | ktr_room | fail "the frames' room"); (case kuu159 => first | ktr_units | fail "the C units"))); intro t9x h9x tk9x F9x N9x; (try dsimp only); walk_at "M on")
  exact ret _ _ _ h₀ T0 (by assumption) (by assumption) B X T D ⟨_, rfl⟩
example : True := by
  k_with "call ref" => (k_here; refine stop_here ?_)
  exact True.intro

example : True := by
  w_top off
  exact True.intro
noncomputable def nameI (files sq : Int) : Str := Txt.item (Str.ofString "abcdefgh") (sq.fmod files) ++ Txt.item (Str.ofString "12345678") (sq.fdiv files)
set_option maxHeartbeats 4000000 in
theorem cl_sqname {w : World} {mean : ExcName → Option Value} {mg mb : Str → Option Value} (files sq : Int) (hf : 2 ≤ files ∧ files ≤ 8) (h1 : 0 ≤ sq) (h2 : sq < files * 8) (t u : Tok) : Cl w mean mg mb 247 4 [.int files t, .int sq u] PTrue (RStr (nameI files sq)) := by
  have hA : (Str.ofString "abcdefgh").length = 8 := by decide +kernel
  have hB : (Str.ofString "12345678").length = 8 := by decide +kernel
  have m0 : 0 ≤ sq.fmod files := by rw [Int.fmod_eq_emod_of_nonneg _ (by omega)]; exact Int.emod_nonneg _ (by omega)
  have m1 : sq.fmod files < files := by rw [Int.fmod_eq_emod_of_nonneg _ (by omega)]; exact Int.emod_lt_of_pos _ (by omega)
  have d0 : 0 ≤ sq.fdiv files := by rw [Int.fdiv_eq_ediv_of_nonneg _ (by omega)]; exact Int.ediv_nonneg h1 (by omega)
  have d1 : sq.fdiv files < 8 := by rw [Int.fdiv_eq_ediv_of_nonneg _ (by omega)]; exact Int.ediv_lt_of_lt_mul (by omega) (by rw [Int.mul_comm]; exact h2)
  ( k_dflt (refine' Cl.enter (binds := [("files", .int files t), ("square", .int sq u)]) ?k6u163 ?k7u163 ?k9u163 ?kBu163 ?kDu163 ?c2u163 ?c3u163 ?c4u163 ?c5u163 ?khu163; (case k6u163 => k_is); (case k7u163 => k_is); (case k9u163 => exact rfl); (case kBu163 => exact locs rfl); (case kDu163 => decide); (case c2u163 => exact rfl); (case c3u163 => exact rfl); (case c4u163 => exact rfl); (case c5u163 => decide); k_whole))
  intro outer R A₀ base g L h₁ tk₁ gs dr os Q E B F' N' X T hpre hd hu hP ret
  try dsimp only at hpre F'
  walk_at "M go"
  refine ret _ _ _ (by assumption) (by assumption) (rstr_of ?_)
  rfl
noncomputable def readI (files ranks : Int) (x : Str) : Int :=
  if (x.length : Int) ≠ 2 then -1 else
  if Txt.find (Str.ofString "abcdefgh") (Txt.item x 0) < 0 ∨ files ≤ Txt.find (Str.ofString "abcdefgh") (Txt.item x 0) ∨ Txt.find (Str.ofString "12345678") (Txt.item x 1) < 0 ∨ ranks ≤ Txt.find (Str.ofString "12345678") (Txt.item x 1) then -1
  else Txt.find (Str.ofString "12345678") (Txt.item x 1) * files + Txt.find (Str.ofString "abcdefgh") (Txt.item x 0)
set_option maxHeartbeats 4000000 in
theorem cl_read {w : World} {mean : ExcName → Option Value} {mg mb : Str → Option Value} (files ranks : Int) (hf : 2 ≤ files ∧ files ≤ 8) (hr : 3 ≤ ranks ∧ ranks ≤ 8) (x : Str) (hx : x.length ≤ 100) (t u v : Tok) : Cl w mean mg mb 254 4 [.int files t, .int ranks u, .str x v] PTrue (RInt (readI files ranks x)) := by
  ( k_dflt (refine' Cl.enter (binds := [("files", .int files t), ("ranks", .int ranks u), ("text", .str x v)]) ?k6u164 ?k7u164 ?k9u164 ?kBu164 ?kDu164 ?c2u164 ?c3u164 ?c4u164 ?c5u164 ?khu164; (case k6u164 => k_is); (case k7u164 => k_is); (case k9u164 => exact rfl); (case kBu164 => exact locs rfl); (case kDu164 => decide); (case c2u164 => exact rfl); (case c3u164 => exact rfl); (case c4u164 => exact rfl); (case c5u164 => decide); k_whole))
  intro outer R A₀ base g L h₁ tk₁ gs dr os Q E B F' N' X T hpre hd hu hP ret
  try dsimp only at hpre F'
  walk_at "M go"
  all_goals refine ret _ _ _ (by assumption) (by assumption) (rint_of ?_)
  · rw [readI, if_pos (by assumption)]
  all_goals (rw [readI, if_neg (by omega)])
  all_goals first
    | (rw [if_pos (by omega)])
    | (rw [if_neg (by omega)])

example : True := by
  w_top off
  exact True.intro
section
variable {prog : Program} {w : World} {A : Around} {E : Value → Shared → Prop} {s : Shared} {env : Env} {h₀ : Heap} {x : Str} {body : List Stmt} {Q : Flow → Shared → Prop}
/-! a for over a range whose turns change the object on top of the ledger -/
theorem m_rangeO {σ : Type} {r lo : Addr} {rest : List (Addr × Obj)} {a₀ b₀ st : Int} {t₀ u₀ v₀ : Tok} {m₀ : Str → Option Value} (ob : σ → Obj) (ps : Addr → σ → List (Str × Value)) (P : Nat → σ → Prop) (c₀ : σ) (n : Nat)
    (hh : A.handled = none) (hr : IsRange s.heap r a₀ b₀ st t₀ u₀ v₀) (hsmall : Builtin.Range.small a₀ b₀ st = true) (hn : Builtin.Range.rangeSize a₀ b₀ st = (n : Int)) (F : Fr h₀ env.locals s.heap m₀) (N : News h₀ env.locals s.heap ((lo, ob c₀) :: rest)) (hk : ∀ p ∈ ps lo c₀, m₀ p.1 = some p.2) (hp : P 0 c₀)
    (turn : ∀ (i : Nat) (c : σ) t (u : Str → Option Value) h tk own, i < n → OwnOff own (((lo, ob c₀) :: rest).map (·.1)) → P i c →
      Fr h₀ env.locals h (kstB u ((x, .int (a₀ + i * st) t) :: ps lo c)) → News h₀ env.locals h (((lo, ob c) :: rest) ++ own) →
      wpAny (model prog w) A (execs body env) (FPost h₀ env.locals { s with heap := h, toks := tk } (fun c => (lo, ob c) :: rest) (ps lo) (P (i + 1)) own (((lo, ob c₀) :: rest).map (·.1)) Q) E { s with heap := h, toks := tk })
    (done : ∀ (c : σ) (u : Str → Option Value) h tk, P n c → Fr h₀ env.locals h (kstB u (ps lo c)) → News h₀ env.locals h ((lo, ob c) :: rest) → Q .next { s with heap := h, toks := tk }) :
    wpAny (model prog w) A (pyIter (.ref r)) (fun it s₂ => LoopAtV prog w A h₀ env x body Q E it s₂) E s :=
  m_range (fun c => (lo, ob c) :: rest) (ps lo) P c₀ n hh hr hsmall hn F N hk hp turn done
end
/-- the table of names: an object of the ledger that bears these pairs -/
noncomputable def TabO (prog : Program) (w : World) (o : Obj) (c : List (Str × Int)) : Prop := ∃ kvs, o.IsDictOf (PySem.strKind prog w) kvs ∧ PyProof.V.FlatPairs PyData.str kvs (kdpD c)
/-- like ClX, the ledger given -/
noncomputable def ClXL (w : World) (mean : ExcName → Option Value) (mg mb : Str → Option Value) (f : Addr) (D : Nat) (vs : List Value) (news : List (Addr × Obj)) (post : Value → Prop) : Prop :=
  ∀ (dp un : Nat) (gd : Option (List Code)) (cn : Str) (cs : Scope) (a : Addr) (ccd : Value) (outer : List Env) (A₀ : Around) (base g₀ h₀ : Heap) (L : Addr) (m : Str → Option Value) (s : Shared) (Q E : Value → Shared → Prop),
    Below A₀ base outer h₀ → Fr h₀ L s.heap m → Frag.In (hd.heap_1 w.params) h₀ → News h₀ L s.heap news → Top hd.view_39 (looseW hd.view_39 []) mean mg mb h₀ → Frag.In (hd.heap_1 w.params) base → Top hd.view_39 (looseW hd.view_39 []) mean mg mb base →
    KtsDicts (outer.filterMap (·.frame)) h₀ → KtsTurn (outer.filterMap (·.frame)) g₀ h₀ → cs.kind = .function → dp + D < recursionLimit → un + 8 * D < cLine →
    (∀ (v : Value) (h' : Heap) (tk' : Nat) (h₀' : Heap), KtsTurn (outer.filterMap (·.frame)) g₀ h₀' → Fr h₀' L h' m → News h₀' L h' news → Below A₀ base outer h₀' → Frag.In (hd.heap_1 w.params) h₀' → Top hd.view_39 (looseW hd.view_39 []) mean mg mb h₀' → KtsDicts (outer.filterMap (·.frame)) h₀' → post v → Q v { s with heap := h', toks := tk' }) →
    wpAny (model Challenge.rw_nt0423_01.row.prog w) (ktrTop dp un gd cn cs L a ccd [] outer) (call (.ref f) vs) Q E s
noncomputable def nm (r c : Nat) : Str := ⟨#[97 + c, 49 + r]⟩
noncomputable def tabK (files k : Nat) : List (Str × Int) := (List.range k).map fun k => (nm (k / files) (k % files), (k : Int))
theorem tabK_len (files k : Nat) : (tabK files k).length = k := by simp [tabK]
theorem nm_inj {r c r' c' : Nat} (h : nm r c = nm r' c') : r = r' ∧ c = c' := by
  simp only [nm, Str.mk.injEq, Array.mk.injEq, List.cons.injEq, and_true] at h
  omega
theorem tabK_succ (files k : Nat) : tabK files (k + 1) = tabK files k ++ [(nm (k / files) (k % files), (k : Int))] := by simp [tabK, List.range_succ]
theorem tabK_put (files k : Nat) (hf : 0 < files) : kdpPut (tabK files k) (nm (k / files) (k % files)) (k : Int) = tabK files (k + 1) := by
  unfold kdpPut
  rw [if_neg, tabK_succ]
  intro h
  obtain ⟨p, hp, e⟩ := List.any_eq_true.mp h
  simp only [decide_eq_true_eq] at e
  obtain ⟨j, hj, rfl⟩ := List.mem_map.mp hp
  have hj := List.mem_range.mp hj
  obtain ⟨e1, e2⟩ := nm_inj e
  have h1 := Nat.div_add_mod j files
  have h2 := Nat.div_add_mod k files
  rw [e1, e2] at h1
  omega
theorem upd_own {d l : Addr} {o ol : Obj} {own own2 : List (Addr × Obj)} {adr adr2 : List Addr} (h : l ≠ d) (h1 : OwnOff own adr) (m1 : d ∈ adr) (h2 : OwnOff own2 adr2) (m2 : d ∈ adr2) :
    UpdF d o ((d, o) :: [(l, ol)].append own ++ own2) (fun o' => (d, o') :: ([(l, ol)].append own ++ own2)) := .head fun p hp => by
  rcases List.mem_append.mp hp with hp | hp
  · rcases List.mem_cons.mp hp with rfl | hp
    · exact h
    · exact h1 p hp d m1
  · exact h2 p hp d m2

example : True := by
  w_top off
  exact True.intro
/-! plain laws of the names -/
theorem name_is8 : ∀ i j : Fin 8, Txt.item (Str.ofString "abcdefgh") ((j.val : Nat) : Int) ++ Str.ofString (toString (((i.val : Nat) : Int) + 1)) = nm i.val j.val := by decide +kernel
theorem name_is {i j : Nat} (hi : i < 8) (hj : j < 8) : Txt.item (Str.ofString "abcdefgh") (j : Int) ++ Str.ofString (toString ((i : Int) + 1)) = nm i j := name_is8 ⟨i, hi⟩ ⟨j, hj⟩
theorem nameP8 : ∀ i j : Fin 8, Txt.item (Str.ofString "abcdefgh") ((j.val : Nat) : Int) ++ Txt.item (Str.ofString "12345678") ((i.val : Nat) : Int) = nm i.val j.val := by decide +kernel
theorem find8 : ∀ i j : Fin 8, Txt.find (Str.ofString "abcdefgh") (Txt.item (nm i.val j.val) 0) = ((j.val : Nat) : Int) ∧ Txt.find (Str.ofString "12345678") (Txt.item (nm i.val j.val) 1) = ((i.val : Nat) : Int) := by decide +kernel
theorem sq_parts {files i j S : Nat} (hj : j < files) (hS : i * files + j = S) : S / files = i ∧ S % files = j := by
  have hf : 0 < files := by omega
  subst hS
  rw [Nat.mul_comm]
  exact ⟨by rw [Nat.mul_add_div hf, Nat.div_eq_of_lt hj, Nat.add_zero], by rw [Nat.mul_add_mod, Nat.mod_eq_of_lt hj]⟩
theorem nameI_is {files i j S : Nat} (hf : 2 ≤ files ∧ files ≤ 8) (hi : i < 8) (hj : j < files) (hS : i * files + j = S) : nameI (files : Int) (S : Int) = nm i j := by
  obtain ⟨h1, h2⟩ := sq_parts hj hS
  have e1 : (S : Int).fmod (files : Int) = (j : Int) := by rw [Int.fmod_eq_emod_of_nonneg _ (by omega), ← Int.natCast_emod, h2]
  have e2 : (S : Int).fdiv (files : Int) = (i : Int) := by rw [Int.fdiv_eq_ediv_of_nonneg _ (by omega), ← Int.natCast_ediv, h1]
  rw [nameI, e1, e2]
  exact nameP8 ⟨i, hi⟩ ⟨j, by omega⟩
theorem readI_is {files ranks i j S : Nat} (hf : 2 ≤ files ∧ files ≤ 8) (hr : ranks ≤ 8) (hi : i < ranks) (hj : j < files) (hS : i * files + j = S) : readI (files : Int) (ranks : Int) (nm i j) = (S : Int) := by
  obtain ⟨h1, h2⟩ := find8 ⟨i, by omega⟩ ⟨j, by omega⟩
  dsimp only at h1 h2
  rw [readI, if_neg (by rw [show (nm i j).length = 2 from rfl]; decide), h1, h2, if_neg (by omega), ← hS]
  rw [Int.natCast_add, Int.natCast_mul]
theorem sq_lt {files ranks i j S : Nat} (hr : ranks ≤ 8) (hi : i < ranks) (hj : j < files) (hS : i * files + j = S) : S < files * 8 := by
  have := Nat.mul_le_mul_right files (show i + 1 ≤ 8 by omega)
  rw [Nat.succ_mul, Nat.mul_comm 8] at this
  omega
set_option maxHeartbeats 4000000 in
theorem cl_sqname2 {w : World} {mean : ExcName → Option Value} {mg mb : Str → Option Value} (files ranks i j S : Nat) (hf : 2 ≤ files ∧ files ≤ 8) (hr : ranks ≤ 8) (hi : i < ranks) (hj : j < files) (hS : i * files + j = S) (t u : Tok) : Cl w mean mg mb 247 4 [.int (files : Int) t, .int (S : Int) u] PTrue (RStr (nm i j)) := by
  have := cl_sqname (w := w) (mean := mean) (mg := mg) (mb := mb) (files : Int) (S : Int) (by omega) (by omega) (by have := sq_lt hr hi hj hS; omega) t u
  rwa [nameI_is hf (by omega) hj hS] at this
set_option maxHeartbeats 4000000 in
theorem cl_read2 {w : World} {mean : ExcName → Option Value} {mg mb : Str → Option Value} (files ranks i j S : Nat) (hf : 2 ≤ files ∧ files ≤ 8) (hr : 3 ≤ ranks ∧ ranks ≤ 8) (hi : i < ranks) (hj : j < files) (hS : i * files + j = S) (t u v : Tok) : Cl w mean mg mb 254 4 [.int (files : Int) t, .int (ranks : Int) u, .str (nm i j) v] PTrue (RInt (S : Int)) := by
  have := cl_read (w := w) (mean := mean) (mg := mg) (mb := mb) (files : Int) (ranks : Int) (by omega) (by omega) (nm i j) (by rw [show (nm i j).length = 2 from rfl]; decide) t u v
  rwa [readI_is hf hr.2 hi hj hS] at this

example : True := by
  w_top off
  exact True.intro
/-! a text of signs: what the table says is what is read -/
noncomputable def signsL : List Nat := [97, 98, 99, 100, 101, 102, 103, 104, 49, 50, 51, 52, 53, 54, 55, 56, 105, 65, 48, 57, 32, 45]
theorem sign8 : ∀ k : Fin 22, Txt.item (Str.ofString "abcdefgh12345678iA09 -") ((k.val : Nat) : Int) = ⟨#[signsL.getD k.val 0]⟩ := by decide +kernel
theorem sign_at {k : Int} (h0 : 0 ≤ k) (h1 : k < 22) : ∃ a ∈ signsL, Txt.item (Str.ofString "abcdefgh12345678iA09 -") k = ⟨#[a]⟩ := by
  obtain ⟨i, rfl⟩ := Int.eq_ofNat_of_zero_le h0
  have hi : i < 22 := by omega
  refine ⟨_, ?_, sign8 ⟨i, hi⟩⟩
  rw [List.getD_eq_getElem?_getD, List.getElem?_eq_getElem (by simpa [signsL] using hi)]
  exact List.getElem_mem _
noncomputable def fI (a : Nat) : Int := if 97 ≤ a ∧ a ≤ 104 then (a : Int) - 97 else -1
noncomputable def rI (b : Nat) : Int := if 49 ≤ b ∧ b ≤ 56 then (b : Int) - 49 else -1
theorem find_a : ∀ a ∈ signsL, Txt.find (Str.ofString "abcdefgh") ⟨#[a]⟩ = fI a := by decide +kernel
theorem find_b : ∀ b ∈ signsL, Txt.find (Str.ofString "12345678") ⟨#[b]⟩ = rI b := by decide +kernel
theorem item_0 (a b : Nat) : Txt.item ⟨#[a, b]⟩ 0 = ⟨#[a]⟩ := rfl
theorem item_1 (a b : Nat) : Txt.item ⟨#[a, b]⟩ 1 = ⟨#[b]⟩ := rfl
theorem find_sign (a : Nat) (ha : a ∈ signsL) (b : Nat) (hb : b ∈ signsL) : Txt.find (Str.ofString "abcdefgh") (Txt.item ⟨#[a, b]⟩ 0) = fI a ∧ Txt.find (Str.ofString "12345678") (Txt.item ⟨#[a, b]⟩ 1) = rI b := by
  rw [item_0, item_1]
  exact ⟨find_a a ha, find_b b hb⟩
theorem look_hit {files r c : Nat} (hc : c < files) (d : Int) : ∀ k, kdpLook (tabK files k) (nm r c) d = if r * files + c < k then ((r * files + c : Nat) : Int) else d := by
  intro k
  induction k with
  | zero => rw [if_neg (by omega)]; rfl
  | succ k ih =>
    unfold kdpLook at ih ⊢
    rw [tabK_succ, List.find?_append]
    by_cases hk : r * files + c < k
    · rw [if_pos hk] at ih
      rw [if_pos (by omega)]
      cases e : List.find? (fun p => decide (p.1 = nm r c)) (tabK files k) with
      | none =>
        exfalso
        have := List.find?_eq_none.mp e (nm r c, ((r * files + c : Nat) : Int)) (List.mem_map.mpr ⟨r * files + c, List.mem_range.mpr hk, by obtain ⟨q1, q2⟩ := sq_parts hc rfl; rw [q1, q2]⟩)
        simp at this
      | some p => rw [e] at ih; exact ih
    · rw [if_neg hk] at ih
      have e : List.find? (fun p => decide (p.1 = nm r c)) (tabK files k) = none := by
        rw [List.find?_eq_none]
        intro p hp
        obtain ⟨j, hj, rfl⟩ := List.mem_map.mp hp
        have hj := List.mem_range.mp hj
        simp only [decide_eq_true_eq]
        intro e
        obtain ⟨e1, e2⟩ := nm_inj e
        have h1 := Nat.div_add_mod j files
        rw [e1, e2, Nat.mul_comm] at h1
        omega
      rw [e, Option.none_or]
      by_cases hk2 : r * files + c = k
      · obtain ⟨q1, q2⟩ := sq_parts hc hk2
        rw [if_pos (by omega), q1, q2]
        simp [hk2]
      · rw [if_neg (by omega)]
        rw [List.find?_cons]
        have : ¬ nm (k / files) (k % files) = nm r c := fun e => by
          obtain ⟨e1, e2⟩ := nm_inj e
          have h1 := Nat.div_add_mod k files
          rw [e1, e2, Nat.mul_comm] at h1
          omega
        simp [this]
theorem look_miss {files ranks : Nat} (x : Str) (d : Int) (h : ∀ r c, r < ranks → c < files → x ≠ nm r c) : kdpLook (tabK files (ranks * files)) x d = d := by
  unfold kdpLook
  have e : List.find? (fun p => decide (p.1 = x)) (tabK files (ranks * files)) = none := by
    rw [List.find?_eq_none]
    intro p hp
    obtain ⟨j, hj, rfl⟩ := List.mem_map.mp hp
    have hj := List.mem_range.mp hj
    have hf : 0 < files := by rcases Nat.eq_zero_or_pos files with h | h; (· subst h; simp at hj); (· exact h)
    simp only [decide_eq_true_eq]
    exact fun e => h _ _ ((Nat.div_lt_iff_lt_mul hf).mpr hj) (Nat.mod_lt _ hf) e.symm
  rw [e]; rfl
theorem mk2_nm {a b r c : Nat} : (⟨#[a, b]⟩ : Str) = nm r c ↔ a = 97 + c ∧ b = 49 + r := by
  simp [nm]
theorem row_lt {files ranks r c : Nat} (hc : c < files) : r * files + c < ranks * files ↔ r < ranks := by
  constructor
  · intro h
    rcases Nat.lt_or_ge r ranks with h2 | h2
    · exact h2
    · have := Nat.mul_le_mul_right files h2; omega
  · intro h
    have := Nat.mul_le_mul_right files (show r + 1 ≤ ranks by omega)
    rw [Nat.succ_mul] at this; omega
theorem read_look {files ranks : Nat} (hf : 2 ≤ files ∧ files ≤ 8) (hr : 3 ≤ ranks ∧ ranks ≤ 8) (ls : List Nat) (hs : ∀ a ∈ ls, a ∈ signsL) :
    readI (files : Int) (ranks : Int) ⟨ls.toArray⟩ = kdpLook (tabK files (ranks * files)) ⟨ls.toArray⟩ (-1) := by
  have hl : ∀ l : List Nat, ((⟨l.toArray⟩ : Str).length : Int) = (l.length : Int) := fun l => rfl
  match ls, hs with
  | [a, b], hs =>
    have ha := hs a (.head _)
    have hb := hs b (.tail _ (.head _))
    obtain ⟨e1, e2⟩ := find_sign a ha b hb
    rw [readI, if_neg (by rw [hl]; show ¬ ((2 : Nat) : Int) ≠ 2; decide)]
    show (if Txt.find _ (Txt.item ⟨#[a, b]⟩ 0) < 0 ∨ (files : Int) ≤ Txt.find _ (Txt.item ⟨#[a, b]⟩ 0) ∨ Txt.find _ (Txt.item ⟨#[a, b]⟩ 1) < 0 ∨ (ranks : Int) ≤ Txt.find _ (Txt.item ⟨#[a, b]⟩ 1) then -1 else Txt.find _ (Txt.item ⟨#[a, b]⟩ 1) * (files : Int) + Txt.find _ (Txt.item ⟨#[a, b]⟩ 0)) = kdpLook _ ⟨#[a, b]⟩ _
    rw [e1, e2]
    by_cases ga : 97 ≤ a ∧ a - 97 < files
    · by_cases gb : 49 ≤ b ∧ b - 49 < ranks
      · have x1 : (⟨#[a, b]⟩ : Str) = nm (b - 49) (a - 97) := mk2_nm.mpr ⟨by omega, by omega⟩
        have y1 : fI a = ((a - 97 : Nat) : Int) := by rw [fI, if_pos (by omega)]; omega
        have y2 : rI b = ((b - 49 : Nat) : Int) := by rw [rI, if_pos (by omega)]; omega
        rw [x1, look_hit ga.2, if_pos ((row_lt ga.2).mpr gb.2), y1, y2, if_neg (by omega)]
        rw [Int.natCast_add, Int.natCast_mul]
      · rw [look_miss _ _ (fun r c h1 h2 e => by obtain ⟨z1, z2⟩ := mk2_nm.mp e; omega), if_pos]
        rw [rI]; split <;> omega
    · rw [look_miss _ _ (fun r c h1 h2 e => by obtain ⟨z1, z2⟩ := mk2_nm.mp e; omega), if_pos]
      rw [fI]; split <;> omega
  | [], _ | [_], _ | _ :: _ :: _ :: _, _ =>
    rw [look_miss _ _ (fun r c h1 h2 e => by simp [nm] at e), readI, if_pos]
    rw [hl]; simp <;> omega

example : True := by
  w_top off
  exact True.intro
theorem txt_app (a b : List Nat) : (⟨a.toArray⟩ : Str) ++ ⟨b.toArray⟩ = ⟨(a ++ b).toArray⟩ := by
  show Str.mk (a.toArray ++ b.toArray) = _
  simp
theorem one_is : Str.ofString "1" = ⟨[49].toArray⟩ := by decide +kernel
theorem rangeSize_to (a : Int) (n : Nat) (h : a = (n : Int)) : Builtin.Range.rangeSize 0 a 1 = (n : Int) := by
  subst h; exact (rangeSize_nat _ _).trans (by omega)
set_option maxHeartbeats 4000000 in
theorem clx_names {w : World} {mean : ExcName → Option Value} {mg mb : Str → Option Value} (l : Addr) (vs : List Value) (n : Nat) (ns : List Int) (I : IntsAre vs ns) (hlen : ns.length ≤ 8) (files ranks : Nat) (hf : Hid (2 ≤ files ∧ files ≤ 8)) (hr : Hid (3 ≤ ranks ∧ ranks ≤ 8)) (t u : Tok) :
    ClXL w mean mg mb 311 60 [.ref l, .int (files : Int) t, .int (ranks : Int) u] [(l, listOf vs.toArray n)] (fun v => v = .bool true) := by
  unfold ClXL; k_fill
  intro dp un gd cn cs aF ccd outer A₀ base g₀ h₀ L m s Q E B F X N T XB TB D T0 hk hdp hu ret
  ( refine wpAny_call ?_; k_dflt (refine' code_defS (binds := [("script", .ref l), ("files", .int (files : Int) t), ("ranks", .int (ranks : Int) u)]) ?k1u165 ?k2u165 ?k3u165 ?k4u165 ?k5u165 ?x1u165 ?x2u165 ?x3u165 ?x4u165 ?kAu165 ?k6u165 ?k7u165 ?k8u165 ?k9u165 ?kBu165 ?_ ?kKu165 ?c2u165 ?c3u165 ?c4u165 ?c5u165; (case kAu165 => exact rfl); (case kKu165 => assumption); (case k1u165 => k_asm); (case k2u165 => k_asm); (case k3u165 => k_asm); (case k4u165 => k_asm); (case k5u165 => k_asm); (case x1u165 => assumption); (case x2u165 => assumption); (case x3u165 => assumption); (case x4u165 => assumption); (case k6u165 => k_is); (case k7u165 => k_is); (case k8u165 => ktr_room); (case k9u165 => exact BindsTo.of_eq rfl); (case c5u165 => decide); (case kBu165 => exact locs rfl); (case c2u165 => exact rfl); (case c3u165 => exact rfl); (case c4u165 => exact rfl); k_whole))
  intro g' L' h' FG' F' N' B' X' T' D'
  walk_at "M go"
  have hr2 : 3 ≤ ranks ∧ ranks ≤ 8 := hr
  (refine go_on ?_; refine' m_rangeO (fun (c : Obj × List (Str × Int)) => c.1) (fun d c => [("table", .ref d), ("script", .ref l), ("files", .int (files : Int) t), ("ranks", .int (ranks : Int) u)]) (fun i c => TabO Challenge.rw_nt0423_01.row.prog w c.1 c.2 ∧ c.2 = tabK files (i * files)) (_, []) ranks rfl (by assumption) ?hsmallu166 ?hnu166 (by assumption) (by assumption) ?hku166 ?_ ?_ ?_; (case hku166 => walk_at "M all"); (case hsmallu166 => first | exact small_one (by omega) (by omega) (by omega) (by omega) | exact small_down (by omega) (by omega) (by omega) (by omega)); (case hnu166 => first | exact (rangeSize_nat _ _).trans (by omega) | exact (rangeSize_downNat _ _).trans (by omega)))
  · refine ⟨⟨_, by assumption, by assumption⟩, by rw [Nat.zero_mul]; rfl⟩
  · rintro i ⟨o1, c1⟩ t0 u1 h1 tk1 own hi hoff ⟨⟨kv1, hd1, hf1⟩, hc1⟩ F1 N1
    dsimp only at hd1 hf1 hc1 F1 N1
    subst hc1
    rw [show (0 : Int) + (i : Int) * 1 = (i : Int) by omega] at F1
    walk_at "M go"
    have hf2 : 2 ≤ files ∧ files ≤ 8 := hf
    (refine go_on ?_; refine' m_rangeO (fun (c : Obj × List (Str × Int)) => c.1) (fun d c => [("table", .ref d), ("rank", .int (i : Int) t0), ("script", .ref l), ("files", .int (files : Int) t), ("ranks", .int (ranks : Int) u)]) (fun j c => TabO Challenge.rw_nt0423_01.row.prog w c.1 c.2 ∧ c.2 = tabK files (i * files + j)) (o1, tabK files (i * files)) files rfl (by assumption) ?hsmallu167 ?hnu167 (by assumption) (by assumption) ?hku167 ?_ ?_ ?_; (case hku167 => walk_at "M all"); (case hsmallu167 => first | exact small_one (by omega) (by omega) (by omega) (by omega) | exact small_down (by omega) (by omega) (by omega) (by omega)); (case hnu167 => first | exact (rangeSize_nat _ _).trans (by omega) | exact (rangeSize_downNat _ _).trans (by omega)))
    · exact ⟨⟨_, hd1, hf1⟩, rfl⟩
    · rintro j ⟨o2, c2⟩ t6 u2 h2 tk2 own2 hj hoff2 ⟨⟨kv2, hd2, hf3⟩, hc2⟩ F2 N2
      dsimp only at hd2 hf3 hc2 F2 N2
      rw [show (0 : Int) + (j : Int) * 1 = (j : Int) by omega] at F2
      clear hd1 hf1
      have hA : (Str.ofString "abcdefgh").length = 8 := by decide +kernel
      have hlen2 := tabK_len files (i * files + j)
      have hnm := name_is (i := i) (j := j) (by omega) (by omega)
      have hput := tabK_put files (i * files + j) (by omega)
      obtain ⟨S, hS⟩ : ∃ S, i * files + j = S := ⟨_, rfl⟩
      rw [hS] at hc2 hlen2 hput
      obtain ⟨q1, q2⟩ := sq_parts hj hS
      rw [q1, q2] at hput
      have hSl := sq_lt hr2.2 hi hj hS
      subst hc2
      walk_at "M go"
      refine kdp_setItem (by assumption) (by assumption) (upd_own (by k_ne) hoff (.head _) hoff2 (.head _)) hd2 hf3 (by omega) fun h9 o9 kv9 F9 N9 hd9 hf9 => ?_
      clear hd2 hf3
      rw [hnm, hlen2, hput] at hf9
      dsimp +zetaDelta only at F9
      rw [hnm, hlen2] at F9
      walk_at "M go"
      (refine go_on ?_; k_dflt (refine' Cl.useS (cl_sqname2 files ranks i j S hf2 hr2.2 hi hj hS _ _) ?k1u168 ?k2u168 ?k3u168 ?k4u168 ?k5u168 ?kAu168 ?kFu168 ?kEu168 ?kKu168 ?kpu168 ?kdu168 ?kuu168 ?_; ( (case k1u168 => first | k_asm | fail "the frames below"); (case k2u168 => first | k_asm | fail "the frame"); (case k3u168 => first | k_asm | fail "the written part"); (case k4u168 => first | k_asm | fail "the ledger"); (case k5u168 => first | k_asm | fail "the top's facts"); (case kAu168 => first | exact rfl | fail "the raised"); (case kFu168 => first | exact rfl | fail "the frames"); (case kEu168 => first | exact rfl | fail "the caller's frame"); (case kKu168 => first | exact rfl | assumption | fail "the caller is no def"); (case kpu168 => first | exact trivial | is_list | fail "the premise"); (case kdu168 => first | ktr_room | fail "the frames' room"); (case kuu168 => first | ktr_units | fail "the C units"))); intro t9x h9x tk9x F9x N9x; (try dsimp only); walk_at "M on")
      · exfalso
        rename (_ != _) = true => hq
        rw [bne_self_eq_false] at hq
        cases hq
      (refine go_on ?_; k_dflt (refine' Cl.useI (cl_read2 files ranks i j S hf2 hr2 hi hj hS _ _ _) ?k1u169 ?k2u169 ?k3u169 ?k4u169 ?k5u169 ?kAu169 ?kFu169 ?kEu169 ?kKu169 ?kpu169 ?kdu169 ?kuu169 ?_; ( (case k1u169 => first | k_asm | fail "the frames below"); (case k2u169 => first | k_asm | fail "the frame"); (case k3u169 => first | k_asm | fail "the written part"); (case k4u169 => first | k_asm | fail "the ledger"); (case k5u169 => first | k_asm | fail "the top's facts"); (case kAu169 => first | exact rfl | fail "the raised"); (case kFu169 => first | exact rfl | fail "the frames"); (case kEu169 => first | exact rfl | fail "the caller's frame"); (case kKu169 => first | exact rfl | assumption | fail "the caller is no def"); (case kpu169 => first | exact trivial | is_list | fail "the premise"); (case kdu169 => first | ktr_room | fail "the frames' room"); (case kuu169 => first | ktr_units | fail "the C units"))); intro t9x h9x tk9x F9x N9x; (try dsimp only); walk_at "M on")
      · exact absurd rfl (by assumption)
      have hfi : (S : Int) % (files : Int) = (j : Int) := by rw [← Int.natCast_emod, q2]
      have hra : (S : Int) / (files : Int) = (i : Int) := by rw [← Int.natCast_ediv, q1]
      (refine go_on ?_; k_dflt (refine' Cl.useI (cl_file_of (files : Int) (S : Int) _ _ (by omega)) ?k1u170 ?k2u170 ?k3u170 ?k4u170 ?k5u170 ?kAu170 ?kFu170 ?kEu170 ?kKu170 ?kpu170 ?kdu170 ?kuu170 ?_; ( (case k1u170 => first | k_asm | fail "the frames below"); (case k2u170 => first | k_asm | fail "the frame"); (case k3u170 => first | k_asm | fail "the written part"); (case k4u170 => first | k_asm | fail "the ledger"); (case k5u170 => first | k_asm | fail "the top's facts"); (case kAu170 => first | exact rfl | fail "the raised"); (case kFu170 => first | exact rfl | fail "the frames"); (case kEu170 => first | exact rfl | fail "the caller's frame"); (case kKu170 => first | exact rfl | assumption | fail "the caller is no def"); (case kpu170 => first | exact trivial | is_list | fail "the premise"); (case kdu170 => first | ktr_room | fail "the frames' room"); (case kuu170 => first | ktr_units | fail "the C units"))); intro t9x h9x tk9x F9x N9x; (try dsimp only); walk_at "M on")
      · exact absurd hfi (by assumption)
      (refine go_on ?_; k_dflt (refine' Cl.useI (cl_rank_of (files : Int) (S : Int) _ _ (by omega) (by omega)) ?k1u171 ?k2u171 ?k3u171 ?k4u171 ?k5u171 ?kAu171 ?kFu171 ?kEu171 ?kKu171 ?kpu171 ?kdu171 ?kuu171 ?_; ( (case k1u171 => first | k_asm | fail "the frames below"); (case k2u171 => first | k_asm | fail "the frame"); (case k3u171 => first | k_asm | fail "the written part"); (case k4u171 => first | k_asm | fail "the ledger"); (case k5u171 => first | k_asm | fail "the top's facts"); (case kAu171 => first | exact rfl | fail "the raised"); (case kFu171 => first | exact rfl | fail "the frames"); (case kEu171 => first | exact rfl | fail "the caller's frame"); (case kKu171 => first | exact rfl | assumption | fail "the caller is no def"); (case kpu171 => first | exact trivial | is_list | fail "the premise"); (case kdu171 => first | ktr_room | fail "the frames' room"); (case kuu171 => first | ktr_units | fail "the C units"))); intro t9x h9x tk9x F9x N9x; (try dsimp only); walk_at "M on")
      · exact absurd hra (by assumption)
      (refine go_on ?_; (rename News _ _ _ _ => nEx); (try simp only [List.push_toArray] at nEx); refine' f_end (o9, tabK files (S + 1)) (by assumption) nEx ?hnu172 ?hau172 ?hku172 ?_; (case hku172 => walk_at "M all"); (case hnu172 => first | exact fun p hp => hp | k_sub | skip); (case hau172 => first | exact rfl | skip))
      exact ⟨⟨_, hd9, hf9⟩, by rw [← hS]; rfl⟩
    · rintro ⟨o2, c2⟩ u2 h2 tk2 ⟨⟨kv2, hd2, hf3⟩, hc2⟩ F2 N2
      dsimp only at hd2 hf3 hc2 F2 N2
      subst hc2
      walk_at "M go"
      (refine go_on ?_; (rename News _ _ _ _ => nEx); (try simp only [List.push_toArray] at nEx); refine' f_end (o2, tabK files (i * files + files)) (by assumption) nEx ?hnu173 ?hau173 ?hku173 ?_; (case hku173 => walk_at "M all"); (case hnu173 => first | exact fun p hp => hp | k_sub | skip); (case hau173 => first | exact rfl | skip))
      exact ⟨⟨_, hd2, hf3⟩, by rw [Nat.succ_mul]⟩
  · rintro ⟨o1, c1⟩ u1 h1 tk1 ⟨⟨kv1, hd1, hf1⟩, hc1⟩ F1 N1
    dsimp only at hd1 hf1 hc1 F1 N1
    subst hc1
    walk_at "M go"
    (refine go_on ?_; refine' m_rangeK1 (fun d (_ : Unit) => [("table", .ref d), ("script", .ref l), ("files", .int (files : Int) t), ("ranks", .int (ranks : Int) u)]) (fun _ _ => True) () (ns.length + 2) rfl (by assumption) ?hsmallu174 ?hnu174 (by assumption) (by assumption) ?hku174 ?_ ?_ ?_; (case hku174 => walk_at "M all"); (case hsmallu174 => first | exact small_one (by omega) (by omega) (by omega) (by omega) | exact small_down (by omega) (by omega) (by omega) (by omega)); (case hnu174 => first | exact (rangeSize_nat _ _).trans (by omega) | exact (rangeSize_downNat _ _).trans (by omega) | exact rangeSize_to _ _ (by omega)))
    · trivial
    · rintro i ⟨⟩ t0 u2 h2 tk2 own hi hoff - F2 N2
      rw [show (0 : Int) + (i : Int) * 1 = (i : Int) by omega] at F2
      walk_at "M go"
      (refine go_on ?_; k_dflt (refine' Cl.useI (cl_get l vs ns I i (by omega) (by omega) _) ?k1u175 ?k2u175 ?k3u175 ?k4u175 ?k5u175 ?kAu175 ?kFu175 ?kEu175 ?kKu175 ?kpu175 ?kdu175 ?kuu175 ?_; ( (case k1u175 => first | k_asm | fail "the frames below"); (case k2u175 => first | k_asm | fail "the frame"); (case k3u175 => first | k_asm | fail "the written part"); (case k4u175 => first | k_asm | fail "the ledger"); (case k5u175 => first | k_asm | fail "the top's facts"); (case kAu175 => first | exact rfl | fail "the raised"); (case kFu175 => first | exact rfl | fail "the frames"); (case kEu175 => first | exact rfl | fail "the caller's frame"); (case kKu175 => first | exact rfl | assumption | fail "the caller is no def"); (case kpu175 => first | exact trivial | is_list | fail "the premise"); (case kdu175 => first | ktr_room | fail "the frames' room"); (case kuu175 => first | ktr_units | fail "the C units"))); intro t9x h9x tk9x F9x N9x; (try dsimp only); walk_at "M on")
      have hz0 : 0 ≤ (if ns.getD i (37 * (i : Int) + 11) < 0 then -ns.getD i (37 * (i : Int) + 11) else ns.getD i (37 * (i : Int) + 11)) := by split <;> omega
      (rename Fr _ _ _ _ => F8)
      dsimp +zetaDelta only at F8
      generalize (if ns.getD i (37 * (i : Int) + 11) < 0 then -ns.getD i (37 * (i : Int) + 11) else ns.getD i (37 * (i : Int) + 11)) = z at *
      have hm0 : 0 ≤ (z.fmod 5).fmod 3 ∧ (z.fmod 5).fmod 3 < 3 := ⟨fmod_lo _ (by decide), fmod_hi _ (by decide)⟩
      (refine go_on ?_; refine' m_rangeK1 (fun d (c : Str × Int × Tok × Tok) => [("text", .str c.1 c.2.2.1), ("n", .int c.2.1 c.2.2.2), ("table", .ref d), ("script", .ref l), ("files", .int (files : Int) t), ("ranks", .int (ranks : Int) u)]) (fun j c => 0 ≤ c.2.1 ∧ ∃ ls : List Nat, ls.length = j ∧ (∀ a ∈ ls, a ∈ signsL) ∧ c.1 = ⟨ls.toArray⟩) (Str.ofString "", z, _, _) ((1 + (z.fmod 5).fmod 3).toNat) rfl (by assumption) ?hsmallu176 ?hnu176 (by assumption) (by assumption) ?hku176 ?_ ?_ ?_; (case hku176 => walk_at "M all"); (case hsmallu176 => first | exact small_one (by omega) (by omega) (by omega) (by omega) | exact small_down (by omega) (by omega) (by omega) (by omega)); (case hnu176 => first | exact (rangeSize_nat _ _).trans (by omega) | exact (rangeSize_downNat _ _).trans (by omega) | exact rangeSize_to _ _ (by omega)))
      · exact ⟨hz0, [], rfl, (fun a h => absurd h List.not_mem_nil), by show Str.ofString "" = ⟨#[]⟩; decide +kernel⟩
      · rintro j ⟨tx, n1, t3, t4⟩ t6 u3 h3 tk3 own3 hj hoff3 ⟨hn0, ls, hll, hls, htx⟩ F3 N3
        dsimp only at hn0 htx F3 N3
        simp only [List.append_eq, List.cons_append, List.nil_append] at N3
        have htl : tx.length = j := by rw [htx, ← hll]; rfl
        have h22 : (Str.ofString "abcdefgh12345678iA09 -").length = 22 := by decide +kernel
        have g0 := fmod_lo n1 (n := 22) (by decide)
        have g1 := fmod_hi n1 (n := 22) (by decide)
        obtain ⟨a, ha, hia⟩ := sign_at g0 g1
        walk_at "M go"
        (refine go_on ?_; (rename News _ _ _ _ => nEx); (try simp only [List.push_toArray] at nEx); refine' f_end (_, _, _, _) (by assumption) nEx ?hnu177 ?hau177 ?hku177 ?_; (case hku177 => walk_at "M all"); (case hnu177 => first | exact fun p hp => hp | k_sub | skip); (case hau177 => first | exact rfl | skip))
        refine ⟨?_, ls ++ [a], by simp [hll], fun b hb => ?_, ?_⟩
        · show 0 ≤ n1.fdiv 22
          rw [Int.fdiv_eq_ediv_of_nonneg _ (by decide)]
          omega
        · rcases List.mem_append.mp hb with hb | hb
          · exact hls b hb
          · rw [List.mem_singleton.mp hb]; exact ha
        · show tx ++ _ = _
          rw [hia, htx]
          exact txt_app ls [a]
      · rintro ⟨tx, n1, t3, t4⟩ u3 h3 tk3 ⟨hn0, ls, hll, hls, htx⟩ F3 N3
        dsimp only at hn0 htx F3 N3
        simp only [List.append_eq, List.cons_append, List.nil_append] at N3
        have htl : tx.length ≤ 3 := by rw [htx]; show ls.length ≤ 3; omega
        have hf2 : 2 ≤ files ∧ files ≤ 8 := hf
        have h1l : (Str.ofString "1").length = 1 := by decide +kernel
        walk_at "M go"
        (refine go_on ?_; k_dflt (refine' Cl.useI (cl_read (files : Int) (ranks : Int) (by omega) (by omega) tx (by omega) _ _ _) ?k1u178 ?k2u178 ?k3u178 ?k4u178 ?k5u178 ?kAu178 ?kFu178 ?kEu178 ?kKu178 ?kpu178 ?kdu178 ?kuu178 ?_; ( (case k1u178 => first | k_asm | fail "the frames below"); (case k2u178 => first | k_asm | fail "the frame"); (case k3u178 => first | k_asm | fail "the written part"); (case k4u178 => first | k_asm | fail "the ledger"); (case k5u178 => first | k_asm | fail "the top's facts"); (case kAu178 => first | exact rfl | fail "the raised"); (case kFu178 => first | exact rfl | fail "the frames"); (case kEu178 => first | exact rfl | fail "the caller's frame"); (case kKu178 => first | exact rfl | assumption | fail "the caller is no def"); (case kpu178 => first | exact trivial | is_list | fail "the premise"); (case kdu178 => first | ktr_room | fail "the frames' room"); (case kuu178 => first | ktr_units | fail "the C units"))); intro t9x h9x tk9x F9x N9x; (try dsimp only); walk_at "M on")
        · exfalso
          rename readI _ _ _ ≠ _ => hq
          rw [htx] at hq
          exact hq (read_look hf2 hr2 ls hls)
        (refine go_on ?_; k_dflt (refine' Cl.useI (cl_read (files : Int) (ranks : Int) (by omega) (by omega) (tx ++ Str.ofString "1") (by omega) _ _ _) ?k1u179 ?k2u179 ?k3u179 ?k4u179 ?k5u179 ?kAu179 ?kFu179 ?kEu179 ?kKu179 ?kpu179 ?kdu179 ?kuu179 ?_; ( (case k1u179 => first | k_asm | fail "the frames below"); (case k2u179 => first | k_asm | fail "the frame"); (case k3u179 => first | k_asm | fail "the written part"); (case k4u179 => first | k_asm | fail "the ledger"); (case k5u179 => first | k_asm | fail "the top's facts"); (case kAu179 => first | exact rfl | fail "the raised"); (case kFu179 => first | exact rfl | fail "the frames"); (case kEu179 => first | exact rfl | fail "the caller's frame"); (case kKu179 => first | exact rfl | assumption | fail "the caller is no def"); (case kpu179 => first | exact trivial | is_list | fail "the premise"); (case kdu179 => first | ktr_room | fail "the frames' room"); (case kuu179 => first | ktr_units | fail "the C units"))); intro t9x h9x tk9x F9x N9x; (try dsimp only); walk_at "M on")
        · exfalso
          rename readI _ _ _ ≠ _ => hq
          rw [htx, one_is, txt_app] at hq
          exact hq (read_look hf2 hr2 (ls ++ [49]) (fun b hb => by
            rcases List.mem_append.mp hb with hb | hb
            · exact hls b hb
            · rw [List.mem_singleton.mp hb]; decide))
        (refine go_on ?_; (rename News _ _ _ _ => nEx); (try simp only [List.push_toArray] at nEx); refine' f_end () (by assumption) nEx ?hnu180 ?hau180 ?hku180 ?_; (case hku180 => walk_at "M all"); (case hnu180 => first | exact fun p hp => hp | k_sub | skip); (case hau180 => first | exact rfl | skip))
        trivial
    · rintro ⟨⟩ u2 h2 tk2 - F2 N2
      walk_at "M go"
      (refine go_on ?_; k_dflt (refine' Cl.useI (cl_get l vs ns I 0 (by omega) (by omega) _) ?k1u181 ?k2u181 ?k3u181 ?k4u181 ?k5u181 ?kAu181 ?kFu181 ?kEu181 ?kKu181 ?kpu181 ?kdu181 ?kuu181 ?_; ( (case k1u181 => first | k_asm | fail "the frames below"); (case k2u181 => first | k_asm | fail "the frame"); (case k3u181 => first | k_asm | fail "the written part"); (case k4u181 => first | k_asm | fail "the ledger"); (case k5u181 => first | k_asm | fail "the top's facts"); (case kAu181 => first | exact rfl | fail "the raised"); (case kFu181 => first | exact rfl | fail "the frames"); (case kEu181 => first | exact rfl | fail "the caller's frame"); (case kKu181 => first | exact rfl | assumption | fail "the caller is no def"); (case kpu181 => first | exact trivial | is_list | fail "the premise"); (case kdu181 => first | ktr_room | fail "the frames' room"); (case kuu181 => first | ktr_units | fail "the C units"))); intro t9x h9x tk9x F9x N9x; (try dsimp only); walk_at "M on")
      have hz0 : 0 ≤ (if ns.getD 0 (37 * ((0 : Nat) : Int) + 11) < 0 then -ns.getD 0 (37 * ((0 : Nat) : Int) + 11) else ns.getD 0 (37 * ((0 : Nat) : Int) + 11)) := by split <;> omega
      (rename Fr _ _ _ _ => F8)
      dsimp +zetaDelta only at F8
      generalize (if ns.getD 0 (37 * ((0 : Nat) : Int) + 11) < 0 then -ns.getD 0 (37 * ((0 : Nat) : Int) + 11) else ns.getD 0 (37 * ((0 : Nat) : Int) + 11)) = z at *
      have hm0 : 0 ≤ z.fmod 1000 := fmod_lo _ (by decide)
      have hf2 : 2 ≤ files ∧ files ≤ 8 := hf
      (refine go_on ?_; k_dflt (refine' ClX.use (clx_lawname (files : Int) (-1) (by omega) (by omega) _ _) ?k1u182 ?k2u182 ?k3u182 ?k4u182 ?k5u182 ?k6u182 ?k7u182 ?k8u182 ?k9u182 ?k10u182 ?k11u182 ?k12u182 ?_); (case k1u182 => assumption); (case k2u182 => k_asm); (case k3u182 => assumption); (case k4u182 => k_asm); (case k5u182 => assumption); (case k6u182 => assumption); (case k7u182 => assumption); (case k8u182 => assumption); (case k9u182 => first | assumption | exact KtsTurn.refl); (case k10u182 => exact rfl); (case k11u182 => ktr_room); (case k12u182 => ktr_units))
      rintro v9 h9 tk9 g9 T9 F9 N9 B9 X9 P9 D9 ⟨t9, rfl⟩
      clear B' X' T' D'
      walk_at "M go"
      (refine go_on ?_; k_dflt (refine' ClX.use (clx_lawname (files : Int) (8 * (files : Int) + z.fmod 1000) (by omega) (by omega) _ _) ?k1u183 ?k2u183 ?k3u183 ?k4u183 ?k5u183 ?k6u183 ?k7u183 ?k8u183 ?k9u183 ?k10u183 ?k11u183 ?k12u183 ?_); (case k1u183 => assumption); (case k2u183 => k_asm); (case k3u183 => assumption); (case k4u183 => k_asm); (case k5u183 => assumption); (case k6u183 => assumption); (case k7u183 => assumption); (case k8u183 => assumption); (case k9u183 => first | assumption | exact KtsTurn.refl); (case k10u183 => exact rfl); (case k11u183 => ktr_room); (case k12u183 => ktr_units))
      rintro v8 h8 tk8 g8 T8 F8 N8 B8 X8 P8 D8 ⟨t8, rfl⟩
      clear B9 X9 P9 D9 F9 N9
      walk_at "M go"
      · exact absurd rfl (by assumption)
      have hnil : readI (files : Int) (ranks : Int) (Str.ofString "") = -1 := by
        rw [readI, if_pos (by rw [show (Str.ofString "").length = 0 by decide +kernel]; decide)]
      (refine go_on ?_; k_dflt (refine' Cl.useI (cl_read (files : Int) (ranks : Int) (by omega) (by omega) (Str.ofString "") (by rw [show (Str.ofString "").length = 0 by decide +kernel]; decide) _ _ _) ?k1u184 ?k2u184 ?k3u184 ?k4u184 ?k5u184 ?kAu184 ?kFu184 ?kEu184 ?kKu184 ?kpu184 ?kdu184 ?kuu184 ?_; ( (case k1u184 => first | k_asm | fail "the frames below"); (case k2u184 => first | k_asm | fail "the frame"); (case k3u184 => first | k_asm | fail "the written part"); (case k4u184 => first | k_asm | fail "the ledger"); (case k5u184 => first | k_asm | fail "the top's facts"); (case kAu184 => first | exact rfl | fail "the raised"); (case kFu184 => first | exact rfl | fail "the frames"); (case kEu184 => first | exact rfl | fail "the caller's frame"); (case kKu184 => first | exact rfl | assumption | fail "the caller is no def"); (case kpu184 => first | exact trivial | is_list | fail "the premise"); (case kdu184 => first | ktr_room | fail "the frames' room"); (case kuu184 => first | ktr_units | fail "the C units"))); intro t9x h9x tk9x F9x N9x; (try dsimp only); walk_at "M on")
      (rename KtsTurn _ g₀ _ => kT9)
      refine ret _ _ _ _ kT9 (by assumption) ?_ (by assumption) (by assumption) (by assumption) (by assumption) ?_
      · exact news_tail (by assumption)
      · rw [hnil]; rfl

example : True := by
  w_top off
  exact True.intro
/-! the pieces: plain laws and two contracts -/
noncomputable def TabI (prog : Program) (w : World) (o : Obj) (D : List (PyData × PyData)) : Prop := ∃ kvs, o.IsDictOf (PySem.intKind prog w) kvs ∧ PyProof.V.FlatPairs PyData.int kvs D
noncomputable def LookP (i : Int) (D : List (PyData × PyData)) : Prop := ∀ p : Int, PySem.Spec.lookup (.int p) D = if p = 0 ∨ (1 ≤ p ∧ p ≤ i) ∨ (9 ≤ p ∧ p ≤ 8 + i) then some (.str (letterS p)) else none
theorem letter0 : letterS 0 = Str.ofString "." := by decide +kernel
theorem white6 : ∀ k : Fin 6, Txt.item (Str.ofString " PNBRQK") (1 + ((k.val : Nat) : Int)) = letterS (1 + ((k.val : Nat) : Int)) := by decide +kernel
theorem black6 : ∀ k : Fin 6, Txt.item (Str.ofString " pnbrqk") (1 + ((k.val : Nat) : Int)) = letterS (8 + (1 + ((k.val : Nat) : Int))) := by decide +kernel
noncomputable def pieceI (x : Str) : Int := if (x.length : Int) ≠ 1 ∨ x = Str.ofString "." then -1 else Txt.find (Str.ofString ".PNBRQK..pnbrqk") x
theorem pieceI8 : ∀ s : Fin 2, ∀ k : Fin 6, pieceI (letterS (((s.val : Nat) : Int) * 8 + (1 + ((k.val : Nat) : Int)))) = ((s.val : Nat) : Int) * 8 + (1 + ((k.val : Nat) : Int)) := by decide +kernel
theorem lookP_0 : LookP 0 [(.int 0, .str (Str.ofString "."))] := fun p => by
  show (if PySem.Spec.same (.int 0) (.int p) = true then some (PyData.str (Str.ofString ".")) else none) = _
  rw [PyProof.V.same_int]
  by_cases h : p = 0
  · subst h; rw [if_pos (by decide), if_pos (.inl rfl), letter0]
  · rw [if_neg (by simpa using fun e => h e.symm), if_neg (by omega)]
theorem lookP_succ {i : Int} {D : List (PyData × PyData)} (hi : 0 ≤ i ∧ i < 6) (h : LookP i D) : LookP (i + 1) (PyProof.V.putD (.int (8 + (1 + i))) (.str (letterS (8 + (1 + i)))) (PyProof.V.putD (.int (1 + i)) (.str (letterS (1 + i))) D)) := fun p => by
  rw [lookup_putD_int, lookup_putD_int, h p]
  by_cases h1 : p = 8 + (1 + i)
  · rw [if_pos h1, if_pos (by omega), h1]
  · rw [if_neg h1]
    by_cases h2 : p = 1 + i
    · rw [if_pos h2, if_pos (by omega), h2]
    · rw [if_neg h2]
      by_cases h3 : p = 0 ∨ (1 ≤ p ∧ p ≤ i) ∨ (9 ≤ p ∧ p ≤ 8 + i)
      · rw [if_pos h3, if_pos (by omega)]
      · rw [if_neg h3, if_neg (by omega)]

example : True := by
  w_top off
  exact True.intro
set_option maxHeartbeats 4000000 in
theorem cl_piece_of {w : World} {mean : ExcName → Option Value} {mg mb : Str → Option Value} (x : Str) (hx : x.length ≤ 100) (t : Tok) : Cl w mean mg mb 184 4 [.str x t] PTrue (RInt (pieceI x)) := by
  ( k_dflt (refine' Cl.enter (binds := [("letter", .str x t)]) ?k6u185 ?k7u185 ?k9u185 ?kBu185 ?kDu185 ?c2u185 ?c3u185 ?c4u185 ?c5u185 ?khu185; (case k6u185 => k_is); (case k7u185 => k_is); (case k9u185 => exact rfl); (case kBu185 => exact locs rfl); (case kDu185 => decide); (case c2u185 => exact rfl); (case c3u185 => exact rfl); (case c4u185 => exact rfl); (case c5u185 => decide); k_whole))
  intro outer R A₀ base g L h₁ tk₁ gs dr os Q E B F' N' X T hpre hd hu hP ret
  try dsimp only at hpre F'
  walk_at "M go"
  all_goals refine ret _ _ _ (by assumption) (by assumption) (rint_of ?_)
  · rw [pieceI, if_pos (.inl (by assumption))]
  · rename (x == _) = true => hq
    rw [pieceI, if_pos (.inr (beq_iff_eq.mp hq))]
  · rename (x == _) = false => hq
    rw [pieceI, if_neg]
    rintro (h | h)
    · omega
    · rw [h, beq_self_eq_true] at hq; cases hq

example : True := by
  w_top off
  exact True.intro
/-! a for over a range whose turns call what raises and catches: the ground's frames may turn at every turn -/
noncomputable def frsOf (gg : Heap) : List Addr → List (Addr × Obj)
  | [] => []
  | b :: r => match gg.get? b with
    | some o => (b, o) :: frsOf gg r
    | none => frsOf gg r
theorem frsOf_mem {gg : Heap} : ∀ {fs : List Addr} {p : Addr × Obj}, p ∈ frsOf gg fs ↔ p.1 ∈ fs ∧ gg.get? p.1 = some p.2
  | [], p => by simp [frsOf]
  | b :: r, p => by
    have ih := frsOf_mem (gg := gg) (fs := r) (p := p)
    unfold frsOf
    cases e : gg.get? b with
    | none =>
      simp only [ih, List.mem_cons]
      constructor
      · rintro ⟨h1, h2⟩; exact ⟨.inr h1, h2⟩
      · rintro ⟨h1 | h1, h2⟩
        · rw [h1, e] at h2; cases h2
        · exact ⟨h1, h2⟩
    | some o =>
      simp only [List.mem_cons, ih]
      constructor
      · rintro (rfl | ⟨h1, h2⟩)
        · exact ⟨.inl rfl, e⟩
        · exact ⟨.inr h1, h2⟩
      · rintro ⟨h1 | h1, h2⟩
        · left
          obtain ⟨p1, p2⟩ := p
          obtain rfl : p1 = b := h1
          rw [e] at h2; cases h2; rfl
        · exact .inr ⟨h1, h2⟩
theorem frsOf_adr {gg : Heap} : ∀ {fs : List Addr}, (∀ b ∈ fs, ∃ o, gg.get? b = some o) → (frsOf gg fs).map (·.1) = fs
  | [], _ => rfl
  | b :: r, h => by
    obtain ⟨o, ho⟩ := h b (.head _)
    unfold frsOf
    rw [ho]
    simp only [List.map_cons]
    rw [frsOf_adr fun c hc => h c (.tail _ hc)]
noncomputable def XEnd (h₀ : Heap) (fs : List Addr) (L : Addr) (s : Shared) (ps : List (Str × Value)) (led : List (Addr × Obj)) (own : List (Addr × Obj)) (s₂ : Shared) : Prop :=
  ∃ (h' : Heap) (tk : Nat) (m' : Str → Option Value) (gg : Heap) (news' : List (Addr × Obj)), s₂ = { s with heap := h', toks := tk } ∧ KtsTurn fs h₀ gg ∧ Fr gg L h' m' ∧ News gg L h' news' ∧ (∀ p ∈ led ++ own, p ∈ news') ∧ (∀ p ∈ ps, m' p.1 = some p.2)
noncomputable def XPost (h₀ : Heap) (fs : List Addr) (L : Addr) (s : Shared) (ps : List (Str × Value)) (led own : List (Addr × Obj)) (Q : Flow → Shared → Prop) (f : Flow) (s₂ : Shared) : Prop :=
  match f with
  | .ret v => Q (.ret v) s₂
  | .brk => Q .next s₂
  | _ => XEnd h₀ fs L s ps led own s₂
theorem x_end {h₀ gg : Heap} {fs : List Addr} {L : Addr} {s : Shared} {ps : List (Str × Value)} {led own : List (Addr × Obj)} {m' : Str → Option Value} {h' : Heap} {tk : Nat} {news' : List (Addr × Obj)}
    (T : KtsTurn fs h₀ gg) (F : Fr gg L h' m') (N : News gg L h' news') (hn : ∀ p ∈ led ++ own, p ∈ news') (hk : ∀ p ∈ ps, m' p.1 = some p.2) : XEnd h₀ fs L s ps led own { s with heap := h', toks := tk } := ⟨h', tk, m', gg, news', rfl, T, F, N, hn, hk⟩
section
variable {prog : Program} {w : World} {A A₀ : Around} {E : Value → Shared → Prop} {s : Shared} {env : Env} {h₀ base : Heap} {outer : List Env} {x : Str} {body : List Stmt} {Q : Flow → Shared → Prop} {KF : Frag} {p : Program} {loose : List Str} {mean : ExcName → Option Value} {mg mb : Str → Option Value}
theorem m_rangeX {r d : Addr} {o : Obj} {rest : List (Addr × Obj)} {a₀ b₀ st : Int} {t₀ u₀ v₀ : Tok} {m₀ : Str → Option Value} (ps : Addr → List (Str × Value)) (n : Nat)
    (hh : A.handled = none) (hr : IsRange s.heap r a₀ b₀ st t₀ u₀ v₀) (hsmall : Builtin.Range.small a₀ b₀ st = true) (hn : Builtin.Range.rangeSize a₀ b₀ st = (n : Int)) (F : Fr h₀ env.locals s.heap m₀) (N : News h₀ env.locals s.heap ((d, o) :: rest)) (hk : ∀ p ∈ ps d, m₀ p.1 = some p.2)
    (B : Below A₀ base outer h₀) (XB : KF.In base) (TB : Top p loose mean mg mb base) (D : KtsDicts (outer.filterMap (·.frame)) h₀)
    (turn : ∀ (i : Nat) t (u : Str → Option Value) h tk own gg, i < n → KtsTurn (outer.filterMap (·.frame)) h₀ gg → Below A₀ base outer gg → KF.In gg → Top p loose mean mg mb gg → KtsDicts (outer.filterMap (·.frame)) gg →
      Fr gg env.locals h (kstB u ((x, .int (a₀ + i * st) t) :: ps d)) → News gg env.locals h (((d, o) :: rest) ++ own) →
      wpAny (model prog w) A (execs body env) (XPost h₀ (outer.filterMap (·.frame)) env.locals { s with heap := h, toks := tk } (ps d) ((d, o) :: rest) own Q) E { s with heap := h, toks := tk })
    (done : ∀ (u : Str → Option Value) h tk gg, KtsTurn (outer.filterMap (·.frame)) h₀ gg → Below A₀ base outer gg → KF.In gg → Top p loose mean mg mb gg → KtsDicts (outer.filterMap (·.frame)) gg →
      Fr gg env.locals h (kstB u (ps d)) → News gg env.locals h ((d, o) :: rest) → Q .next { s with heap := h, toks := tk }) :
    wpAny (model prog w) A (pyIter (.ref r)) (fun it s₂ => LoopAtV prog w A (hideAll h₀ (outer.filterMap (·.frame))) env x body Q E it s₂) E s := by
  have inB : ∀ b ∈ outer.filterMap (·.frame), ∃ o, h₀.get? b = some o := fun b hb => by
    obtain ⟨_, o, ho, _⟩ := B.frames.mem hb
    exact ⟨o, ho⟩
  have inG : ∀ gg, KtsTurn (outer.filterMap (·.frame)) h₀ gg → ∀ b ∈ outer.filterMap (·.frame), ∃ o, gg.get? b = some o := fun gg T b hb => by
    obtain ⟨o, ho⟩ := inB b hb
    obtain ⟨sl, hs⟩ := T.up ho
    exact ⟨_, hs⟩
  have ledOff : ∀ p ∈ (d, o) :: rest, p.1 ∉ outer.filterMap (·.frame) := fun p hp hb => by
    obtain ⟨o', ho'⟩ := inB _ hb
    rw [(N p hp).2.2] at ho'; cases ho'
  have g0none : ∀ b, h₀.get? b = none → (hideAll h₀ (outer.filterMap (·.frame))).get? b = none := fun b hb => by
    cases q : (hideAll h₀ (outer.filterMap (·.frame))).get? b with
    | none => rfl
    | some o => rw [of_hideAll _ q] at hb; cases hb
  have toG0 : ∀ gg L' h m, KtsTurn (outer.filterMap (·.frame)) h₀ gg → Fr gg L' h m → Fr (hideAll h₀ (outer.filterMap (·.frame))) L' h m := fun gg L' h m T F' =>
    ⟨F'.ns, fun b o hb => F'.keep b o (T.other b o (of_hideAll _ hb) fun hm => by rw [hideAll_none _ hm] at hb; cases hb), by rw [hideAll_size, ← T.size]; exact F'.above⟩
  have newsG0 : ∀ gg L' h m l, KtsTurn (outer.filterMap (·.frame)) h₀ gg → Fr gg L' h m → News gg L' h l → News (hideAll h₀ (outer.filterMap (·.frame))) L' h (l ++ frsOf gg (outer.filterMap (·.frame))) := fun gg L' h m l T F' N' p hp => by
    rcases List.mem_append.mp hp with hp | hp
    · obtain ⟨a, b, c⟩ := N' p hp
      refine ⟨a, b, ?_⟩
      cases q : (hideAll h₀ (outer.filterMap (·.frame))).get? p.1 with
      | none => rfl
      | some o =>
        have := T.other _ _ (of_hideAll _ q) fun hm => by rw [hideAll_none _ hm] at q; cases q
        rw [c] at this; cases this
    · obtain ⟨a, b⟩ := frsOf_mem.mp hp
      refine ⟨F'.keep _ _ b, fun q => ?_, hideAll_none _ a⟩
      have := kts_self F'
      rw [← q, b] at this; cases this
  have back : ∀ gg L' h m, KtsTurn (outer.filterMap (·.frame)) h₀ gg → Fr (hideAll h₀ (outer.filterMap (·.frame))) L' h m → (∀ p ∈ frsOf gg (outer.filterMap (·.frame)), h.get? p.1 = some p.2) → Fr gg L' h m := fun gg L' h m T F' hf =>
    ⟨F'.ns, fun b o hb => by
      by_cases hm : b ∈ outer.filterMap (·.frame)
      · exact hf (b, o) (frsOf_mem.mpr ⟨hm, hb⟩)
      · cases q : h₀.get? b with
        | none => rw [T.none_ _ q] at hb; cases hb
        | some o' =>
          have := T.other _ _ q hm
          rw [hb] at this
          cases this
          exact F'.keep _ _ (hideAll_get _ q hm), by have := F'.above; rw [hideAll_size] at this; rw [T.size]; exact this⟩
  have backN : ∀ gg L' h l, KtsTurn (outer.filterMap (·.frame)) h₀ gg → News (hideAll h₀ (outer.filterMap (·.frame))) L' h l → (∀ p ∈ l, p.1 ∉ outer.filterMap (·.frame)) → News gg L' h l := fun gg L' h l T N' hf p hp => by
    obtain ⟨a, b, c⟩ := N' p hp
    refine ⟨a, b, T.none_ _ ?_⟩
    cases q : h₀.get? p.1 with
    | none => rfl
    | some o => rw [hideAll_get _ q (hf p hp)] at c; cases c
  have below : ∀ gg, KtsTurn (outer.filterMap (·.frame)) h₀ gg → Below A₀ base outer gg := fun gg T => ⟨B.stack, fun b o e => T.other b o (B.stays b o e) (fun hm => by rw [(B.frames.mem hm).1] at e; cases e), B.frames.of_keeps fun b o e _ => by
    obtain ⟨sl, hs⟩ := T.up e
    exact ⟨_, hs, rfl⟩⟩
  have F0 := toG0 h₀ _ _ _ KtsTurn.refl F
  have N0 := newsG0 h₀ _ _ _ _ KtsTurn.refl F N
  refine wpAny_pyIter_range hr hsmall ?_
  have W : Walks prog w A s.heap.objs.size [s.heap.objs.size] [s.heap.objs.size] n (fun i v => i < n ∧ ∃ t, v = .int (a₀ + i * st) t)
      (fun i h => IsRangeIter h s.heap.objs.size (a₀ + (i : Nat) * st) ((n : Int) - (i : Nat)) st) := (Walks.range hh _ a₀ st n).bound
  refine loop_invN (fun _ m nx => ∃ gg, KtsTurn (outer.filterMap (·.frame)) h₀ gg ∧ nx = ((d, o) :: rest) ++ frsOf gg (outer.filterMap (·.frame)) ∧ ∀ p ∈ ps d, m p.1 = some p.2) W ?_ ?_ ?_ ?_ (by show IsRangeIter _ _ _ _ _; rw [hn]; simpa using Heap.get?_push_size _ rfl) (F0.push _)
    (fun p hp => ⟨Heap.get?_push_of_some _ (N0 p hp).1, (N0 p hp).2⟩) ⟨h₀, KtsTurn.refl, rfl, hk⟩ ?_ ?_
  · intro hm
    exact absurd F.ns.lt ((List.mem_singleton.mp hm) ▸ Nat.lt_irrefl _)
  · intro b hb
    rw [List.mem_singleton.mp hb]
    exact next_is_new F0
  · intro p hp hI
    exact absurd (Heap.lt_size (N0 p hp).1) ((List.mem_singleton.mp hI) ▸ Nat.lt_irrefl _)
  · intro p hp hI
    exact absurd (Heap.lt_size (N0 p hp).1) ((List.mem_singleton.mp hI) ▸ Nat.lt_irrefl _)
  · rintro i v m₁ nx h tk own hi ⟨_, t, rfl⟩ _ hoff ⟨gg, T, rfl, h1⟩ F₁ N₁
    have ownOff : ∀ p ∈ own, p.1 ∉ outer.filterMap (·.frame) := fun p hp hm => by
      refine hoff p hp p.1 ?_ rfl
      rw [List.map_append, List.mem_append]
      right
      rw [frsOf_adr inB]; exact hm
    have Fg := back gg _ _ _ T F₁ fun p hp => (N₁ p (List.mem_append_left _ (List.mem_append_right _ hp))).1
    have Ng : News gg env.locals h (((d, o) :: rest) ++ own) := backN gg _ _ _ T (fun p hp => N₁ p ((List.mem_append.mp hp).elim (fun q => List.mem_append_left _ (List.mem_append_left _ q)) fun q => List.mem_append_right _ q))
      fun p hp => (List.mem_append.mp hp).elim (ledOff p) (ownOff p)
    have F₂ : Fr gg env.locals h (kstB m₁ ((x, .int (a₀ + i * st) t) :: ps d)) := by
      have e : kstB m₁ ((x, .int (a₀ + i * st) t) :: ps d) = fun y => if y = x then some (.int (a₀ + i * st) t) else m₁ y := by
        show (fun z => if z = x then some (Value.int (a₀ + i * st) t) else kstB m₁ (ps d) z) = _
        rw [kstB_same h1]
      rw [e]; exact Fg
    refine wpAny_mono (turn i t m₁ h tk own gg hi T (below gg T) (XB.keeps (below gg T).stays) (TB.keeps (below gg T).stays) (D.turn T) F₂ Ng) (fun f s₂ p => ?_) fun _ _ y => y
    have fin : XEnd h₀ (outer.filterMap (·.frame)) env.locals { s with heap := h, toks := tk } (ps d) ((d, o) :: rest) own s₂ → InvEndN (hideAll h₀ (outer.filterMap (·.frame))) env.locals (fun m nx => ∃ gg, KtsTurn (outer.filterMap (·.frame)) h₀ gg ∧ nx = ((d, o) :: rest) ++ frsOf gg (outer.filterMap (·.frame)) ∧ ∀ p ∈ ps d, m p.1 = some p.2) own
        ((((d, o) :: rest) ++ frsOf h₀ (outer.filterMap (·.frame))).map (·.1)) { s with heap := h, toks := tk } s₂ := by
      rintro ⟨h', tk', m', gg', news', e, T', F', N', hn', hk'⟩
      refine ⟨h', tk', m', _, _, e, toG0 gg' _ _ _ T' F', newsG0 gg' _ _ _ _ T' F' N', fun p hp => ?_, fun p hp => List.mem_append_left _ (hn' p (List.mem_append_right _ hp)), ?_, gg', T', rfl, hk'⟩
      · rcases List.mem_append.mp hp with hp | hp
        · exact List.mem_append_left _ (hn' p (List.mem_append_left _ hp))
        · exact List.mem_append_right _ hp
      · rw [List.map_append, List.map_append, frsOf_adr (inG gg' T'), frsOf_adr inB]
    cases f with
    | ret v => exact p
    | brk => exact p
    | next => exact fin p
    | cont => exact fin p
  · rintro m₁ nx h tk ⟨gg, T, rfl, h1⟩ F₁ N₁
    have Fg := back gg _ _ _ T F₁ fun p hp => (N₁ p (List.mem_append_right _ hp)).1
    have Ng : News gg env.locals h ((d, o) :: rest) := backN gg _ _ _ T (fun p hp => N₁ p (List.mem_append_left _ hp)) ledOff
    exact done m₁ h tk gg T (below gg T) (XB.keeps (below gg T).stays) (TB.keeps (below gg T).stays) (D.turn T) (by rw [kstB_same h1]; exact Fg) Ng
end

example : True := by
  w_top off
  exact True.intro
section
variable {prog : Program} {w : World} {A : Around} {E : Value → Shared → Prop} {s : Shared} {env : Env} {h₀ : Heap} {x : Str} {body : List Stmt} {Q : Flow → Shared → Prop}
/-! a for over a list of the ledger's; its turns keep what ps says and what lies under the list -/
theorem m_listW {l lo : Addr} {ox : Obj} {items : Array Value} {k : Nat} {rest : List (Addr × Obj)} {m₀ : Str → Option Value} (ps : Addr → List (Str × Value))
    (hh : A.handled = none) (F : Fr h₀ env.locals s.heap m₀) (N : News h₀ env.locals s.heap ((l, listOf items k) :: (lo, ox) :: rest)) (hk : ∀ p ∈ ps lo, m₀ p.1 = some p.2) (hne : ∀ p ∈ (lo, ox) :: rest, p.1 ≠ l)
    (turn : ∀ (i : Nat) v (u : Str → Option Value) h tk own, items[i]? = some v → Fr h₀ env.locals h (kstB u ((x, v) :: ps lo)) → News h₀ env.locals h (((lo, ox) :: rest) ++ own) →
      wpAny (model prog w) A (execs body env) (FPost h₀ env.locals { s with heap := h, toks := tk } (fun _ : Unit => (lo, ox) :: rest) (fun _ => ps lo) (fun _ => True) own (((lo, ox) :: rest).map (·.1)) Q) E { s with heap := h, toks := tk })
    (done : ∀ (u : Str → Option Value) h tk, Fr h₀ env.locals h (kstB u (ps lo)) → News h₀ env.locals h ((lo, ox) :: rest) → Q .next { s with heap := h, toks := tk }) :
    wpAny (model prog w) A (pyIter (.ref l)) (fun it s₂ => LoopAtV prog w A h₀ env x body Q E it s₂) E s := by
  have hl : s.heap.IsList l items := News.isList N (List.Mem.head _)
  have hlL : l ≠ env.locals := (N _ (List.Mem.head _)).2.1
  have hlt : l < s.heap.objs.size := Heap.lt_size (N _ (List.Mem.head _)).1
  have N1 : News h₀ env.locals s.heap ((lo, ox) :: rest) := fun p hp => N p (.tail _ hp)
  refine wpAny_pyIter_list hl ?_
  have W := Walks.list (prog := prog) (w := w) hh s.heap.objs.size l (Nat.ne_of_lt hlt) items
  refine loop_invN (fun _ m nx => nx = (lo, ox) :: rest ∧ ∀ p ∈ ps lo, m p.1 = some p.2) W ?_ ?_ ?_ ?_ ⟨⟨_, Heap.get?_push_size _ rfl, rfl, rfl⟩, hl.at fun o e => Heap.get?_push_of_some _ e⟩ (F.push _) (fun p hp => ⟨Heap.get?_push_of_some _ (N1 p hp).1, (N1 p hp).2⟩) ⟨rfl, hk⟩ ?_ ?_
  · intro hm
    rcases List.mem_cons.mp hm with e | hm
    · exact absurd F.ns.lt (e ▸ Nat.lt_irrefl _)
    · exact hlL (List.mem_singleton.mp hm).symm
  · intro b hb
    rw [List.mem_singleton.mp hb]
    exact next_is_new F
  · intro p hp hI
    exact absurd (Heap.lt_size (N1 p hp).1) ((List.mem_singleton.mp hI) ▸ Nat.lt_irrefl _)
  · intro p hp hI
    rcases List.mem_cons.mp hI with e | hI
    · exact absurd (Heap.lt_size (N1 p hp).1) (e ▸ Nat.lt_irrefl _)
    · exact hne p hp (List.mem_singleton.mp hI)
  · rintro i v m₁ nx h tk own hi hv _ _ ⟨rfl, h1⟩ F₁ N₁
    have F₂ : Fr h₀ env.locals h (kstB m₁ ((x, v) :: ps lo)) := by
      have e : kstB m₁ ((x, v) :: ps lo) = fun y => if y = x then some v else m₁ y := by
        show (fun z => if z = x then some v else kstB m₁ (ps lo) z) = _
        rw [kstB_same h1]
      rw [e]; exact F₁
    refine wpAny_mono (turn i v m₁ h tk own hv F₂ (fun p hp => N₁ p hp)) (fun f s₂ p => ?_) fun _ _ y => y
    have fin : FEnd h₀ env.locals { s with heap := h, toks := tk } (fun _ : Unit => (lo, ox) :: rest) (fun _ => ps lo) (fun _ => True) own (((lo, ox) :: rest).map (·.1)) s₂ → InvEndN h₀ env.locals (fun m nx => nx = (lo, ox) :: rest ∧ ∀ p ∈ ps lo, m p.1 = some p.2) own (((lo, ox) :: rest).map (·.1)) { s with heap := h, toks := tk } s₂ := by
      rintro ⟨c', h', tk', m', news', e, F', N', hn', ha, hk', _⟩
      exact ⟨h', tk', m', news', _, e, F', N', fun p hp => hn' p (List.mem_append.mpr (.inl hp)), fun p hp => hn' p (List.mem_append.mpr (.inr hp)), rfl, rfl, hk'⟩
    cases f with
    | ret v => exact p
    | brk => exact p
    | next => exact fin p
    | cont => exact fin p
  · rintro m₁ nx h tk ⟨rfl, h1⟩ F₁ N₁
    exact done m₁ h tk (by rw [kstB_same h1]; exact F₁) N₁
end

example : True := by
  w_top off
  exact True.intro
example : True := by
  k_with "exec For Name Call cons nil" => (k_here; (with_reducible show wpAny _ _ (exec (Stmt.For (Expr.Name (Str.ofString "piece") _) _ _ _ _) _) _ _ _); refine stop_here ?_)
  k_with "XPost" => (dsimp only [XPost])
  k_with "XEnd" => (refine stop_here ?_)
  exact True.intro
theorem six_texts {c i : Nat} {t0 t1 t2 t3 t4 t5 : Tok} {v : Value} (h : (#[Value.str (Str.ofString ".") t0, Value.str (Str.ofString "") t1, Value.str (Str.ofString "PN") t2, Value.str (Str.ofString "x") t3, Value.str (Str.ofString "0") t4, Value.str ({ cps := #[c] } ++ Str.ofString "K") t5])[i]? = some v) :
    ∃ tx tt, v = .str tx tt ∧ tx.length ≤ 100 ∧ pieceI tx = -1 := by
  match i, h with
  | 0, h => exact ⟨_, _, (Option.some.inj h).symm, by decide +kernel, by decide +kernel⟩
  | 1, h => exact ⟨_, _, (Option.some.inj h).symm, by decide +kernel, by decide +kernel⟩
  | 2, h => exact ⟨_, _, (Option.some.inj h).symm, by decide +kernel, by decide +kernel⟩
  | 3, h => exact ⟨_, _, (Option.some.inj h).symm, by decide +kernel, by decide +kernel⟩
  | 4, h => exact ⟨_, _, (Option.some.inj h).symm, by decide +kernel, by decide +kernel⟩
  | 5, h =>
    have e : ({ cps := #[c] } ++ Str.ofString "K" : Str).length = 2 := by
      show (#[c] ++ (Str.ofString "K").cps).size = 2
      rw [Array.size_append, show (Str.ofString "K").cps.size = 1 by decide +kernel]
      rfl
    exact ⟨_, _, (Option.some.inj h).symm, by rw [e]; decide, by rw [pieceI, if_pos (.inl (by rw [e]; decide))]⟩
  | (_ + 6), h => simp at h
set_option maxHeartbeats 4000000 in
theorem clx_pieces {w : World} {mean : ExcName → Option Value} {mg mb : Str → Option Value} (n : Int) (hn : -500 ≤ n ∧ n < 100000) (t : Tok) :
    ClX w mean mg mb 339 60 [.int n t] (fun v => v = .bool true) := by
  unfold ClX; k_fill
  intro dp un gd cn cs aF ccd outer A₀ base g₀ h₀ L m s Q E news B F X N T XB TB D T0 hk hdp hu ret
  ( refine wpAny_call ?_; k_dflt (refine' code_defS (binds := [("n", .int n t)]) ?k1u186 ?k2u186 ?k3u186 ?k4u186 ?k5u186 ?x1u186 ?x2u186 ?x3u186 ?x4u186 ?kAu186 ?k6u186 ?k7u186 ?k8u186 ?k9u186 ?kBu186 ?_ ?kKu186 ?c2u186 ?c3u186 ?c4u186 ?c5u186; (case kAu186 => exact rfl); (case kKu186 => assumption); (case k1u186 => k_asm); (case k2u186 => k_asm); (case k3u186 => k_asm); (case k4u186 => k_asm); (case k5u186 => k_asm); (case x1u186 => assumption); (case x2u186 => assumption); (case x3u186 => assumption); (case x4u186 => assumption); (case k6u186 => k_is); (case k7u186 => k_is); (case k8u186 => ktr_room); (case k9u186 => exact BindsTo.of_eq rfl); (case c5u186 => decide); (case kBu186 => exact locs rfl); (case c2u186 => exact rfl); (case c3u186 => exact rfl); (case c4u186 => exact rfl); k_whole))
  intro g' L' h' FG' F' N' B' X' T' D'
  walk_at "M go"
  rename PyProof.V.FlatPairs _ _ _ => hf0
  rename Obj.IsDictOf _ _ _ => hd0
  (refine go_on ?_; refine' m_rangeO (fun (c : Obj × List (PyData × PyData)) => c.1) (fun d c => [("table", .ref d), ("n", .int n t)]) (fun i c => TabI Challenge.rw_nt0423_01.row.prog w c.1 c.2 ∧ c.2.length ≤ 1 + 2 * i ∧ LookP (i : Int) c.2) (_, [(.int 0, .str (Str.ofString "."))]) 6 rfl (by assumption) ?hsmallu187 ?hnu187 (by assumption) (by assumption) ?hku187 ?_ ?_ ?_; (case hku187 => walk_at "M all"); (case hsmallu187 => first | exact small_one (by omega) (by omega) (by omega) (by omega) | exact small_down (by omega) (by omega) (by omega) (by omega)); (case hnu187 => first | exact (rangeSize_nat _ _).trans (by omega) | exact (rangeSize_downNat _ _).trans (by omega) | decide))
  · refine ⟨⟨_, hd0, hf0⟩, by show 1 ≤ 1; decide, lookP_0⟩
  · rintro i ⟨o1, D1⟩ t0 u1 h1 tk1 own hi hoff ⟨⟨kv1, hd1, hf1⟩, hl1, hk1⟩ F1 N1
    dsimp only at hd1 hf1 hl1 hk1 F1 N1
    clear hd0 hf0
    rw [show (1 : Int) + (i : Int) * 1 = 1 + (i : Int) by omega] at F1
    have hw6 : (Str.ofString " PNBRQK").length = 7 := by decide +kernel
    have hb6 : (Str.ofString " pnbrqk").length = 7 := by decide +kernel
    walk_at "M go"
    have hall : ∀ p ∈ news ++ own, p.1 ≠ h'.objs.size := fun p hp => by
      rcases List.mem_append.mp hp with hp | hp
      · exact (show ∀ p ∈ news, p.1 ≠ h'.objs.size by assumption) p hp
      · exact hoff p hp _ (.head _)
    refine setItem_K PyProof.V.same_int (intKind_is _ _ _ _) (PyProof.V.Flat.str _ _) F1 N1 (.head hall) hd1 hf1 (fun h2 o2 F2 N2 hd2 hf2 => ?_) (by rw [sizeLine_eq]; omega)
    clear F1 N1 hd1 hf1
    walk_at "M go"
    rename Obj.IsDictOf _ _ _ => hd3
    rename Obj.IsDictOf _ o2 _ => hq3
    clear hq3 hf2
    rename PyProof.V.FlatPairs _ _ _ => hf3
    rw [white6 ⟨i, hi⟩, black6 ⟨i, hi⟩] at hf3 hd3
    dsimp only at hf3 hd3
    have hk3 := lookP_succ (i := (i : Int)) ⟨by omega, by omega⟩ hk1
    have hl3 : (PyProof.V.putD (.int (8 + (1 + (i : Int)))) (.str (letterS (8 + (1 + (i : Int))))) (PyProof.V.putD (.int (1 + (i : Int))) (.str (letterS (1 + (i : Int)))) D1)).length ≤ 1 + 2 * (i + 1) := by
      rw [PyProof.Rows.length_putD, PyProof.Rows.length_putD]
      split <;> split <;> omega
    clear hk1 hl1
    generalize PyProof.V.putD (.int (8 + (1 + (i : Int)))) (.str (letterS (8 + (1 + (i : Int))))) (PyProof.V.putD (.int (1 + (i : Int))) (.str (letterS (1 + (i : Int)))) D1) = D3 at hf3 hk3 hl3
    generalize stored (stored kv1 _ _) _ _ = kv3 at hd3 hf3
    (refine go_on ?_; refine' m_rangeK1 (fun d (_ : Unit) => [("kind", .int (1 + (i : Int)) t0), ("table", .ref d), ("n", .int n t)]) (fun _ _ => True) () 2 rfl (by assumption) ?hsmallu188 ?hnu188 (by assumption) (by assumption) ?hku188 ?_ ?_ ?_; (case hku188 => walk_at "M all"); (case hsmallu188 => first | exact small_one (by omega) (by omega) (by omega) (by omega) | exact small_down (by omega) (by omega) (by omega) (by omega)); (case hnu188 => first | exact (rangeSize_nat _ _).trans (by omega) | exact (rangeSize_downNat _ _).trans (by omega) | decide))
    · trivial
    · rintro j ⟨⟩ t6 u2 h2 tk2 own2 hj hoff2 - F2 N2
      rw [show (0 : Int) + (j : Int) * 1 = (j : Int) by omega] at F2
      walk_at "M go"
      (refine go_on ?_; k_dflt (refine' Cl.useI (cl_make_piece (j : Int) (1 + (i : Int)) _ _) ?k1u189 ?k2u189 ?k3u189 ?k4u189 ?k5u189 ?kAu189 ?kFu189 ?kEu189 ?kKu189 ?kpu189 ?kdu189 ?kuu189 ?_; ( (case k1u189 => first | k_asm | fail "the frames below"); (case k2u189 => first | k_asm | fail "the frame"); (case k3u189 => first | k_asm | fail "the written part"); (case k4u189 => first | k_asm | fail "the ledger"); (case k5u189 => first | k_asm | fail "the top's facts"); (case kAu189 => first | exact rfl | fail "the raised"); (case kFu189 => first | exact rfl | fail "the frames"); (case kEu189 => first | exact rfl | fail "the caller's frame"); (case kKu189 => first | exact rfl | assumption | fail "the caller is no def"); (case kpu189 => first | exact trivial | is_list | fail "the premise"); (case kdu189 => first | ktr_room | fail "the frames' room"); (case kuu189 => first | ktr_units | fail "the C units"))); intro t9x h9x tk9x F9x N9x; (try dsimp only); walk_at "M on")
      · exfalso; omega
      (refine go_on ?_; k_dflt (refine' Cl.useI (cl_side_of _ _) ?k1u190 ?k2u190 ?k3u190 ?k4u190 ?k5u190 ?kAu190 ?kFu190 ?kEu190 ?kKu190 ?kpu190 ?kdu190 ?kuu190 ?_; ( (case k1u190 => first | k_asm | fail "the frames below"); (case k2u190 => first | k_asm | fail "the frame"); (case k3u190 => first | k_asm | fail "the written part"); (case k4u190 => first | k_asm | fail "the ledger"); (case k5u190 => first | k_asm | fail "the top's facts"); (case kAu190 => first | exact rfl | fail "the raised"); (case kFu190 => first | exact rfl | fail "the frames"); (case kEu190 => first | exact rfl | fail "the caller's frame"); (case kKu190 => first | exact rfl | assumption | fail "the caller is no def"); (case kpu190 => first | exact trivial | is_list | fail "the premise"); (case kdu190 => first | ktr_room | fail "the frames' room"); (case kuu190 => first | ktr_units | fail "the C units"))); intro t9x h9x tk9x F9x N9x; (try dsimp only); walk_at "M on")
      · exfalso; omega
      (refine go_on ?_; k_dflt (refine' Cl.useI (cl_kind_of _ _) ?k1u191 ?k2u191 ?k3u191 ?k4u191 ?k5u191 ?kAu191 ?kFu191 ?kEu191 ?kKu191 ?kpu191 ?kdu191 ?kuu191 ?_; ( (case k1u191 => first | k_asm | fail "the frames below"); (case k2u191 => first | k_asm | fail "the frame"); (case k3u191 => first | k_asm | fail "the written part"); (case k4u191 => first | k_asm | fail "the ledger"); (case k5u191 => first | k_asm | fail "the top's facts"); (case kAu191 => first | exact rfl | fail "the raised"); (case kFu191 => first | exact rfl | fail "the frames"); (case kEu191 => first | exact rfl | fail "the caller's frame"); (case kKu191 => first | exact rfl | assumption | fail "the caller is no def"); (case kpu191 => first | exact trivial | is_list | fail "the premise"); (case kdu191 => first | ktr_room | fail "the frames' room"); (case kuu191 => first | ktr_units | fail "the C units"))); intro t9x h9x tk9x F9x N9x; (try dsimp only); walk_at "M on")
      · exfalso; omega
      have hit := hk3 ((j : Int) * 8 + (1 + (i : Int)))
      rw [if_pos (by omega)] at hit
      refine getItem_tab PyProof.V.same_int (intKind_is _ _ _ _) (TabAt.ofNews (by assumption) (.head _) (by assumption) hd3 hf3) hit fun v4 hv4 => ?_
      obtain ⟨t4, rfl⟩ := hv4.str_inv
      walk_at "M go"
      (refine go_on ?_; k_dflt (refine' Cl.useI (cl_piece_of _ (by show 1 ≤ 100; decide) _) ?k1u192 ?k2u192 ?k3u192 ?k4u192 ?k5u192 ?kAu192 ?kFu192 ?kEu192 ?kKu192 ?kpu192 ?kdu192 ?kuu192 ?_; ( (case k1u192 => first | k_asm | fail "the frames below"); (case k2u192 => first | k_asm | fail "the frame"); (case k3u192 => first | k_asm | fail "the written part"); (case k4u192 => first | k_asm | fail "the ledger"); (case k5u192 => first | k_asm | fail "the top's facts"); (case kAu192 => first | exact rfl | fail "the raised"); (case kFu192 => first | exact rfl | fail "the frames"); (case kEu192 => first | exact rfl | fail "the caller's frame"); (case kKu192 => first | exact rfl | assumption | fail "the caller is no def"); (case kpu192 => first | exact trivial | is_list | fail "the premise"); (case kdu192 => first | ktr_room | fail "the frames' room"); (case kuu192 => first | ktr_units | fail "the C units"))); intro t9x h9x tk9x F9x N9x; (try dsimp only); walk_at "M on")
      · exact absurd (pieceI8 ⟨j, hj⟩ ⟨i, hi⟩) (by assumption)
      (refine go_on ?_; (rename News _ _ _ _ => nEx); (try simp only [List.push_toArray] at nEx); refine' f_end () (by assumption) nEx ?hnu193 ?hau193 ?hku193 ?_; (case hku193 => walk_at "M all"); (case hnu193 => first | exact fun p hp => hp | k_sub | skip); (case hau193 => first | exact rfl | skip))
      trivial
    · rintro ⟨⟩ u2 h2 tk2 - F2 N2
      walk_at "M go"
      (refine go_on ?_; (rename News _ _ _ _ => nEx); (try simp only [List.push_toArray] at nEx); refine' f_end (_, D3) (by assumption) nEx ?hnu194 ?hau194 ?hku194 ?_; (case hku194 => walk_at "M all"); (case hnu194 => first | exact fun p hp => hp | k_sub | skip); (case hau194 => first | exact rfl | skip))
      exact ⟨⟨_, hd3, hf3⟩, hl3, hk3⟩
  · rintro ⟨o1, D1⟩ u1 h1 tk1 ⟨⟨kv1, hd1, hf1⟩, hl1, hk1⟩ F1 N1
    dsimp only at hd1 hf1 hl1 hk1 F1 N1
    clear hd0 hf0
    walk_at "M go"
    refine go_on ?_
    refine For_invV (hideAll g' ((envX cn cs L aF ccd [] :: outer).filterMap (·.frame))) rfl rfl ?_
    walk_at "M go"
    refine go_on ?_
    refine m_rangeX (fun d => [("table", .ref d), ("n", .int n t)]) 21 rfl (by assumption) (small_one (by omega) (by omega) (by omega) (by omega)) (by decide) (by assumption) (by assumption) ?hk B' XB TB D' ?turn ?done
    case hk => walk_at "M all"
    case turn =>
      intro i t0 u2 h2 tk2 own gg hi T2 B2 X2 P2 D2 F2 N2
      clear B' X' T' D'
      obtain ⟨p, hp⟩ : ∃ p, (-3 : Int) + (i : Int) * 1 = p := ⟨_, rfl⟩
      rw [hp] at F2
      walk_at "M go"
      by_cases hg : 0 ≤ p ∧ p < 15 ∧ p ≠ 7 ∧ p ≠ 8
      · (refine go_on ?_; k_dflt (refine' ClX.use (clx_letter_good p hg _) ?k1u195 ?k2u195 ?k3u195 ?k4u195 ?k5u195 ?k6u195 ?k7u195 ?k8u195 ?k9u195 ?k10u195 ?k11u195 ?k12u195 ?_); (case k1u195 => assumption); (case k2u195 => k_asm); (case k3u195 => assumption); (case k4u195 => k_asm); (case k5u195 => assumption); (case k6u195 => assumption); (case k7u195 => assumption); (case k8u195 => assumption); (case k9u195 => first | assumption | exact KtsTurn.refl); (case k10u195 => exact rfl); (case k11u195 => ktr_room); (case k12u195 => ktr_units))
        rintro v9 h9 tk9 g9 T9 F9 N9 B9 X9 P9 D9 ⟨t9, rfl⟩
        clear T2 B2 X2 P2 D2 F2 N2
        walk_at "M go"
        (rename PyProof.V.Flat _ _ => hv)
        rw [hk1 p, if_pos (by omega)] at hv
        obtain ⟨t4, rfl⟩ := PyProof.V.Flat.str_inv hv
        walk_at "M go"
        · exfalso
          rename (_ != _) = true => hq
          rw [bne_self_eq_false] at hq
          cases hq
        · refine go_on ?_
          refine x_end T9 (by assumption) (by assumption) (fun p hp => hp) ?_
          walk_at "M all"
      · (refine go_on ?_; k_dflt (refine' ClX.use (clx_letter_bad p (by omega) (by omega) _) ?k1u196 ?k2u196 ?k3u196 ?k4u196 ?k5u196 ?k6u196 ?k7u196 ?k8u196 ?k9u196 ?k10u196 ?k11u196 ?k12u196 ?_); (case k1u196 => assumption); (case k2u196 => k_asm); (case k3u196 => assumption); (case k4u196 => k_asm); (case k5u196 => assumption); (case k6u196 => assumption); (case k7u196 => assumption); (case k8u196 => assumption); (case k9u196 => first | assumption | exact KtsTurn.refl); (case k10u196 => exact rfl); (case k11u196 => ktr_room); (case k12u196 => ktr_units))
        rintro v9 h9 tk9 g9 T9 F9 N9 B9 X9 P9 D9 ⟨t9, rfl⟩
        clear T2 B2 X2 P2 D2 F2 N2
        walk_at "M go"
        (rename PyProof.V.Flat _ _ => hv)
        rw [hk1 p, if_neg (by omega)] at hv
        obtain ⟨t4, rfl⟩ := PyProof.V.Flat.int_inv hv
        walk_at "M go"
        · exact absurd rfl (by assumption)
        · refine go_on ?_
          refine x_end T9 (by assumption) (by assumption) (fun p hp => hp) ?_
          walk_at "M all"
    case done =>
      intro u2 h2 tk2 gg T2 B2 X2 P2 D2 F2 N2
      clear B' X' T' D'
      walk_at "M go"
      refine go_on ?_
      refine m_listW (fun d => [("table", .ref d), ("n", .int n t)]) rfl (by assumption) (by assumption) ?hk ?hne ?turn ?done
      case hk => walk_at "M all"
      case hne =>
        rename _ ∧ AllLt _ _ => hAL
        intro p hp
        rcases List.mem_cons.mp hp with rfl | hp
        · exact Nat.ne_of_lt hAL.1
        · exact Nat.ne_of_lt (tb_ltOf hAL.2 p hp)
      case turn =>
        intro i v u3 h3 tk3 own hv F3 N3
        obtain ⟨tx, tt, rfl, htx, hpx⟩ := six_texts hv
        walk_at "M go"
        (refine go_on ?_; k_dflt (refine' Cl.useI (cl_piece_of tx htx _) ?k1u197 ?k2u197 ?k3u197 ?k4u197 ?k5u197 ?kAu197 ?kFu197 ?kEu197 ?kKu197 ?kpu197 ?kdu197 ?kuu197 ?_; ( (case k1u197 => first | k_asm | fail "the frames below"); (case k2u197 => first | k_asm | fail "the frame"); (case k3u197 => first | k_asm | fail "the written part"); (case k4u197 => first | k_asm | fail "the ledger"); (case k5u197 => first | k_asm | fail "the top's facts"); (case kAu197 => first | exact rfl | fail "the raised"); (case kFu197 => first | exact rfl | fail "the frames"); (case kEu197 => first | exact rfl | fail "the caller's frame"); (case kKu197 => first | exact rfl | assumption | fail "the caller is no def"); (case kpu197 => first | exact trivial | is_list | fail "the premise"); (case kdu197 => first | ktr_room | fail "the frames' room"); (case kuu197 => first | ktr_units | fail "the C units"))); intro t9x h9x tk9x F9x N9x; (try dsimp only); walk_at "M on")
        · exact absurd hpx (by assumption)
        (refine go_on ?_; (rename News _ _ _ _ => nEx); (try simp only [List.push_toArray] at nEx); refine' f_end () (by assumption) nEx ?hnu198 ?hau198 ?hku198 ?_; (case hku198 => walk_at "M all"); (case hnu198 => first | exact fun p hp => hp | k_sub | skip); (case hau198 => first | exact rfl | skip))
        trivial
      case done =>
        intro u3 h3 tk3 F3 N3
        walk_at "M go"
        by_cases hg : 0 ≤ n ∧ n < 15 ∧ n ≠ 7 ∧ n ≠ 8
        · (refine go_on ?_; k_dflt (refine' ClX.use (clx_letter_good n hg _) ?k1u199 ?k2u199 ?k3u199 ?k4u199 ?k5u199 ?k6u199 ?k7u199 ?k8u199 ?k9u199 ?k10u199 ?k11u199 ?k12u199 ?_); (case k1u199 => assumption); (case k2u199 => k_asm); (case k3u199 => assumption); (case k4u199 => k_asm); (case k5u199 => assumption); (case k6u199 => assumption); (case k7u199 => assumption); (case k8u199 => assumption); (case k9u199 => first | assumption | exact KtsTurn.refl); (case k10u199 => exact rfl); (case k11u199 => ktr_room); (case k12u199 => ktr_units))
          rintro v9 h9 tk9 g9 T9 F9 N9 B9 X9 P9 D9 ⟨t9, rfl⟩
          clear T2 B2 X2 P2 D2 F3 N3
          walk_at "M go"
          (rename PyProof.V.Flat _ _ => hv)
          rw [hk1 n, if_pos (by omega)] at hv
          obtain ⟨t4, rfl⟩ := PyProof.V.Flat.str_inv hv
          walk_at "M go"
          (rename KtsTurn _ g₀ _ => kT9)
          refine ret _ _ _ _ kT9 (by assumption) ?_ (by assumption) (by assumption) (by assumption) (by assumption) ?_
          · exact news_tail (by assumption)
          · rw [beq_self_eq_true]
        · (refine go_on ?_; k_dflt (refine' ClX.use (clx_letter_bad n (by omega) (by omega) _) ?k1u200 ?k2u200 ?k3u200 ?k4u200 ?k5u200 ?k6u200 ?k7u200 ?k8u200 ?k9u200 ?k10u200 ?k11u200 ?k12u200 ?_); (case k1u200 => assumption); (case k2u200 => k_asm); (case k3u200 => assumption); (case k4u200 => k_asm); (case k5u200 => assumption); (case k6u200 => assumption); (case k7u200 => assumption); (case k8u200 => assumption); (case k9u200 => first | assumption | exact KtsTurn.refl); (case k10u200 => exact rfl); (case k11u200 => ktr_room); (case k12u200 => ktr_units))
          rintro v9 h9 tk9 g9 T9 F9 N9 B9 X9 P9 D9 ⟨t9, rfl⟩
          clear T2 B2 X2 P2 D2 F3 N3
          walk_at "M go"
          (rename PyProof.V.Flat _ _ => hv)
          rw [hk1 n, if_neg (by omega)] at hv
          obtain ⟨t4, rfl⟩ := PyProof.V.Flat.int_inv hv
          walk_at "M go"
          (rename KtsTurn _ g₀ _ => kT9)
          refine ret _ _ _ _ kT9 (by assumption) ?_ (by assumption) (by assumption) (by assumption) (by assumption) ?_
          · exact news_tail (by assumption)
          · rw [beq_self_eq_true]

example : True := by
  w_top off
  exact True.intro
example : True := by
  k_with "exec If" => (k_here; refine stop_here ?_)
  k_with "call ref" => (k_here; first | (k_dflt (refine' Cl.useI (cl_pack _ _ _ _ _ _ _ _ (by omega) (by omega) (by omega) (by intro _; omega)) ?k1u212 ?k2u212 ?k3u212 ?k4u212 ?k5u212 ?kAu212 ?kFu212 ?kEu212 ?kKu212 ?kpu212 ?kdu212 ?kuu212 ?_; ( (case k1u212 => first | k_asm | fail "the frames below"); (case k2u212 => first | k_asm | fail "the frame"); (case k3u212 => first | k_asm | fail "the written part"); (case k4u212 => first | k_asm | fail "the ledger"); (case k5u212 => first | k_asm | fail "the top's facts"); (case kAu212 => first | exact rfl | fail "the raised"); (case kFu212 => first | exact rfl | fail "the frames"); (case kEu212 => first | exact rfl | fail "the caller's frame"); (case kKu212 => first | exact rfl | assumption | fail "the caller is no def"); (case kpu212 => first | exact trivial | is_list | fail "the premise"); (case kdu212 => first | ktr_room | fail "the frames' room"); (case kuu212 => first | ktr_units | fail "the C units"))); intro t9x h9x tk9x F9x N9x; (try dsimp only)) | (k_dflt (refine' Cl.useB (cl_is_move _ _) ?k1u213 ?k2u213 ?k3u213 ?k4u213 ?k5u213 ?kAu213 ?kFu213 ?kEu213 ?kKu213 ?kpu213 ?kdu213 ?kuu213 ?_; ( (case k1u213 => first | k_asm | fail "the frames below"); (case k2u213 => first | k_asm | fail "the frame"); (case k3u213 => first | k_asm | fail "the written part"); (case k4u213 => first | k_asm | fail "the ledger"); (case k5u213 => first | k_asm | fail "the top's facts"); (case kAu213 => first | exact rfl | fail "the raised"); (case kFu213 => first | exact rfl | fail "the frames"); (case kEu213 => first | exact rfl | fail "the caller's frame"); (case kKu213 => first | exact rfl | assumption | fail "the caller is no def"); (case kpu213 => first | exact trivial | is_list | fail "the premise"); (case kdu213 => first | ktr_room | fail "the frames' room"); (case kuu213 => first | ktr_units | fail "the C units"))); intro h9x tk9x F9x N9x; (try dsimp only)) | (k_dflt (refine' Cl.useL (cl_parts _ _) ?k1u214 ?k2u214 ?k3u214 ?k4u214 ?k5u214 ?kAu214 ?kFu214 ?kEu214 ?kKu214 ?kpu214 ?kdu214 ?kuu214 ?_; ( (case k1u214 => first | k_asm | fail "the frames below"); (case k2u214 => first | k_asm | fail "the frame"); (case k3u214 => first | k_asm | fail "the written part"); (case k4u214 => first | k_asm | fail "the ledger"); (case k5u214 => first | k_asm | fail "the top's facts"); (case kAu214 => first | exact rfl | fail "the raised"); (case kFu214 => first | exact rfl | fail "the frames"); (case kEu214 => first | exact rfl | fail "the caller's frame"); (case kKu214 => first | exact rfl | assumption | fail "the caller is no def"); (case kpu214 => first | exact trivial | is_list | fail "the premise"); (case kdu214 => first | ktr_room | fail "the frames' room"); (case kuu214 => first | ktr_units | fail "the C units"))); intro l9x vs9x n9x h9x tk9x I9x F9x N9x O9x; (try dsimp only)) | refine stop_here ?_)
  exact True.intro
theorem fr_kst {g h : Heap} {L : Addr} {m : Str → Option Value} {ps : List (Str × Value)} (F : Fr g L h m) (hk : ∀ p ∈ ps, m p.1 = some p.2) : Fr g L h (kstB m ps) := by rw [kstB_same hk]; exact F
theorem fd64 (y : Int) : y.fdiv 64 = y / 64 := Int.fdiv_eq_ediv_of_nonneg _ (by decide)
theorem fd16384 (y : Int) : y.fdiv 16384 = y / 16384 := Int.fdiv_eq_ediv_of_nonneg _ (by decide)
theorem fd4096 (y : Int) : y.fdiv 4096 = y / 4096 := Int.fdiv_eq_ediv_of_nonneg _ (by decide)
theorem fm64 (y : Int) : y.fmod 64 = y % 64 := Int.fmod_eq_emod_of_nonneg _ (by decide)
theorem fm4 (y : Int) : y.fmod 4 = y % 4 := Int.fmod_eq_emod_of_nonneg _ (by decide)
theorem move_told (y : Int) (c : Bool) (h : (isMove y != c) = true) (e : (0 < y ∧ y < 65536 ∧ y / 64 % 64 ≠ y % 64 ∧ (y / 16384 % 4 = 1 ∨ y / 4096 % 4 = 0)) ↔ c = true) : False := by
  rw [bne_iff_ne] at h
  apply h
  rw [Bool.eq_iff_iff]
  simp only [isMove, decide_eq_true_eq]
  exact e
theorem move_sum (y : Int) (h0 : 0 < y) (h1 : y < 65536) (h2 : y / 16384 ≠ 1 → y / 4096 % 4 = 0)
    (h : (y % 64 + 64 * (y / 64 % 64) + 4096 * if y / 16384 % 4 = 1 then (if y / 16384 % 4 = 1 then y / 4096 % 4 + 2 else 0) - 2 else 0) + 16384 * (y / 16384 % 4) ≠ y) : False := by
  by_cases hz : y / 16384 % 4 = 1
  · simp only [if_pos hz] at h; omega
  · simp only [if_neg hz] at h; omega
set_option maxHeartbeats 4000000 in
theorem cl_lawmove {w : World} {mean : ExcName → Option Value} {mg mb : Str → Option Value} (n size : Int) (hs : 0 < size ∧ size ≤ 64) (t1 t2 : Tok) :
    Cl w mean mg mb 325 12 [.int n t1, .int size t2] PTrue (RBool true) := by
  obtain ⟨hs0, hs1⟩ := hs
  have ho0 := fmod_lo n hs0
  have ho1 := fmod_hi n hs0
  have hg0 := fmod_lo (n.fdiv size) hs0
  have hg1 := fmod_hi (n.fdiv size) hs0
  have hp0 := fmod_lo (n.fdiv 64) (n := 4) (by decide)
  have hp1 := fmod_hi (n.fdiv 64) (n := 4) (by decide)
  have hr0 := fmod_lo (n.fdiv 256) (n := 4) (by decide)
  have hr1 := fmod_hi (n.fdiv 256) (n := 4) (by decide)
  ( k_dflt (refine' Cl.enter (binds := [("n", .int n t1), ("size", .int size t2)]) ?k6u204 ?k7u204 ?k9u204 ?kBu204 ?kDu204 ?c2u204 ?c3u204 ?c4u204 ?c5u204 ?khu204; (case k6u204 => k_is); (case k7u204 => k_is); (case k9u204 => exact rfl); (case kBu204 => exact locs rfl); (case kDu204 => decide); (case c2u204 => exact rfl); (case c3u204 => exact rfl); (case c4u204 => exact rfl); (case c5u204 => decide); k_whole))
  intro outer R A₀ base g L h₁ tk₁ gs dr os Q E B F' N' X T hpre hd hu hP ret
  try dsimp only at hpre F'
  walk_at "M go"
  refine go_on ?_
  k_with "exec If" => (k_here; refine wpAny_If ?_)
  have key : ∀ (pr pk : Int) (ta tb tc td te : Tok) (u : Str → Option Value) (h1 : Heap) (tk1 : Nat), pk = (n.fdiv size).fmod size + 64 * n.fmod size + 4096 * (if (n.fdiv 64).fmod 4 = 1 then pr - 2 else 0) + 16384 * (n.fdiv 64).fmod 4 →
      ((n.fdiv 64).fmod 4 = 1 → 2 ≤ pr ∧ pr < 6) → ((n.fdiv 64).fmod 4 ≠ 1 → pr = 0) →
      Fr g L h1 (kstB u [("packed", .int pk ta), ("promo", .int pr tb), ("special", .int ((n.fdiv 64).fmod 4) tc), ("goal", .int ((n.fdiv size).fmod size) td), ("origin", .int (n.fmod size) te), ("n", .int n t1), ("size", .int size t2)]) → News g L h1 [] → qkx .next ⟨h1, gs, dr, tk1, os⟩ := by
    intro pr pk ta tb tc td te u h1 tk1 hpk kp1 kp2 F1 N1
    walk_at "M go"
    all_goals first
      | (exfalso
         rename ¬ [_, _, _, _] = _ => hq
         apply hq
         by_cases hz : (n.fdiv 64).fmod 4 = 1
         · have hp3 := kp1 hz
           rw [if_pos hz] at hpk
           simp only [List.cons.injEq, and_true]
           refine ⟨by omega, by omega, by omega, ?_⟩
           split <;> omega
         · have hp3 := kp2 hz
           rw [if_neg hz] at hpk
           simp only [List.cons.injEq, and_true]
           refine ⟨by omega, by omega, by omega, ?_⟩
           split <;> omega)
      | (exfalso
         rename _ ≠ pk => hq
         exact hq hpk.symm)
      | skip
    clear hpk kp1 kp2 ho0 ho1 hg0 hg1 hp0 hp1 hr0 hr1
    (refine go_on ?_; refine' m_listV [] rfl (by assumption) (by assumption) ?hku205 ?_ ?_; (case hku205 => walk_at "M all"))
    rotate_left 1
    · rintro u1 h1 tk1 F1 N1
      walk_at "M go"
      refine ret _ _ _ (by assumption) (by assumption) (rbool_of ?_)
      rfl
    all_goals
      rintro i v u1 h1 tk1 own hv F1 N1
      rw [List.getElem?_toArray] at hv
      obtain ⟨y, ty, rfl, -⟩ := IntsAre.at (by l_ints) i v hv
      clear hv
      (repeat ((rename @Eq (List Int) _ _ => hz); clear hz))
      (repeat ((rename @Eq Int _ _ => hz); clear hz))
      (repeat ((rename (_ : Int) ≠ _ => hz); clear hz))
      (repeat ((rename IntsAre _ _ => hz); clear hz))
      walk_at "M less"
      walk_at "M go"
      all_goals first
        | ((refine go_on ?_; (rename News _ _ _ _ => nEx); (try simp only [List.push_toArray] at nEx); refine' f_end () (by assumption) nEx ?hnu206 ?hau206 ?hku206 ?_; (case hku206 => walk_at "M all"); (case hnu206 => first | exact fun p hp => hp | k_sub | skip); (case hau206 => first | exact rfl | skip)); exact trivial)
        | (exfalso; rename (isMove y != _) = true => hq; exact move_told _ _ hq (by (try simp only [bne_iff_ne, Bool.false_eq_true, iff_false, decide_eq_true_eq]); simp only [fd64, fd16384, fd4096, fm64, fm4] at *; omega))
        | (exfalso; omega)
        | (refine go_on ?_; k_dflt (refine' Cl.useI (cl_pack (y / 64 % 64) (y % 64) (y / 16384 % 4) (if y / 16384 % 4 = 1 then y / 4096 % 4 + 2 else 0) _ _ _ _ (by omega) (by omega) (by omega) (by intro h; rw [if_pos h]; omega)) ?k1u207 ?k2u207 ?k3u207 ?k4u207 ?k5u207 ?kAu207 ?kFu207 ?kEu207 ?kKu207 ?kpu207 ?kdu207 ?kuu207 ?_; ( (case k1u207 => first | k_asm | fail "the frames below"); (case k2u207 => first | k_asm | fail "the frame"); (case k3u207 => first | k_asm | fail "the written part"); (case k4u207 => first | k_asm | fail "the ledger"); (case k5u207 => first | k_asm | fail "the top's facts"); (case kAu207 => first | exact rfl | fail "the raised"); (case kFu207 => first | exact rfl | fail "the frames"); (case kEu207 => first | exact rfl | fail "the caller's frame"); (case kKu207 => first | exact rfl | assumption | fail "the caller is no def"); (case kpu207 => first | exact trivial | is_list | fail "the premise"); (case kdu207 => first | ktr_room | fail "the frames' room"); (case kuu207 => first | ktr_units | fail "the C units"))); intro t9x h9x tk9x F9x N9x; (try dsimp only); walk_at "M on")
        | fail
      all_goals first
        | ((refine go_on ?_; (rename News _ _ _ _ => nEx); (try simp only [List.push_toArray] at nEx); refine' f_end () (by assumption) nEx ?hnu208 ?hau208 ?hku208 ?_; (case hku208 => walk_at "M all"); (case hnu208 => first | exact fun p hp => hp | k_sub | skip); (case hau208 => first | exact rfl | skip)); exact trivial)
        | (exfalso; rename _ + _ ≠ y => hq; exact move_sum y (by omega) (by omega) (by simp only [fd64, fd16384, fd4096, fm64, fm4] at *; omega) hq)
        | ((refine go_on ?_; (rename News _ _ _ _ => nEx); (try simp only [List.push_toArray] at nEx); refine' f_end () (by assumption) nEx ?hnu209 ?hau209 ?hku209 ?_; (case hku209 => walk_at "M all"); (case hnu209 => first | exact fun p hp => hp | k_sub | skip); (case hau209 => first | exact rfl | skip)))
  clear_value qkx
  refine wpAny_If ?_
  walk_at "M on"
  · rename (n.fdiv 64).fmod 4 = 1 => hz
    refine' key (2 + (n.fdiv 256).fmod 4) _ _ _ _ _ _ _ _ _ ?eA (fun _ => by omega) (fun hn => absurd hz hn) (fr_kst (by assumption) ?mA) (by assumption)
    case mA => walk_at "M all"
    case eA => rw [if_pos hz]; omega
  · rename (n.fdiv 64).fmod 4 ≠ 1 => hz
    refine' key 0 _ _ _ _ _ _ _ _ _ ?eB (fun hy => absurd hy hz) (fun _ => rfl) (fr_kst (by assumption) ?mB) (by assumption)
    case mB => walk_at "M all"
    case eB => rw [if_neg hz]; omega
example : True := by
  k_with "call ref" => (k_here; refine stop_here ?_)
  exact True.intro

example : True := by
  w_top off
  exact True.intro
example : True := by
  k_with "pyIter ref" => (k_here; refine stop_here ?_)
  exact True.intro
theorem take_ints {vs : List Value} {xs : List Int} (I : IntsAre vs (List.take 8 xs)) : ∃ ns, IntsAre vs ns ∧ ns.length ≤ 8 := ⟨_, I, by rw [List.length_take]; omega⟩
theorem below_top {p : Program} {l : List Str} {mean : ExcName → Option Value} {mg mb : Str → Option Value} {h : Heap} (T : Top p l mean mg mb h) : Below callerA h [] h := below_caller (Top.heap T)
theorem files_of (z : Int) : ∃ n : Nat, 2 + z.fmod 7 = (n : Int) ∧ Hid (2 ≤ n ∧ n ≤ 8) := by
  have h0 := fmod_lo z (n := 7) (by decide)
  have h1 := fmod_hi z (n := 7) (by decide)
  exact ⟨(2 + z.fmod 7).toNat, by omega, (by omega : 2 ≤ (2 + z.fmod 7).toNat ∧ (2 + z.fmod 7).toNat ≤ 8)⟩
theorem ranks_of (z : Int) : ∃ n : Nat, 3 + z.fmod 6 = (n : Int) ∧ Hid (3 ≤ n ∧ n ≤ 8) := by
  have h0 := fmod_lo z (n := 6) (by decide)
  have h1 := fmod_hi z (n := 6) (by decide)
  exact ⟨(3 + z.fmod 6).toNat, by omega, (by omega : 3 ≤ (3 + z.fmod 6).toNat ∧ (3 + z.fmod 6).toNat ≤ 8)⟩
theorem two_steps (L : Nat) (h : L ≤ 8) : Builtin.Range.small 0 ((L : Int) + 1) 2 = true ∧ Builtin.Range.rangeSize 0 ((L : Int) + 1) 2 = (((L + 2) / 2 : Nat) : Int) := by
  have : ∀ k : Fin 9, Builtin.Range.small 0 (((k.val : Nat) : Int) + 1) 2 = true ∧ Builtin.Range.rangeSize 0 (((k.val : Nat) : Int) + 1) 2 = (((k.val + 2) / 2 : Nat) : Int) := by decide
  exact this ⟨L, by omega⟩
theorem size_of {files ranks : Nat} (hf : Hid (2 ≤ files ∧ files ≤ 8)) (hr : Hid (3 ≤ ranks ∧ ranks ≤ 8)) : ∃ n : Nat, (files : Int) * (ranks : Int) = (n : Int) ∧ n = files * ranks ∧ 0 < n ∧ n ≤ 64 :=
  ⟨files * ranks, by rw [Int.natCast_mul], rfl, Nat.mul_pos (Nat.lt_of_lt_of_le (by decide) hf.1) (Nat.lt_of_lt_of_le (by decide) hr.1), Nat.mul_le_mul hf.2 hr.2⟩
theorem mod_pow (z : Int) (size : Nat) : ∃ b : Nat, z.fmod (2 ^ ((size : Int)).toNat) = (b : Int) ∧ Hid (b < 2 ^ size) := by
  rw [Int.toNat_natCast]
  have hp : (0 : Int) < 2 ^ size := Int.pow_pos (by decide)
  have h0 := fmod_lo z hp
  have h1 := fmod_hi z hp
  refine ⟨(z.fmod (2 ^ size)).toNat, (Int.toNat_of_nonneg h0).symm, ?_⟩
  show (z.fmod (2 ^ size)).toNat < 2 ^ size
  have : (((2 ^ size : Nat)) : Int) = (2 : Int) ^ size := by rw [Int.natCast_pow]; rfl
  omega
theorem cl_getx {w : World} {mean : ExcName → Option Value} {mg mb : Str → Option Value} (l : Addr) (vs : List Value) (ns : List Int) (I : IntsAre vs ns) (x : Int) (i : Nat) (e : x = i) (hl : ns.length ≤ 63) (hi : i ≤ 100) (t : Tok) : Cl w mean mg mb 261 1 [.ref l, .int x t] (fun h => h.IsList l vs.toArray) (RInt (ns.getD i (37 * i + 11))) := by
  subst e; exact cl_get l vs ns I i hl hi t
theorem turn_fr {g₀ g h : Heap} {L : Addr} {m : Str → Option Value} (T : KtsTurn [] g₀ g) (F : Fr g L h m) : Fr g₀ L h m :=
  ⟨F.ns, fun b o e => F.keep b o (T.other b o e List.not_mem_nil), by rw [← T.size]; exact F.above⟩
theorem turn_news {g₀ g h : Heap} {L : Addr} {l : List (Addr × Obj)} (T : KtsTurn [] g₀ g) (N : News g L h l) : News g₀ L h l := fun p hp => by
  obtain ⟨a, b, c⟩ := N p hp
  refine ⟨a, b, ?_⟩
  cases q : g₀.get? p.1 with
  | none => rfl
  | some o => rw [T.other _ _ q List.not_mem_nil] at c; cases c
theorem turn_both {g₀ g h : Heap} {L : Addr} {m : Str → Option Value} {l : List (Addr × Obj)} (T : KtsTurn [] g₀ g) (F : Fr g L h m) (N : News g L h l) : Fr g₀ L h m ∧ News g₀ L h l := ⟨turn_fr T F, turn_news T N⟩
set_option maxHeartbeats 4000000 in
theorem law_x : PySem.Challenge.rw_nt0423_01.Holds := hd ⟨left0, by
  k_go0
  all_goals (try k_fold)
  rename Below _ _ _ _ => K0
  rename Top _ _ _ _ _ _ => T0
  have K1 := below_top T0
  clear K0
  walk_at "M go"
  rename IntsAre _ (List.take _ _) => I0
  obtain ⟨ns, I, hns⟩ := take_ints I0
  clear I0
  (refine go_on ?_; k_dflt (refine' Cl.useI (cl_get _ _ ns I 0 (by omega) (by omega) _) ?k1u216 ?k2u216 ?k3u216 ?k4u216 ?k5u216 ?kAu216 ?kFu216 ?kEu216 ?kKu216 ?kpu216 ?kdu216 ?kuu216 ?_; ( (case k1u216 => first | k_asm | fail "the frames below"); (case k2u216 => first | k_asm | fail "the frame"); (case k3u216 => first | k_asm | fail "the written part"); (case k4u216 => first | k_asm | fail "the ledger"); (case k5u216 => first | k_asm | fail "the top's facts"); (case kAu216 => first | exact rfl | fail "the raised"); (case kFu216 => first | exact rfl | fail "the frames"); (case kEu216 => first | exact rfl | fail "the caller's frame"); (case kKu216 => first | exact rfl | assumption | fail "the caller is no def"); (case kpu216 => first | exact trivial | is_list | fail "the premise"); (case kdu216 => first | ktr_room | fail "the frames' room"); (case kuu216 => first | ktr_units | fail "the C units"))); intro t9x h9x tk9x F9x N9x; (try dsimp only); walk_at "M on")
  obtain ⟨files, hfE, hf⟩ := files_of (ns.getD 0 (37 * ((0 : Nat) : Int) + 11))
  (rename Fr _ _ _ _ => F1)
  dsimp +zetaDelta only at F1
  rw [hfE] at F1
  clear hfE
  (refine go_on ?_; k_dflt (refine' Cl.useI (cl_get _ _ ns I 1 (by omega) (by omega) _) ?k1u217 ?k2u217 ?k3u217 ?k4u217 ?k5u217 ?kAu217 ?kFu217 ?kEu217 ?kKu217 ?kpu217 ?kdu217 ?kuu217 ?_; ( (case k1u217 => first | k_asm | fail "the frames below"); (case k2u217 => first | k_asm | fail "the frame"); (case k3u217 => first | k_asm | fail "the written part"); (case k4u217 => first | k_asm | fail "the ledger"); (case k5u217 => first | k_asm | fail "the top's facts"); (case kAu217 => first | exact rfl | fail "the raised"); (case kFu217 => first | exact rfl | fail "the frames"); (case kEu217 => first | exact rfl | fail "the caller's frame"); (case kKu217 => first | exact rfl | assumption | fail "the caller is no def"); (case kpu217 => first | exact trivial | is_list | fail "the premise"); (case kdu217 => first | ktr_room | fail "the frames' room"); (case kuu217 => first | ktr_units | fail "the C units"))); intro t9x h9x tk9x F9x N9x; (try dsimp only); walk_at "M on")
  obtain ⟨ranks, hrE, hr⟩ := ranks_of (ns.getD 1 (37 * ((1 : Nat) : Int) + 11))
  obtain ⟨size, hsE, hsz, hs0, hs1⟩ := size_of hf hr
  (rename Fr _ _ _ _ => F1)
  dsimp +zetaDelta only at F1
  rw [hrE, hsE] at F1
  clear hrE hsE
  refine go_on ?_
  refine' m_rangeK1 (fun d (c : Tok × Tok × Tok) => [("size", .int (size : Int) c.1), ("ranks", .int (ranks : Int) c.2.1), ("files", .int (files : Int) c.2.2), ("script", .ref d)]) (fun _ _ => True) (_, _, _) ((ns.length + 2) / 2) rfl (by assumption) (two_steps _ hns).1 (two_steps _ hns).2 (by assumption) (by assumption) ?hk trivial ?turn ?done
  case hk => walk_at "M all"
  case turn =>
    rintro k ⟨ta, tb, tc⟩ t0 u2 h2 tk2 own hi hoff - F2 N2
    dsimp only at F2
    obtain ⟨i, hiE, hi8⟩ : ∃ i : Nat, (0 : Int) + (k : Int) * 2 = (i : Int) ∧ i ≤ 8 := ⟨2 * k, by omega, by omega⟩
    rw [hiE] at F2
    clear hiE
    walk_at "M go"
    (refine go_on ?_; k_dflt (refine' Cl.useI (cl_get _ _ ns I i (by omega) (by omega) _) ?k1u218 ?k2u218 ?k3u218 ?k4u218 ?k5u218 ?kAu218 ?kFu218 ?kEu218 ?kKu218 ?kpu218 ?kdu218 ?kuu218 ?_; ( (case k1u218 => first | k_asm | fail "the frames below"); (case k2u218 => first | k_asm | fail "the frame"); (case k3u218 => first | k_asm | fail "the written part"); (case k4u218 => first | k_asm | fail "the ledger"); (case k5u218 => first | k_asm | fail "the top's facts"); (case kAu218 => first | exact rfl | fail "the raised"); (case kFu218 => first | exact rfl | fail "the frames"); (case kEu218 => first | exact rfl | fail "the caller's frame"); (case kKu218 => first | exact rfl | assumption | fail "the caller is no def"); (case kpu218 => first | exact trivial | is_list | fail "the premise"); (case kdu218 => first | ktr_room | fail "the frames' room"); (case kuu218 => first | ktr_units | fail "the C units"))); intro t9x h9x tk9x F9x N9x; (try dsimp only); walk_at "M on")
    obtain ⟨b, hbE, hb⟩ := mod_pow (ns.getD i (37 * (i : Int) + 11)) size
    (rename Fr _ _ _ _ => F3)
    dsimp +zetaDelta only at F3
    rw [hbE] at F3
    clear hbE
    (refine go_on ?_; k_dflt (refine' Cl.useI (cl_getx _ _ ns I _ (i + 1) (by omega) (by omega) (by omega) _) ?k1u219 ?k2u219 ?k3u219 ?k4u219 ?k5u219 ?kAu219 ?kFu219 ?kEu219 ?kKu219 ?kpu219 ?kdu219 ?kuu219 ?_; ( (case k1u219 => first | k_asm | fail "the frames below"); (case k2u219 => first | k_asm | fail "the frame"); (case k3u219 => first | k_asm | fail "the written part"); (case k4u219 => first | k_asm | fail "the ledger"); (case k5u219 => first | k_asm | fail "the top's facts"); (case kAu219 => first | exact rfl | fail "the raised"); (case kFu219 => first | exact rfl | fail "the frames"); (case kEu219 => first | exact rfl | fail "the caller's frame"); (case kKu219 => first | exact rfl | assumption | fail "the caller is no def"); (case kpu219 => first | exact trivial | is_list | fail "the premise"); (case kdu219 => first | ktr_room | fail "the frames' room"); (case kuu219 => first | ktr_units | fail "the C units"))); intro t9x h9x tk9x F9x N9x; (try dsimp only); walk_at "M on")
    obtain ⟨mk, hmE, hm⟩ := mod_pow (ns.getD (i + 1) (37 * ((i + 1 : Nat) : Int) + 11)) size
    (rename Fr _ _ _ _ => F4)
    dsimp +zetaDelta only at F4
    rw [hmE] at F4
    clear hmE
    (refine go_on ?_; k_dflt (refine' Cl.useL (cl_bits _ b size rfl hs1 _ _) ?k1u220 ?k2u220 ?k3u220 ?k4u220 ?k5u220 ?kAu220 ?kFu220 ?kEu220 ?kKu220 ?kpu220 ?kdu220 ?kuu220 ?_; ( (case k1u220 => first | k_asm | fail "the frames below"); (case k2u220 => first | k_asm | fail "the frame"); (case k3u220 => first | k_asm | fail "the written part"); (case k4u220 => first | k_asm | fail "the ledger"); (case k5u220 => first | k_asm | fail "the top's facts"); (case kAu220 => first | exact rfl | fail "the raised"); (case kFu220 => first | exact rfl | fail "the frames"); (case kEu220 => first | exact rfl | fail "the caller's frame"); (case kKu220 => first | exact rfl | assumption | fail "the caller is no def"); (case kpu220 => first | exact trivial | is_list | fail "the premise"); (case kdu220 => first | ktr_room | fail "the frames' room"); (case kuu220 => first | ktr_units | fail "the C units"))); intro l9x vs9x n9x h9x tk9x I9x F9x N9x O9x; (try dsimp only); walk_at "M on")
    (rename IntsAre _ (bitsL b size) => Ib)
    (refine go_on ?_; k_dflt (refine' Cl.useL (cl_bits _ mk size rfl hs1 _ _) ?k1u221 ?k2u221 ?k3u221 ?k4u221 ?k5u221 ?kAu221 ?kFu221 ?kEu221 ?kKu221 ?kpu221 ?kdu221 ?kuu221 ?_; ( (case k1u221 => first | k_asm | fail "the frames below"); (case k2u221 => first | k_asm | fail "the frame"); (case k3u221 => first | k_asm | fail "the written part"); (case k4u221 => first | k_asm | fail "the ledger"); (case k5u221 => first | k_asm | fail "the top's facts"); (case kAu221 => first | exact rfl | fail "the raised"); (case kFu221 => first | exact rfl | fail "the frames"); (case kEu221 => first | exact rfl | fail "the caller's frame"); (case kKu221 => first | exact rfl | assumption | fail "the caller is no def"); (case kpu221 => first | exact trivial | is_list | fail "the premise"); (case kdu221 => first | ktr_room | fail "the frames' room"); (case kuu221 => first | ktr_units | fail "the C units"))); intro l9x vs9x n9x h9x tk9x I9x F9x N9x O9x; (try dsimp only); walk_at "M on")
    (rename IntsAre _ (bitsL mk size) => Im)
    (refine go_on ?_; k_dflt (refine' Cl.useB (cl_lawcount b mk size _ _ _ hb ⟨hs0, hs1⟩ Ib _ _ _ _ _ rfl) ?k1u222 ?k2u222 ?k3u222 ?k4u222 ?k5u222 ?kAu222 ?kFu222 ?kEu222 ?kKu222 ?kpu222 ?kdu222 ?kuu222 ?_; ( (case k1u222 => first | k_asm | fail "the frames below"); (case k2u222 => first | k_asm | fail "the frame"); (case k3u222 => first | k_asm | fail "the written part"); (case k4u222 => first | k_asm | fail "the ledger"); (case k5u222 => first | k_asm | fail "the top's facts"); (case kAu222 => first | exact rfl | fail "the raised"); (case kFu222 => first | exact rfl | fail "the frames"); (case kEu222 => first | exact rfl | fail "the caller's frame"); (case kKu222 => first | exact rfl | assumption | fail "the caller is no def"); (case kpu222 => first | exact trivial | is_list | fail "the premise"); (case kdu222 => first | ktr_room | fail "the frames' room"); (case kuu222 => first | ktr_units | fail "the C units"))); intro h9x tk9x F9x N9x; (try dsimp only); walk_at "M on")
    (refine go_on ?_; k_dflt (refine' Cl.useB (cl_lawspread b mk size _ _ _ _ hb hm ⟨hs0, hs1⟩ Ib Im _ _ _ _ _ rfl rfl) ?k1u223 ?k2u223 ?k3u223 ?k4u223 ?k5u223 ?kAu223 ?kFu223 ?kEu223 ?kKu223 ?kpu223 ?kdu223 ?kuu223 ?_; (case kpu223 => exact ⟨by is_list, by is_list⟩); (case kAu223 => exact rfl); (case kFu223 => exact rfl); (case kEu223 => exact rfl); (case k1u223 => k_asm); (case k2u223 => k_asm); (case k3u223 => k_asm); (case k4u223 => k_asm); (case k5u223 => k_asm); (case kKu223 => exact rfl); (case kdu223 => ktr_room); (case kuu223 => ktr_units)); intro h9 tk9 F9 N9; (try dsimp only); walk_at "M on")
    (refine go_on ?_; k_dflt (refine' Cl.useB (cl_lawsubsets mk size _ _ hm ⟨hs0, hs1⟩ Im _) ?k1u224 ?k2u224 ?k3u224 ?k4u224 ?k5u224 ?kAu224 ?kFu224 ?kEu224 ?kKu224 ?kpu224 ?kdu224 ?kuu224 ?_; ( (case k1u224 => first | k_asm | fail "the frames below"); (case k2u224 => first | k_asm | fail "the frame"); (case k3u224 => first | k_asm | fail "the written part"); (case k4u224 => first | k_asm | fail "the ledger"); (case k5u224 => first | k_asm | fail "the top's facts"); (case kAu224 => first | exact rfl | fail "the raised"); (case kFu224 => first | exact rfl | fail "the frames"); (case kEu224 => first | exact rfl | fail "the caller's frame"); (case kKu224 => first | exact rfl | assumption | fail "the caller is no def"); (case kpu224 => first | exact trivial | is_list | fail "the premise"); (case kdu224 => first | ktr_room | fail "the frames' room"); (case kuu224 => first | ktr_units | fail "the C units"))); intro h9x tk9x F9x N9x; (try dsimp only); walk_at "M on")
    (refine go_on ?_; k_dflt (refine' Cl.useB (cl_lawpicture _ b files ranks size _ _ rfl hf hr hsz Ib _ _ _) ?k1u225 ?k2u225 ?k3u225 ?k4u225 ?k5u225 ?kAu225 ?kFu225 ?kEu225 ?kKu225 ?kpu225 ?kdu225 ?kuu225 ?_; ( (case k1u225 => first | k_asm | fail "the frames below"); (case k2u225 => first | k_asm | fail "the frame"); (case k3u225 => first | k_asm | fail "the written part"); (case k4u225 => first | k_asm | fail "the ledger"); (case k5u225 => first | k_asm | fail "the top's facts"); (case kAu225 => first | exact rfl | fail "the raised"); (case kFu225 => first | exact rfl | fail "the frames"); (case kEu225 => first | exact rfl | fail "the caller's frame"); (case kKu225 => first | exact rfl | assumption | fail "the caller is no def"); (case kpu225 => first | exact trivial | is_list | fail "the premise"); (case kdu225 => first | ktr_room | fail "the frames' room"); (case kuu225 => first | ktr_units | fail "the C units"))); intro h9x tk9x F9x N9x; (try dsimp only); walk_at "M on")
    (refine go_on ?_; k_dflt (refine' Cl.useI (cl_getx _ _ ns I _ i rfl (by omega) (by omega) _) ?k1u226 ?k2u226 ?k3u226 ?k4u226 ?k5u226 ?kAu226 ?kFu226 ?kEu226 ?kKu226 ?kpu226 ?kdu226 ?kuu226 ?_; ( (case k1u226 => first | k_asm | fail "the frames below"); (case k2u226 => first | k_asm | fail "the frame"); (case k3u226 => first | k_asm | fail "the written part"); (case k4u226 => first | k_asm | fail "the ledger"); (case k5u226 => first | k_asm | fail "the top's facts"); (case kAu226 => first | exact rfl | fail "the raised"); (case kFu226 => first | exact rfl | fail "the frames"); (case kEu226 => first | exact rfl | fail "the caller's frame"); (case kKu226 => first | exact rfl | assumption | fail "the caller is no def"); (case kpu226 => first | exact trivial | is_list | fail "the premise"); (case kdu226 => first | ktr_room | fail "the frames' room"); (case kuu226 => first | ktr_units | fail "the C units"))); intro t9x h9x tk9x F9x N9x; (try dsimp only); walk_at "M on")
    (refine go_on ?_; k_dflt (refine' Cl.useB (cl_lawmove _ (size : Int) ⟨by omega, by omega⟩ _ _) ?k1u227 ?k2u227 ?k3u227 ?k4u227 ?k5u227 ?kAu227 ?kFu227 ?kEu227 ?kKu227 ?kpu227 ?kdu227 ?kuu227 ?_; ( (case k1u227 => first | k_asm | fail "the frames below"); (case k2u227 => first | k_asm | fail "the frame"); (case k3u227 => first | k_asm | fail "the written part"); (case k4u227 => first | k_asm | fail "the ledger"); (case k5u227 => first | k_asm | fail "the top's facts"); (case kAu227 => first | exact rfl | fail "the raised"); (case kFu227 => first | exact rfl | fail "the frames"); (case kEu227 => first | exact rfl | fail "the caller's frame"); (case kKu227 => first | exact rfl | assumption | fail "the caller is no def"); (case kpu227 => first | exact trivial | is_list | fail "the premise"); (case kdu227 => first | ktr_room | fail "the frames' room"); (case kuu227 => first | ktr_units | fail "the C units"))); intro h9x tk9x F9x N9x; (try dsimp only); walk_at "M on")
    (refine go_on ?_; k_dflt (refine' Cl.useI (cl_getx _ _ ns I _ (i + 1) (by omega) (by omega) (by omega) _) ?k1u228 ?k2u228 ?k3u228 ?k4u228 ?k5u228 ?kAu228 ?kFu228 ?kEu228 ?kKu228 ?kpu228 ?kdu228 ?kuu228 ?_; ( (case k1u228 => first | k_asm | fail "the frames below"); (case k2u228 => first | k_asm | fail "the frame"); (case k3u228 => first | k_asm | fail "the written part"); (case k4u228 => first | k_asm | fail "the ledger"); (case k5u228 => first | k_asm | fail "the top's facts"); (case kAu228 => first | exact rfl | fail "the raised"); (case kFu228 => first | exact rfl | fail "the frames"); (case kEu228 => first | exact rfl | fail "the caller's frame"); (case kKu228 => first | exact rfl | assumption | fail "the caller is no def"); (case kpu228 => first | exact trivial | is_list | fail "the premise"); (case kdu228 => first | ktr_room | fail "the frames' room"); (case kuu228 => first | ktr_units | fail "the C units"))); intro t9x h9x tk9x F9x N9x; (try dsimp only); walk_at "M on")
    (refine go_on ?_; k_dflt (refine' Cl.useB (cl_lawmove _ (size : Int) ⟨by omega, by omega⟩ _ _) ?k1u229 ?k2u229 ?k3u229 ?k4u229 ?k5u229 ?kAu229 ?kFu229 ?kEu229 ?kKu229 ?kpu229 ?kdu229 ?kuu229 ?_; ( (case k1u229 => first | k_asm | fail "the frames below"); (case k2u229 => first | k_asm | fail "the frame"); (case k3u229 => first | k_asm | fail "the written part"); (case k4u229 => first | k_asm | fail "the ledger"); (case k5u229 => first | k_asm | fail "the top's facts"); (case kAu229 => first | exact rfl | fail "the raised"); (case kFu229 => first | exact rfl | fail "the frames"); (case kEu229 => first | exact rfl | fail "the caller's frame"); (case kKu229 => first | exact rfl | assumption | fail "the caller is no def"); (case kpu229 => first | exact trivial | is_list | fail "the premise"); (case kdu229 => first | ktr_room | fail "the frames' room"); (case kuu229 => first | ktr_units | fail "the C units"))); intro h9x tk9x F9x N9x; (try dsimp only); walk_at "M on")
    (refine go_on ?_; (rename News _ _ _ _ => nEx); (try simp only [List.push_toArray] at nEx); refine' f_end (_, _, _) (by assumption) nEx ?hnu230 ?hau230 ?hku230 ?_; (case hku230 => walk_at "M all"); (case hnu230 => first | exact fun p hp => hp | k_sub | skip); (case hau230 => first | exact rfl | skip))
    trivial
  case done =>
    rintro ⟨ta, tb, tc⟩ u2 h2 tk2 - F2 N2
    dsimp only at F2
    walk_at "M go"
    refine go_on ?_
    k_dflt (refine' clx_names _ _ _ ns I hns files ranks hf hr _ _ _ _ _ _ _ _ _ _ _ _ _ _ _ _ _ _ _ K1 F2 ?k3 N2 T0 ?k6 T0 ktsDicts_nil KtsTurn.refl rfl ?k11 ?k12 ?_)
    case k3 => assumption
    case k6 => assumption
    case k11 => ktr_room
    case k12 => ktr_units
    rintro v9 h9 tk9 g9 T9 F9 N9 B9 X9 P9 D9 rfl
    have F3 := turn_fr T9 F9
    have N3 := turn_news T9 N9
    clear T9 F9 N9 B9 X9 P9 D9 F2 N2
    walk_at "M go"
    (refine go_on ?_; k_dflt (refine' Cl.useI (cl_getx _ _ ns I _ 0 rfl (by omega) (by omega) _) ?k1u231 ?k2u231 ?k3u231 ?k4u231 ?k5u231 ?kAu231 ?kFu231 ?kEu231 ?kKu231 ?kpu231 ?kdu231 ?kuu231 ?_; ( (case k1u231 => first | k_asm | fail "the frames below"); (case k2u231 => first | k_asm | fail "the frame"); (case k3u231 => first | k_asm | fail "the written part"); (case k4u231 => first | k_asm | fail "the ledger"); (case k5u231 => first | k_asm | fail "the top's facts"); (case kAu231 => first | exact rfl | fail "the raised"); (case kFu231 => first | exact rfl | fail "the frames"); (case kEu231 => first | exact rfl | fail "the caller's frame"); (case kKu231 => first | exact rfl | assumption | fail "the caller is no def"); (case kpu231 => first | exact trivial | is_list | fail "the premise"); (case kdu231 => first | ktr_room | fail "the frames' room"); (case kuu231 => first | ktr_units | fail "the C units"))); intro t9x h9x tk9x F9x N9x; (try dsimp only); walk_at "M on")
    have hz0 := fmod_lo (ns.getD 0 (37 * ((0 : Nat) : Int) + 11)) (n := 100000) (by decide)
    have hz1 := fmod_hi (ns.getD 0 (37 * ((0 : Nat) : Int) + 11)) (n := 100000) (by decide)
    refine go_on ?_
    k_dflt (refine' ClX.use (clx_pieces ((ns.getD 0 (37 * ((0 : Nat) : Int) + 11)).fmod 100000 - 500) ⟨by omega, by omega⟩ _) K1 ?k2 ?k3 ?k4 T0 ?k6 T0 ktsDicts_nil KtsTurn.refl rfl ?k11 ?k12 ?_)
    case k2 => k_asm
    case k3 => assumption
    case k4 => k_asm
    case k6 => assumption
    case k11 => ktr_room
    case k12 => ktr_units
    rintro v8 h8 tk8 g8 T8 F8 N8 B8 X8 P8 D8 rfl
    obtain ⟨F4, N4⟩ := turn_both T8 F8 N8
    clear T8 F8 N8 B8 X8 P8 D8 F3 N3
    walk_at "M go"
    k_steps⟩
example : True := by
  k_with "pyIter ref" => (k_here; refine stop_here ?_)
  exact True.intro

end Mine
theorem PySem.Challenge.cw_nt0423_01_holds : PySem.Challenge.rw_nt0423_01.Holds :=
  Mine.law_x
