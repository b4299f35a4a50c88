import PyProof.Rows.All
import Wide.All
import OpenK.AllK
import Wide.FinOn
import KE.KEqDat
import KE.KTryMore
import PySem.Challenge.RW_ot0010_01
open PySem PySem.W PyProof.Rows
set_option Elab.async false
set_option maxRecDepth 100000
set_option maxHeartbeats 8000000
set_option compiler.extract_closed false
set_option pp.deepTerms false
set_option pp.deepTerms.threshold 4
namespace Mine
def vw : Program := PySem.W.view PySem.Challenge.rw_ot0010_01.prog [1, 2, 4, 5, 6, 7, 9, 10, 12, 13, 14, 15, 16, 17, 18, 19, 20, 21, 22, 23]
theorem twP : PySem.Challenge.pw_ot0010_01.main.more.isEmpty = true := by k_qdec
theorem left_boot {p q : Program} {loose : List Str} {Xt : Shared → Bool} {α : Type} {Yf : Shared → α} {Ya : World → α} {N : Nat} {g0 : Bool} (m : Nat) (ann : Option Value) (e : opening p = plainProg p.main.scope.names) (hN : Nat.ble 600 N = true) (f : ∀ s, fenceModules? p s = some s)
    (hs : ∀ P, ((boot_heap P).isNs mainGlobals, (boot_heap P).objs.size, (boot_heap P).nsMap mainGlobals "__annotations__") = (true, m, ann))
    (h : ∀ (w : World) (os : OsState), (topRun treeTable p w m ann N ⟨boot_heap w.params, Array.mk [], boot_drawn, boot_toks, os⟩ (topStub p)).map (fun s => ((staticsOk (importedModules p.main.body) (boot_heap w.params) s.heap && namesBound p s.heap && gensDone s && laidKept (boot_heap w.params) s.heap), openSeen q loose (importedModules p.main.body) Xt g0 s, Yf s)) = some (true, openGood q loose, Ya w)) : LeftO p q loose Xt Yf Ya N g0 := fun w => by
  obtain ⟨⟨h', gs, d, k, os⟩, e1, e2⟩ := Option.map_eq_some_iff.mp (boot_open e hN f w)
  obtain ⟨rfl, rfl, rfl, rfl⟩ : h' = boot_heap w.params ∧ gs = Array.mk [] ∧ d = boot_drawn ∧ k = boot_toks := by simpa using e2
  obtain ⟨z1, z2, z3⟩ : _ ∧ _ ∧ _ := by simpa only [Prod.mk.injEq] using hs w.params
  obtain ⟨s, r1, r2⟩ := Option.map_eq_some_iff.mp (h w os)
  obtain ⟨l1, l2, l3⟩ : _ ∧ _ ∧ _ := by simpa only [Prod.mk.injEq] using r2
  have t : topFrom treeTable p w N ⟨boot_heap w.params, Array.mk [], boot_drawn, boot_toks, os⟩ = some s := by
    unfold topFrom
    dsimp only
    rw [z1, z2, z3, r1]
    show (match staticsOk (importedModules p.main.body) (boot_heap w.params) s.heap && namesBound p s.heap && gensDone s && laidKept (boot_heap w.params) s.heap with | true => _ | false => _) = _
    rw [l1]
  unfold openEnds
  rw [e1]
  show (topFrom treeTable p w N _).map _ = _
  rw [t]
  exact congrArg some (Prod.ext l2 l3)
local macro_rules | `(tactic| o_head $H) => `(tactic| (
  refine PySem.W.holds_open (q := vw) (loose := [Str.ofString "LendError"]) (Xt := fun s => xlAt vw [] s && recOk (RowW.records (OpenRow.toRowW (OpenLaw.row PySem.Challenge.rw_ot0010_01))) s) (XP := XL vw []) (Yf := Hook.obs $H) (Ya := Hook.val $H) (YP := Hook.says $H) (N := 3080) ?hl (Hook.of $H) (Hook.keeps $H) (fun s e => xl_of s (Bool.and_eq_true_iff.mp e).1) XL.keeps (by rfl) (by rfl) (by rfl) (fun s e => recFacts_of (Bool.and_eq_true_iff.mp e).2) (by rfl) (by first | assumption | decide +kernel) (by decide +kernel) ⟨rfl, rfl, rfl, rfl, rfl, by decide +kernel⟩ ?hw ?hc
  (case hl => exact left_boot (p := PySem.Challenge.pw_ot0010_01) (q := PySem.W.view PySem.Challenge.pw_ot0010_01 [1, 2, 4, 5, 6, 7, 9, 10, 12, 13, 14, 15, 16, 17, 18, 19, 20, 21, 22, 23]) 11 (some (.ref 6)) rfl rfl (fun s => rfl) (fun P => by kernel_rfl) (by intro w os; rw [PySem.W.Fast.te14082659384304107361, PySem.W.Fast.te14364793385576792824, PySem.W.Fast.te4187177175401517315, PySem.W.Fast.te5923862056798008813, PySem.W.Fast.te7460274154988781087]; kernel_rfl))))
open_top hd for PySem.Challenge.rw_ot0010_01
end Mine
open PySem.Calls PySem.W.X
namespace Mine
local macro_rules | `(tactic| walk_at $s:str) => `(tactic| k_extra $s)
local macro_rules | `(tactic| k_inst) => `(tactic| k_extra "k_inst")
local macro_rules | `(tactic| k_all) => `(tactic| k_extra "k_all")
theorem kf : PySem.Challenge.rw_ot0010_01 = PySem.Challenge.rw_ot0010_01 ∧ Mine.hd.heap_39 = Mine.hd.heap_39 := by
  k_fill
  exact ⟨rfl, rfl⟩
section PartB1

/-- the surroundings in which the helpers are run -/
abbrev AR (d : Nat) : Around := ⟨none, d, none, none, d⟩

theorem in_lift {d : Nat} {A : Around} {Γ : Ctx} (hh : A.handled = none) (hd : A.depth ≤ d) (hu : A.units ≤ d) (h : Γ.In A) : Γ.In (AR d) :=
  ⟨h.1.trans hh, Nat.le_trans h.2.1 hd, fun _ e => (nomatch e), fun _ e => (nomatch e), Nat.le_trans h.2.2.2.2 hu⟩
theorem lift {α : Type} {M : Model} {d : Nat} {A : Around} {t : Sem α} {Q : α → Shared → Prop} {E : Value → Shared → Prop} {s : Shared}
    (h : wpAny M (AR d) t Q E s) (hh : A.handled = none) (hd : A.depth ≤ d) (hu : A.units ≤ d) : wpAny M A t Q E s :=
  fun Γ p hΓ => h Γ p (in_lift hh hd hu hΓ)

/-- the text's top, as every heap that grows out of it bears it -/
structure G0 (w : World) (mg mb : Str → Option Value) (b : Heap) : Prop where
  X : (Mine.hd.heap_39 w.params).In b
  T : TopRead Mine.vw (looseW Mine.vw [Str.ofString "LendError"]) mg mb b
theorem G0.keeps {w : World} {mg mb : Str → Option Value} {b h : Heap} (G : G0 w mg mb b) (k : b.StaysIn h) : G0 w mg mb h := ⟨G.X.keeps k, G.T.keeps k⟩

section
variable {prog : Program} {w : World} {A : Around} {s : Shared} {b₀ : Heap} {K : Frag} {R : Result → Shared → Prop}
  {name qual : Str} {params : Arguments} {body : List Stmt} {scope : Scope} {dV kV doc pm cdv ct oc : Value} {an od : Option Addr} {osl : Array (Option Value)} {f : Addr} {args : Args} {binds : List (Str × Value)}
/-- a def is entered: what the call may turn is hidden from its base and laid into its ledger -/
theorem enter (muts : List (Addr × Obj)) (X₀ : K.In b₀) (st : b₀.StaysIn s.heap) (hm : ∀ p ∈ muts, s.heap.get? p.1 = some p.2 ∧ b₀.get? p.1 = none) (hlim : b₀.NoLimit)
    (ho : K.lookup f = some ⟨oc, od, .func (fnOf name qual params body scope dV kV doc pm an cdv ct), osl⟩) (hcd : codeIn K cdv qual = true) (hroom : A.depth < recursionLimit)
    (hbind : BindsTo s (fnOf name qual params body scope dV kV doc pm an cdv ct) args binds) (hloc : ∀ y ∈ binds, scope.names.lookup y.1 = some .local)
    (h : ∀ g L' h₁, b₀.StaysIn g → (∀ b o, g.get? b = some o → s.heap.get? b = some o) → (∀ b o, s.heap.get? b = some o → b ∉ muts.map (·.1) → g.get? b = some o) →
      Fr g L' h₁ (fun y => binds.reverse.lookup y) → News g L' h₁ muts → K.In g →
      wpAny (model prog w) (A.deeper (envOf qual scope L' f cdv)) (execs body (envOf qual scope L' f cdv))
        (fun fl s' => R (.ok (.ret (match fl with | .ret v => v | _ => .none))) s')
        (fun e s' => wpAny (model prog w) (A.deeper (envOf qual scope L' f cdv)) (leaving (envOf qual scope L' f cdv) e) (fun _ s'' => R (.error e) s'') (fun e' s'' => R (.error e') s'') s')
        { s with heap := h₁, toks := s.toks + binds.length })
    (hcell : ∀ x ∈ scope.names, x.2 ≠ .cell) (hco : scope.isCoroutine = false) (hgen : scope.isGenerator = false) (hk : scope.kind = .function) :
    codeAny (model prog w) A (.call (.ref f) args) R s := by
  refine codeAny_call_def (fd := fnOf name qual params body scope dV kV doc pm an cdv ct) (body := body) (binds := binds) hroom ((X₀.keeps st) _ _ ho) rfl (hlim.keeps st) (codeRec_of (X₀.keeps st) hcd) rfl hbind hcell hloc (fun h₁ hns hk₁ => ?_) hco hgen hk
  have stg : b₀.StaysIn (hideAll s.heap (muts.map (·.1))) := fun b o e => hideAll_get _ (st b o e) fun q => by
    obtain ⟨p, hp, rfl⟩ := List.mem_map.mp q
    rw [(hm p hp).2] at e; cases e
  exact h (hideAll s.heap (muts.map (·.1))) s.heap.objs.size h₁ stg (fun b o e => of_hideAll _ e) (fun b o e q => hideAll_get _ e q)
    ⟨hns, fun b o e => hk₁ b o (of_hideAll _ e), Nat.le_of_eq (hideAll_size _ _)⟩
    (fun p hp => ⟨hk₁ _ _ (hm p hp).1, Nat.ne_of_lt (Heap.lt_size (hm p hp).1), hideAll_none _ (List.mem_map_of_mem hp)⟩) (Frag.In.keeps X₀ fun b o e => stg b o e)
end

section
variable {prog : Program} {w : World} {A : Around} {s : Shared} {K : Frag} {R : Result → Shared → Prop}
  {name qual : Str} {params : Arguments} {body : List Stmt} {scope : Scope} {dV kV doc pm cdv ct oc : Value} {an od : Option Addr} {osl : Array (Option Value)} {f : Addr} {args : Args} {binds : List (Str × Value)}
/-- a def that turns nothing is entered -/
theorem enter0 (X : K.In s.heap) (hlim : s.heap.NoLimit)
    (ho : K.lookup f = some ⟨oc, od, .func (fnOf name qual params body scope dV kV doc pm an cdv ct), osl⟩) (hcd : codeIn K cdv qual = true) (hroom : A.depth < recursionLimit)
    (hbind : BindsTo s (fnOf name qual params body scope dV kV doc pm an cdv ct) args binds) (hloc : ∀ y ∈ binds, scope.names.lookup y.1 = some .local)
    (h : ∀ L' h₁, Fr s.heap L' h₁ (fun y => binds.reverse.lookup y) → News s.heap L' h₁ [] →
      wpAny (model prog w) (A.deeper (envOf qual scope L' f cdv)) (execs body (envOf qual scope L' f cdv))
        (fun fl s' => R (.ok (.ret (match fl with | .ret v => v | _ => .none))) s')
        (fun e s' => wpAny (model prog w) (A.deeper (envOf qual scope L' f cdv)) (leaving (envOf qual scope L' f cdv) e) (fun _ s'' => R (.error e) s'') (fun e' s'' => R (.error e') s'') s')
        { s with heap := h₁, toks := s.toks + binds.length })
    (hcell : ∀ x ∈ scope.names, x.2 ≠ .cell) (hco : scope.isCoroutine = false) (hgen : scope.isGenerator = false) (hk : scope.kind = .function) :
    codeAny (model prog w) A (.call (.ref f) args) R s := by
  refine codeAny_call_def (fd := fnOf name qual params body scope dV kV doc pm an cdv ct) (body := body) (binds := binds) hroom (X _ _ ho) rfl hlim (codeRec_of X hcd) rfl hbind hcell hloc (fun h₁ hns hk₁ => ?_) hco hgen hk
  exact h s.heap.objs.size h₁ ⟨hns, hk₁, Nat.le_refl _⟩ News.nil
end

section
variable {prog : Program} {w : World} {A : Around} {s : Shared} {K : Frag} {R : Result → Shared → Prop}
  {name qual : Str} {params : Arguments} {body : List Stmt} {scope : Scope} {dV kV doc pm cdv ct oc : Value} {an od : Option Addr} {osl : Array (Option Value)} {f : Addr} {args : Args} {binds : List (Str × Value)}
/-- a def whose names are caught by a comprehension, and that turns nothing, is entered -/
theorem enter0C (X : K.In s.heap) (hlim : s.heap.NoLimit)
    (ho : K.lookup f = some ⟨oc, od, .func (fnOf name qual params body scope dV kV doc pm an cdv ct), osl⟩) (hcd : codeIn K cdv qual = true) (hroom : A.depth < recursionLimit)
    (hbind : BindsTo s (fnOf name qual params body scope dV kV doc pm an cdv ct) args binds)
    (hkind : (binds.all fun y => scope.names.lookup y.1 == some .local || scope.names.lookup y.1 == some .cell) = true) (hnd : ((cellsFrom 0 scope.names []).map (·.1)).Nodup)
    (h : ∀ L' h₁ tk cells, Fr s.heap L' h₁ (bindL (envOfC qual scope L' f cdv).kindOf binds fun _ => none) → News s.heap L' h₁ cells →
      CellsAre (bindC (envOfC qual scope L' f cdv).kindOf binds fun _ => none) (cellsFrom (L' + 1) scope.names []) cells →
      wpAny (model prog w) (A.deeper (envOfC qual scope L' f cdv)) (execs body (envOfC qual scope L' f cdv))
        (fun fl s' => R (.ok (.ret (match fl with | .ret v => v | _ => .none))) s')
        (fun e s' => wpAny (model prog w) (A.deeper (envOfC qual scope L' f cdv)) (leaving (envOfC qual scope L' f cdv) e) (fun _ s'' => R (.error e) s'') (fun e' s'' => R (.error e') s'') s')
        { s with heap := h₁, toks := tk })
    (hco : scope.isCoroutine = false) (hgen : scope.isGenerator = false) (hk : scope.kind = .function) :
    codeAny (model prog w) A (.call (.ref f) args) R s := by
  refine codeAny_call_function hroom (X _ _ ho) rfl hco hgen rfl (codeRec_of X hcd) (hbind _ _ _ _ ?_)
  refine wpAny_newFunctionEnv_cells hk (kindsX hkind _) fun env' he s' x => ?_
  subst he
  refine ⟨hlim.keeps x.toInCall.keep, codeAny_func ?_⟩
  obtain ⟨h₁, tk, rfl, _⟩ := x.done
  obtain ⟨cells, NC, Y⟩ := Cl.news (h₀ := s.heap) (Nat.le_refl _) fun n c hm => ⟨x.cell n c (lookup_of_mem_nodup (cellsFrom_names scope.names 0 (s.heap.objs.size + 1) [] [] rfl ▸ hnd) hm), x.above n c hm⟩
  exact h s.heap.objs.size h₁ tk cells ⟨x.toInCall.ns, x.toInCall.keep, Nat.le_refl _⟩ NC Y
end

theorem fr_grow {g h h' : Heap} {L : Addr} {m : Str → Option Value} (F : Fr g L h m) (k : h.StaysIn h') : Fr g L h' m :=
  ⟨F.ns.keeps k, fun b o e => k b o (F.keep b o e), F.above⟩
theorem news_grow {g h h' : Heap} {L : Addr} {news : List (Addr × Obj)} (N : News g L h news) (k : h.StaysIn h') : News g L h' news :=
  fun p hp => ⟨k _ _ (N p hp).1, (N p hp).2⟩
/-- a call made one more object -/
theorem news_more {g h h' : Heap} {L a : Addr} {o : Obj} {m : Str → Option Value} {news : List (Addr × Obj)} (F : Fr g L h m) (N : News g L h news) (k : h.StaysIn h') (e : h'.get? a = some o) (hn : h.get? a = none) : News g L h' ((a, o) :: news) := by
  intro p hp
  rcases List.mem_cons.mp hp with rfl | hp
  · refine ⟨e, fun q => ?_, ?_⟩
    · obtain ⟨oL, _, _, hL, _⟩ := F.ns
      rw [← q, hn] at hL; cases hL
    · cases q : g.get? a with
      | none => rfl
      | some o' => rw [F.keep _ _ q] at hn; cases hn
  · exact news_grow N k p hp

abbrev lst (l : List Value) (n : Nat) : Obj := { cls := .type "list", data := .seq l.toArray n }

theorem rowsB1_0 : True := by
  k_with_none
  k_with "mine enter" => (
    (case ho => k_is); (case hcd => k_is); (case hroom => exact Nat.le_of_ble_eq_true rfl)
    (case hbind => first | exact binds_K (by k_in) rfl (by k_is) rfl rfl rfl | exact BindsTo.of_eq rfl)
    (case hloc => exact locs rfl)
    (case c1 => decide); (case c2 => rfl); (case c3 => rfl); (case c4 => rfl))
  trivial
theorem fmod_lo (u : Int) {k : Int} (h : 0 < k) : 0 ≤ Int.fmod u k := by
  rw [Int.fmod_eq_emod_of_nonneg _ (Int.le_of_lt h)]; exact Int.emod_nonneg _ (Int.ne_of_gt h)
theorem fmod_hi (u : Int) {k : Int} (h : 0 < k) : Int.fmod u k < k := by
  rw [Int.fmod_eq_emod_of_nonneg _ (Int.le_of_lt h)]; exact Int.emod_lt_of_pos _ h
theorem mulok (u : Int) : IntMulOk (Int.fmod u 2147483647) (Int.fmod u 2147483647) := by
  have h1 := fmod_lo u (k := 2147483647) (by decide)
  have h2 := fmod_hi u (k := 2147483647) (by decide)
  exact IntMulOk.of_right (intBits_le_64 (by omega) (by omega))
theorem mul_mod {prog : Program} {w : World} {A : Around} {E : Value → Shared → Prop} {s : Shared} {z u : Int} {t t' : Tok} {Q : Value → Shared → Prop}
    (h : Q (.int (z * z) s.toks) { s with toks := s.toks + 1 }) (e : z = Int.fmod u 2147483647) : wpAny (model prog w) A (binaryOp .Mult (.int z t) (.int z t')) Q E s :=
  mul_int h (e ▸ mulok u)
theorem rowsB1_1 : True := by
  k_with "mine le" => (exact Nat.le_of_ble_eq_true rfl)
  k_with "binaryOp Mult int int" => (refine mul_mod ?_ (by exact rfl))
  trivial
theorem take_spec {prog : Program} {w : World} {mg mb : Str → Option Value} {b₀ : Heap} (G : G0 w mg mb b₀) {s : Shared} {aS : Addr} {x y top : Int} {t1 t2 t3 : Tok} {n : Nat}
    (st : b₀.StaysIn s.heap) (ha : s.heap.get? aS = some (lst [.int x t1, .int y t2] n)) (hn : b₀.get? aS = none) (h0 : 0 < top) (h1 : top < 100) (hy0 : 0 ≤ y) (hy1 : y < 2147483647)
    {Q : Value → Shared → Prop} {E : Value → Shared → Prop}
    (hQ : ∀ d u x' t1' y' t2' n' h' tk', 0 ≤ d → d < top → 0 ≤ y' → y' < 2147483647 → h'.get? aS = some (lst [.int x' t1', .int y' t2'] n') → (∀ b o, b ≠ aS → s.heap.get? b = some o → h'.get? b = some o) → Q (.int d u) { s with heap := h', toks := tk' }) :
  wpAny (model prog w) (AR 800) (PySem.call (.ref 170) [.ref aS, .int top t3]) Q E s := by
  refine wpAny_call ?_
  have KX := G.X
  refine' enter [(aS, lst [.int x t1, .int y t2] n)] G.X st ?hm G.T.nolimit ?ho ?hcd ?hroom ?hbind ?hloc ?_ ?c1 ?c2 ?c3 ?c4
  case hm => intro p hp; rcases List.mem_singleton.mp hp with rfl; exact ⟨ha, hn⟩
  walk_at "mine enter"
  intro g L h₁ stg gd gu F N KX'
  have T := G.T.keeps stg
  clear KX G st stg
  k_steps
  · (with_reducible rename Fr _ _ _ _ => F1); (with_reducible rename News _ _ _ _ => N1)
    show Q (.int _ _) _
    refine hQ _ _ _ _ _ _ _ _ _ ?_ ?_ ?_ ?_ (N1 _ (List.mem_cons_self)).1 ?_
    · exact fmod_lo _ h0
    · exact fmod_hi _ h0
    · exact hy0
    · exact hy1
    · exact fun b o hb e => F1.keep b o (gu b o e (by simpa using hb))
  · (with_reducible rename Fr _ _ _ _ => F1); (with_reducible rename News _ _ _ _ => N1)
    show Q (.int _ _) _
    refine hQ _ _ _ _ _ _ _ _ _ ?_ ?_ ?_ ?_ (N1 _ (List.mem_cons_self)).1 ?_
    · exact fmod_lo _ h0
    · exact fmod_hi _ h0
    · exact fmod_lo _ (by decide)
    · exact fmod_hi _ (by decide)
    · exact fun b o hb e => F1.keep b o (gu b o e (by simpa using hb))
end PartB1
section PartS1

/-- a type of the text: an unknown (of numbers where its number is odd) or one of the four known ones -/
inductive Ty where
  | v (n : Nat)
  | u8 | i32 | bool | par
  deriving DecidableEq

def varName (n : Nat) : Str := if n % 2 = 1 then "intvar" else "var"
def Ty.Items : Ty → List Value → Prop
  | .v n, l => ∃ t u, l = [.str (varName n) t, .int (n : Int) u]
  | .u8, l => ∃ t u, l = [.str "int" t, .str "u8" u]
  | .i32, l => ∃ t u, l = [.str "int" t, .str "i32" u]
  | .bool, l => ∃ t, l = [.str "bool" t]
  | .par, l => ∃ t u, l = [.str "param" t, .str "X" u]
/-- an address bears a type -/
def Rep (h : Heap) (a : Addr) (t : Ty) : Prop := ∃ l, IsTup h a l.toArray ∧ t.Items l
theorem isTup_keeps {h h' : Heap} {a : Addr} {l : Array Value} (r : IsTup h a l) (k : h.StaysIn h') : IsTup h' a l := let ⟨o, e, i⟩ := r; ⟨o, k _ _ e, i⟩
theorem Rep.keeps {h h' : Heap} {a : Addr} {t : Ty} (r : Rep h a t) (k : h.StaysIn h') : Rep h' a t := let ⟨l, e, i⟩ := r; ⟨l, isTup_keeps e k, i⟩

/-- the six shapes -/
theorem Rep.cases {h : Heap} {a : Addr} {t : Ty} (r : Rep h a t) {P : Ty → Prop}
    (h1 : ∀ (n : Nat) tk u, n % 2 ≠ 1 → IsTup h a [.str "var" tk, .int (n : Int) u].toArray → P (.v n))
    (h2 : ∀ (n : Nat) tk u, n % 2 = 1 → IsTup h a [.str "intvar" tk, .int (n : Int) u].toArray → P (.v n))
    (h3 : ∀ tk u, IsTup h a [.str "int" tk, .str "u8" u].toArray → P .u8)
    (h4 : ∀ tk u, IsTup h a [.str "int" tk, .str "i32" u].toArray → P .i32)
    (h5 : ∀ tk, IsTup h a [.str "bool" tk].toArray → P .bool)
    (h6 : ∀ tk u, IsTup h a [.str "param" tk, .str "X" u].toArray → P .par) : P t := by
  obtain ⟨l, e, i⟩ := r
  cases t with
  | v n =>
    obtain ⟨tk, u, rfl⟩ := i
    by_cases q : n % 2 = 1
    · exact h2 n tk u q (by simpa [varName, q] using e)
    · exact h1 n tk u q (by simpa [varName, q] using e)
  | u8 => obtain ⟨tk, u, rfl⟩ := i; exact h3 tk u e
  | i32 => obtain ⟨tk, u, rfl⟩ := i; exact h4 tk u e
  | bool => obtain ⟨tk, rfl⟩ := i; exact h5 tk e
  | par => obtain ⟨tk, u, rfl⟩ := i; exact h6 tk u e

theorem rowsS1_0 : True := by
  k_with_none
  k_with "mine enter" => (
    (case ho => k_is); (case hcd => k_is); (case hroom => exact Nat.le_of_ble_eq_true rfl)
    (case hbind => first | exact binds_K (by k_in) rfl (by k_is) rfl rfl rfl | exact BindsTo.of_eq rfl)
    (case hloc => exact locs rfl)
    (case c1 => decide); (case c2 => rfl); (case c3 => rfl); (case c4 => rfl))
  k_with "mine le" => (exact Nat.le_of_ble_eq_true rfl)
  k_with "subscriptTail" => (k_here; (with_reducible show wpAny _ _ (subscriptTail _ _ (Value.ref _) (Value.int _ _)) _ _ _); k_dflt (refine item_tupleT (by is_tup) (by decide) (by decide) (by rfl) (by rfl) ?_; k_whole))
  k_with "mine tup" => (
    (with_reducible rename Fr _ _ _ _ => F1); (with_reducible rename News _ _ _ _ => N1);
    exact hQ _ _ _ F1.keep (N1 _ List.mem_cons_self).1 (N1 _ List.mem_cons_self).2.2)
  trivial
theorem parts_spec {prog : Program} {w : World} {mg mb : Str → Option Value} {s : Shared} (G : G0 w mg mb s.heap) {a : Addr} {t : Ty} (ha : Rep s.heap a t) {Q E : Value → Shared → Prop}
    (hQ : ∀ b h' tk', s.heap.StaysIn h' → h'.get? b = some { cls := .type "tuple", data := .seq ([] : List Value).toArray } → s.heap.get? b = none → Q (.ref b) { s with heap := h', toks := tk' }) :
    wpAny (model prog w) (AR 900) (PySem.call (.ref 54) [.ref a]) Q E s := by
  refine wpAny_call ?_
  have KX := G.X
  have T := G.T
  refine' enter0 G.X G.T.nolimit ?ho ?hcd ?hroom ?hbind ?hloc ?_ ?c1 ?c2 ?c3 ?c4
  walk_at "mine enter"
  intro L h₁ F N
  clear G
  refine ha.cases (P := fun _ => _) ?_ ?_ ?_ ?_ ?_ ?_
  · intro n tk u q e; k_steps; walk_at "mine tup"
  · intro n tk u q e; k_steps; walk_at "mine tup"
  · intro tk u e; k_steps; walk_at "mine tup"
  · intro tk u e; k_steps; walk_at "mine tup"
  · intro tk e; k_steps; walk_at "mine tup"
  · intro tk u e; k_steps; walk_at "mine tup"

theorem rowsS1_1 : True := by
  k_with "mine val" => (
    (with_reducible rename Fr _ _ _ _ => F1);
    exact hQ _ _ F1.keep)
  trivial
theorem rebuilt_spec {prog : Program} {w : World} {mg mb : Str → Option Value} {s : Shared} (G : G0 w mg mb s.heap) {a b : Addr} {t : Ty} (ha : Rep s.heap a t) {Q E : Value → Shared → Prop}
    (hQ : ∀ h' tk', s.heap.StaysIn h' → Q (.ref a) { s with heap := h', toks := tk' }) :
    wpAny (model prog w) (AR 900) (PySem.call (.ref 61) [.ref a, .ref b]) Q E s := by
  refine wpAny_call ?_
  have KX := G.X
  have T := G.T
  refine' enter0 G.X G.T.nolimit ?ho ?hcd ?hroom ?hbind ?hloc ?_ ?c1 ?c2 ?c3 ?c4
  walk_at "mine enter"
  intro L h₁ F N
  clear G
  refine ha.cases (P := fun _ => _) ?_ ?_ ?_ ?_ ?_ ?_
  · intro n tk u q e; k_steps; walk_at "mine val"
  · intro n tk u q e; k_steps; walk_at "mine val"
  · intro tk u e; k_steps; walk_at "mine val"
  · intro tk u e; k_steps; walk_at "mine val"
  · intro tk e; k_steps; walk_at "mine val"
  · intro tk u e; k_steps; walk_at "mine val"

def Ty.text : Ty → Str
  | .v _ => "_"
  | .u8 => "u8"
  | .i32 => "i32"
  | .bool => "bool"
  | .par => "X"
theorem rowsS1_2 : True := by
  k_with "mine str" => (
    (with_reducible rename Fr _ _ _ _ => F1);
    exact hQ _ _ _ F1.keep)
  trivial
theorem text_spec {prog : Program} {w : World} {mg mb : Str → Option Value} {s : Shared} (G : G0 w mg mb s.heap) {a : Addr} {t : Ty} (ha : Rep s.heap a t) {Q E : Value → Shared → Prop}
    (hQ : ∀ u h' tk', s.heap.StaysIn h' → Q (.str t.text u) { s with heap := h', toks := tk' }) :
    wpAny (model prog w) (AR 900) (PySem.call (.ref 73) [.ref a]) Q E s := by
  refine wpAny_call ?_
  have KX := G.X
  have T := G.T
  refine' enter0 G.X G.T.nolimit ?ho ?hcd ?hroom ?hbind ?hloc ?_ ?c1 ?c2 ?c3 ?c4
  walk_at "mine enter"
  intro L h₁ F N
  clear G
  revert hQ
  refine ha.cases (P := fun t => (∀ u h' tk', s.heap.StaysIn h' → Q (.str t.text u) { s with heap := h', toks := tk' }) → _) ?_ ?_ ?_ ?_ ?_ ?_
  · intro n tk u q e hQ; k_steps; walk_at "mine str"
  · intro n tk u q e hQ; k_steps; walk_at "mine str"
  · intro tk u e hQ; k_steps; walk_at "mine str"
  · intro tk u e hQ; k_steps; walk_at "mine str"
  · intro tk e hQ; k_steps; walk_at "mine str"
  · intro tk u e hQ; k_steps; walk_at "mine str"
end PartS1
section PartS2

/-- the object of class Infer, its dict, its two lists -/
def InfAt (h : Heap) (aF aK aN : Addr) : Prop := ∃ dF e1 e2 t1 t2, PySem.W.InstAt h aF (instObj 152 dF) 152 (some (dictOf [⟨e1, .str "known" t1, .ref aK⟩, ⟨e2, .str "is_number" t2, .ref aN⟩] 2))
theorem InstAt.keepsB {h h' : Heap} {x C : Addr} {ox : Obj} {od : Obj} (I : PySem.W.InstAt h x ox C (some od)) (k : ∀ b o, h.get? b = some o → h'.get? b = some o) : PySem.W.InstAt h' x ox C (some od) := by
  obtain ⟨h1, h2, h3, h4⟩ := I
  refine ⟨k _ _ h1, h2, h3, ?_⟩
  cases e : ox.dict with
  | none => rw [e] at h4; exact h4
  | some dx => rw [e] at h4; exact k _ _ h4
theorem InfAt.keeps {h h' : Heap} {aF aK aN : Addr} (I : InfAt h aF aK aN) (k : h.StaysIn h') : InfAt h' aF aK aN :=
  let ⟨dF, e1, e2, t1, t2, I⟩ := I; ⟨dF, e1, e2, t1, t2, InstAt.keepsB I k⟩

/-- what an entry of the table of unknowns bears -/
def Entry (h : Heap) (o : Option Ty) (v : Value) : Prop := match o with
  | none => v = .none
  | some t => ∃ a, v = .ref a ∧ Rep h a t
theorem Entry.keeps {h h' : Heap} {o : Option Ty} {v : Value} (e : Entry h o v) (k : h.StaysIn h') : Entry h' o v := by
  cases o with
  | none => exact e
  | some t => obtain ⟨a, e1, e2⟩ := e; exact ⟨a, e1, e2.keeps k⟩
/-- the table of unknowns -/
def Known (h : Heap) (its : List Value) (σ : Nat → Option Ty) : Prop := its.length = 6 ∧ ∀ i, i < 6 → ∃ v, its[i]? = some v ∧ Entry h (σ i) v
theorem Known.keeps {h h' : Heap} {its : List Value} {σ : Nat → Option Ty} (K : Known h its σ) (k : h.StaysIn h') : Known h' its σ :=
  ⟨K.1, fun i hi => let ⟨v, e1, e2⟩ := K.2 i hi; ⟨v, e1, e2.keeps k⟩⟩

/-- where a type leads, by how many steps at most -/
inductive RootN (σ : Nat → Option Ty) : Nat → Ty → Ty → Prop
  | stop {n i : Nat} : i < 6 → σ i = none → RootN σ n (.v i) (.v i)
  | step {n i : Nat} {t r : Ty} : i < 6 → σ i = some t → RootN σ n t r → RootN σ (n + 1) (.v i) r
  | base {n : Nat} {t : Ty} : (∀ i, t ≠ .v i) → RootN σ n t t

theorem item_listB {prog : Program} {w : World} {A : Around} {s : Shared} {E : Value → Shared → Prop} {value slice : PySem.Expr} {l : Addr} {vs : List Value} {k : Int} {u : Tok} {v : Value} {Q : Value → Shared → Prop}
    (hl : s.heap.IsList l vs.toArray) (h0 : 0 ≤ k) (hhi : k < 2 ^ 63) (hx : vs[k.toNat]? = some v) (h : Q v s)
    (hs : subscripted slice false (.ref l) (.int k u) = operate [.ref l, .int k u] (getItem (.ref l) (.int k u))) :
    wpAny (model prog w) A (subscriptTail value slice (.ref l) (.int k u)) Q E s :=
  tail_any hl.typeIs slot_list_getitem.lookup (wpAny_getItem_list hl h0 hhi (by simpa using hx) h) hs
theorem rowsS2_0 : True := by
  k_with_none
  k_with "mine enter" => (
    (case ho => k_is); (case hcd => k_is); (case hroom => exact Nat.le_of_ble_eq_true rfl)
    (case hbind => first | exact binds_K (by k_in) rfl (by k_is) rfl rfl rfl | exact BindsTo.of_eq rfl)
    (case hloc => exact locs rfl)
    (case c1 => decide); (case c2 => rfl); (case c3 => rfl); (case c4 => rfl))
  k_with "mine le" => (exact Nat.le_of_ble_eq_true rfl)
  k_with "subscriptTail" => (k_here; (with_reducible show wpAny _ _ (subscriptTail _ _ (Value.ref _) (Value.int _ _)) _ _ _); k_dflt (refine item_tupleT (by is_tup) (by decide) (by decide) (by rfl) (by rfl) ?_; k_whole))
  k_with "subscriptTail" => (k_here; (with_reducible show wpAny _ _ (subscriptTail _ _ (Value.ref _) (Value.int _ _)) _ _ _); k_dflt (refine item_listB (by is_list) (by omega) (by omega) (by assumption) ?_ (by with_unfolding_all rfl); k_whole))
  k_with "k_inst" => (exact InstAt.keepsB (by assumption) (Fr.keep (by assumption)))
  trivial
theorem Fr.putR {g h : Heap} {L : Addr} {m : Str → Option Value} {x : Str} {v : Value} (F : Fr g L h m) (e : m x = some v) : Fr g L h (fun y => if y = x then some v else m y) := by
  have : (fun y => if y = x then some v else m y) = m := by
    funext y
    by_cases q : y = x
    · rw [if_pos q, q, e]
    · rw [if_neg q]
  rw [this]; exact F
theorem Fr.putP {g h : Heap} {L : Addr} {m : Str → Option Value} {x : Str} {b c : Value} (F : Fr g L h (fun y => if y = x then some c else (fun y => if y = x then some b else m y) y)) : Fr g L h (fun y => if y = x then some c else m y) := by
  have : (fun y => if y = x then some c else m y) = (fun y => if y = x then some c else (fun y => if y = x then some b else m y) y) := by
    funext y
    by_cases q : y = x <;> simp [q]
  rw [this]; exact F
section
variable {prog : Program} {w : World} {A : Around} {E : Value → Shared → Prop} {Q : Flow → Shared → Prop} {s : Shared} {env : Env} {g : Heap} {L : Addr}
def TurnOne (g : Heap) (L : Addr) (s : Shared) (m₀ : Str → Option Value) (x : Str) (P : Nat → Value → Prop) (n : Nat) (f : Flow) (s₃ : Shared) : Prop :=
  f = .next ∧ ∃ h' tk c n', s₃ = { s with heap := h', toks := tk } ∧ Fr g L h' (fun y => if y = x then some c else m₀ y) ∧ n' < n ∧ P n' c
/-- a loop that turns one name alone and makes nothing that is kept -/
theorem While_one {test : PySem.Expr} {body : List Stmt} {pos : Pos} {m₀ : Str → Option Value} {x : Str} {v₀ : Value} {n₀ : Nat} (P : Nat → Value → Prop)
    (F : Fr g L s.heap (fun y => if y = x then some v₀ else m₀ y)) (N : News g L s.heap []) (h0 : P n₀ v₀)
    (turn : ∀ n v h₁ tk₁, Fr g L h₁ (fun y => if y = x then some v else m₀ y) → News g L h₁ [] → P n v →
      wpAny (model prog w) A (isTrue test env (eval test env)) (fun b s₂ =>
        if b = true then wpAny (model prog w) A (execs body env) (TurnOne g L s m₀ x P n) E s₂ else Q .next s₂) E { s with heap := h₁, toks := tk₁ })
    (hE : PassesOwn (model prog w) A env E := by passes_own) :
    wpAny (model prog w) A (exec (.While test body [] pos) env) Q E s := by
  refine While_inv (n₀ := n₀) (fun n m news => news = [] ∧ ∃ v, m = (fun y => if y = x then some v else m₀ y) ∧ P n v) F N ⟨rfl, _, rfl, h0⟩ ?_ hE
  rintro n m₁ news₁ h₁ tk₁ F₁ N₁ ⟨rfl, v, rfl, hP⟩
  refine wpAny_mono (turn n v h₁ tk₁ F₁ N₁ hP) (fun b s₂ hb => ?_) fun _ _ e => e
  cases b with
  | false => exact hb
  | true =>
    simp only [if_true] at hb ⊢
    refine wpAny_mono hb (fun f s₃ h₃ => ?_) fun _ _ e => e
    obtain ⟨rfl, h', tk, c, n', rfl, F', hn, hP'⟩ := h₃
    exact WhileStep.intro F' News.nil hn ⟨rfl, c, rfl, hP'⟩
end

theorem shallow_spec {prog : Program} {w : World} {mg mb : Str → Option Value} {s : Shared} {g₀ : Heap} (st : g₀.StaysIn s.heap) (G : G0 w mg mb g₀) {aF aK aN a : Addr} {its : List Value} {n : Nat} {σ : Nat → Option Ty} {t r : Ty}
    (I : InfAt g₀ aF aK aN) (hK : s.heap.IsList aK its.toArray) (Kn : Known g₀ its σ) (ha : Rep g₀ a t) (hr : RootN σ n t r) {Q E : Value → Shared → Prop}
    (hQ : ∀ b h' tk', s.heap.StaysIn h' → Rep g₀ b r → Q (.ref b) { s with heap := h', toks := tk' }) :
    wpAny (model prog w) (AR 850) (PySem.call (.ref 109) [.ref aF, .ref a]) Q E s := by
  replace G := G.keeps st
  replace I := I.keeps st
  refine wpAny_call ?_
  have KX := G.X
  have T := G.T
  refine' enter0 G.X G.T.nolimit ?ho ?hcd ?hroom ?hbind ?hloc ?_ ?c1 ?c2 ?c3 ?c4
  walk_at "mine enter"
  intro L h₁ F N
  clear G
  obtain ⟨dF, e1, e2, t1, t2, I⟩ := I
  replace F := Fr.putR (x := Str.ofString "told") F rfl
  refine wpAny_execs_cons ?_
  refine While_one (n₀ := n) (fun n v => ∃ b t', v = .ref b ∧ Rep g₀ b t' ∧ RootN σ n t' r) F N ⟨a, t, rfl, ha, hr⟩ ?_
  rintro n' _ h₂ tk₂ F₂ N₂ ⟨b, t', rfl, hb, hr'⟩
  clear F N ha hr
  revert hr'
  have hb₀ := hb
  refine hb.cases (P := fun t' => RootN σ n' t' r → _) ?_ ?_ ?_ ?_ ?_ ?_
  · intro i tk u q e₀ hr'
    have e := isTup_keeps e₀ st
    cases hr' with
    | stop hi hs => 
      obtain ⟨v, hv, hv'⟩ := Kn.2 i hi
      rw [hs] at hv'
      obtain rfl : v = .none := hv'
      have hv2 : its[((i : Nat) : Int).toNat]? = some .none := by simpa using hv
      k_steps
      (with_reducible rename Fr _ _ _ _ => F1)
      exact hQ _ _ _ F1.keep ⟨_, e₀, by simp [Ty.Items, varName, q]⟩
    | step hi hs hr'' => 
      obtain ⟨v, hv, hv'⟩ := Kn.2 i hi
      rw [hs] at hv'
      obtain ⟨c, rfl, hc⟩ := hv'
      have hv2 : its[((i : Nat) : Int).toNat]? = some (.ref c) := by simpa using hv
      k_steps
      (with_reducible rename Fr _ _ _ _ => F1)
      exact ⟨rfl, _, _, _, _, rfl, (Fr.putP F1), Nat.lt_succ_self _, c, _, rfl, hc, hr''⟩
    | base hn => exact absurd rfl (hn i)
  · intro i tk u q e₀ hr'
    have e := isTup_keeps e₀ st
    cases hr' with
    | stop hi hs => 
      obtain ⟨v, hv, hv'⟩ := Kn.2 i hi
      rw [hs] at hv'
      obtain rfl : v = .none := hv'
      have hv2 : its[((i : Nat) : Int).toNat]? = some .none := by simpa using hv
      k_steps
      (with_reducible rename Fr _ _ _ _ => F1)
      exact hQ _ _ _ F1.keep ⟨_, e₀, by simp [Ty.Items, varName, q]⟩
    | step hi hs hr'' => 
      obtain ⟨v, hv, hv'⟩ := Kn.2 i hi
      rw [hs] at hv'
      obtain ⟨c, rfl, hc⟩ := hv'
      have hv2 : its[((i : Nat) : Int).toNat]? = some (.ref c) := by simpa using hv
      k_steps
      (with_reducible rename Fr _ _ _ _ => F1)
      exact ⟨rfl, _, _, _, _, rfl, (Fr.putP F1), Nat.lt_succ_self _, c, _, rfl, hc, hr''⟩
    | base hn => exact absurd rfl (hn i)
  · intro tk u e₀ hr'
    have e := isTup_keeps e₀ st
    cases hr'
    k_steps
    (with_reducible rename Fr _ _ _ _ => F1)
    exact hQ _ _ _ F1.keep ⟨_, e₀, _, _, rfl⟩
  · intro tk u e₀ hr'
    have e := isTup_keeps e₀ st
    cases hr'
    k_steps
    (with_reducible rename Fr _ _ _ _ => F1)
    exact hQ _ _ _ F1.keep ⟨_, e₀, _, _, rfl⟩
  · intro tk e₀ hr'
    have e := isTup_keeps e₀ st
    cases hr'
    k_steps
    (with_reducible rename Fr _ _ _ _ => F1)
    exact hQ _ _ _ F1.keep ⟨_, e₀, _, rfl⟩
  · intro tk u e₀ hr'
    have e := isTup_keeps e₀ st
    cases hr'
    k_steps
    (with_reducible rename Fr _ _ _ _ => F1)
    exact hQ _ _ _ F1.keep ⟨_, e₀, _, _, rfl⟩
end PartS2
section PartS3
theorem rowsS3_0 : True := by
  k_with_none
  k_with "mine enter" => (
    (case ho => k_is); (case hcd => k_is); (case hroom => exact Nat.le_of_ble_eq_true rfl)
    (case hbind => first | exact binds_K (by k_in) rfl (by k_is) rfl rfl rfl | exact BindsTo.of_eq rfl)
    (case hloc => exact locs rfl)
    (case c1 => decide); (case c2 => rfl); (case c3 => rfl); (case c4 => rfl))
  k_with "mine le" => (exact Nat.le_of_ble_eq_true rfl)
  k_with "subscriptTail" => (k_here; (with_reducible show wpAny _ _ (subscriptTail _ _ (Value.ref _) (Value.int _ _)) _ _ _); k_dflt (refine item_tupleT (by is_tup) (by decide) (by decide) (by rfl) (by rfl) ?_; k_whole))
  k_with "subscriptTail" => (k_here; (with_reducible show wpAny _ _ (subscriptTail _ _ (Value.ref _) (Value.int _ _)) _ _ _); k_dflt (refine item_listB (by is_list) (by omega) (by omega) (by assumption) ?_ (by with_unfolding_all rfl); k_whole))
  k_with "k_inst" => (exact InstAt.keepsB (by assumption) (Fr.keep (by assumption)))
  k_with "mine enterC" => (
    (case ho => k_is); (case hcd => k_is); (case hroom => exact Nat.le_of_ble_eq_true rfl)
    (case hbind => first | exact binds_K (by k_in) rfl (by k_is) rfl rfl rfl | exact BindsTo.of_eq rfl)
    (case hkind => exact rfl); (case hnd => decide +kernel)
    (case c2 => rfl); (case c3 => rfl); (case c4 => rfl))
  trivial
noncomputable def AllNe (b : Addr) : List (Addr × Obj) → Prop
  | [] => True
  | p :: r => @Ne Nat p.1 b ∧ AllNe b r
theorem allNe_of {g h : Heap} {L b : Addr} {news : List (Addr × Obj)} (N : News g L h news) (hn : h.get? b = none) : AllNe b news := by
  have key : ∀ l : List (Addr × Obj), (∀ p ∈ l, h.get? p.1 = some p.2) → AllNe b l := by
    intro l
    induction l with
    | nil => intro _; exact trivial
    | cons p r ih =>
      intro hl
      refine ⟨fun e => ?_, ih fun q hq => hl q (.tail _ hq)⟩
      have := hl p (.head _)
      rw [show p.1 = b from e, hn] at this; cases this
  exact key news fun p hp => (N p hp).1
section
variable {prog : Program} {w : World} {mg mb : Str → Option Value} {A : Around} {s : Shared} {g : Heap} {L : Addr} {m : Str → Option Value} {news : List (Addr × Obj)} {aF aK aN a b : Addr} {its : List Value} {n : Nat} {σ : Nat → Option Ty} {t r : Ty} {Q E : Value → Shared → Prop}
theorem shallow_call {g₀ : Heap} (F : Fr g L s.heap m) (N : News g L s.heap news) (st : g₀.StaysIn g) (G : G0 w mg mb g₀) (I : InfAt g₀ aF aK aN) (hK : s.heap.IsList aK its.toArray) (Kn : Known g₀ its σ) (ha : Rep g₀ a t) (hr : RootN σ n t r)
    (hh : A.handled = none) (hd : A.depth ≤ 850) (hu : A.units ≤ 850)
    (k : ∀ b h' tk', Fr g L h' m → News g L h' news → Rep g₀ b r → Rep g b r → Q (.ref b) { s with heap := h', toks := tk' }) :
    wpAny (model prog w) A (PySem.call (.ref 109) [.ref aF, .ref a]) Q E s :=
  lift (shallow_spec (fun b o e => F.keep b o (st b o e)) G I hK Kn ha hr fun b h' tk' x rb => k b h' tk' (fr_grow F x) (news_grow N x) rb (rb.keeps st)) hh hd hu
theorem parts_call (F : Fr g L s.heap m) (N : News g L s.heap news) (G : G0 w mg mb g) (ha : Rep g a t)
    (hh : A.handled = none) (hd : A.depth ≤ 900) (hu : A.units ≤ 900)
    (k : ∀ b h' tk', Fr g L h' m → News g L h' ((b, { cls := .type "tuple", data := .seq ([] : List Value).toArray }) :: news) → AllNe b news → Q (.ref b) { s with heap := h', toks := tk' }) :
    wpAny (model prog w) A (PySem.call (.ref 54) [.ref a]) Q E s :=
  lift (parts_spec (G.keeps F.keep) (ha.keeps F.keep) fun b h' tk' st e hn => k b h' tk' (fr_grow F st) (news_more F N st e hn) (allNe_of N hn)) hh hd hu
theorem rebuilt_call (F : Fr g L s.heap m) (N : News g L s.heap news) (G : G0 w mg mb g) (ha : Rep g a t)
    (hh : A.handled = none) (hd : A.depth ≤ 900) (hu : A.units ≤ 900)
    (k : ∀ h' tk', Fr g L h' m → News g L h' news → Q (.ref a) { s with heap := h', toks := tk' }) :
    wpAny (model prog w) A (PySem.call (.ref 61) [.ref a, .ref b]) Q E s :=
  lift (rebuilt_spec (G.keeps F.keep) (ha.keeps F.keep) fun h' tk' st => k h' tk' (fr_grow F st) (news_grow N st)) hh hd hu
end
section
variable {prog : Program} {w : World} {A : Around} {s : Shared} {g : Heap} {L b : Addr} {m : Str → Option Value} {news : List (Addr × Obj)} {E Q : Value → Shared → Prop} {env : Env} {scope : Scope} {cl : List (Str × Addr)} {x : Str} {ifs : List PySem.Expr} {elt : PySem.Expr}
/-- a comprehension over the empty tuple -/
theorem comp_empty (F : Fr g L s.heap m) (N : News g L s.heap news) (hb : s.heap.IsTuple b #[]) (hh : A.handled = none)
    (k : ∀ D h' tk', Fr g L h' m → News g L h' news → Q (.ref D) { s with heap := h', toks := tk' }) :
    wpAny (model prog w) A (pyIter (.ref b)) (fun it s₂ => ∃ I fp wr n P St, it = .ref I ∧ Walks prog w A I fp wr n P St ∧ n ≤ sizeLine ∧ St 0 s₂.heap ∧ (∀ b ∈ fp, b < s₂.heap.objs.size) ∧
      QuietOnC prog w A env scope cl x ifs elt wr P (fun _ => true) (fun _ _ => True) s₂ ∧
      (∀ D h' tk ys (vs : List Value), s₂.heap.get? D = none → h'.IsList D ys → h'.PlainList D ys → vs.length = n → (∀ j v, vs[j]? = some v → P j v) → Paired (fun _ _ => True) (vs.filter (fun _ => true)) ys.toList →
        (∀ b o, b ∉ wr → s₂.heap.get? b = some o → h'.get? b = some o) → Q (.ref D) { s₂ with heap := h', toks := tk })) E s := by
  obtain ⟨ob, hob, _⟩ := id hb
  have hlt := Heap.lt_size hob
  refine wpAny_pyIter_tuple hb ⟨s.heap.objs.size, _, [s.heap.objs.size], _, _, _, rfl, Walks.tuple hh s.heap.objs.size b (Nat.ne_of_lt hlt) #[], Nat.zero_le _, ⟨⟨_, Heap.get?_push_size _ rfl, rfl, rfl⟩, ?_⟩, ?_, ?_, ?_⟩
  · obtain ⟨o, e, r⟩ := hb; exact ⟨o, Heap.get?_push_of_some _ e, r⟩
  · intro c hc
    rw [Heap.size_push]
    rcases List.mem_cons.mp hc with rfl | hc
    · exact Nat.lt_succ_self _
    · rcases List.mem_singleton.mp hc with rfl; exact Nat.lt_succ_of_lt hlt
  · exact ⟨fun C i v s₃ m₃ E' _ hP => by simp at hP, fun C i v s₃ m₃ E' _ hP => by simp at hP⟩
  · intro D h' tk ys vs hD _ _ _ _ _ hk
    have st : s.heap.StaysIn h' := fun c o e => hk c o (by simp; exact Nat.ne_of_lt (Heap.lt_size e)) (Heap.get?_push_of_some _ e)
    exact k D h' tk (fr_grow F st) (news_grow N st)
def EmptySrc (g : Heap) (L : Addr) (Q : Value → Shared → Prop) (xv : Value) (s₁ : Shared) : Prop :=
  ∃ b m news, xv = .ref b ∧ Fr g L s₁.heap m ∧ News g L s₁.heap news ∧ s₁.heap.IsTuple b #[] ∧ ∀ D h' tk', Fr g L h' m → News g L h' news → Q (.ref D) { s₁ with heap := h', toks := tk' }
theorem EmptySrc.intro {s₁ : Shared} (F : Fr g L s₁.heap m) (N : News g L s₁.heap news) (hb : IsTup s₁.heap b #[]) (k : ∀ D h' tk', Fr g L h' m → News g L h' news → Q (.ref D) { s₁ with heap := h', toks := tk' }) : EmptySrc g L Q (.ref b) s₁ :=
  ⟨b, m, news, rfl, F, N, hb, k⟩
theorem ListComp_empty {iter : PySem.Expr} {px pos : Pos} (_F : Fr g L s.heap m) (hh : A.handled = none)
    (hclos : closureFor scope env = pure cl) (hcell : ∀ y ∈ scope.names, y.2 ≠ .cell) (hkind : scope.kind = .function)
    (hnames : ∀ y ∈ scope.names, y.2 = .local → scope.names.lookup y.1 = some .local) (hx : scope.names.lookup x = some .local)
    (h : wpAny (model prog w) A (eval iter env) (EmptySrc g L Q) E s) (hs : ∀ x, foldedSetIterable iter env x = pure x) :
    wpAny (model prog w) A (eval (.ListComp elt [⟨.Name x px, iter, ifs, 0⟩] scope pos) env) Q E s := by
  refine wpAny_ListComp_free (fun _ => true) (fun _ _ => True) hclos hcell hkind hnames hx (wpAny_mono h (fun xv s₁ h₁ => ?_) fun _ _ e => e) hs
  obtain ⟨b, m, news, rfl, F, N, hb, k⟩ := h₁
  exact comp_empty F N hb hh k
end
theorem rowsS3_1 : True := by
  k_with "mine around" => ((case hh => rfl); (case hd => exact Nat.le_of_ble_eq_true rfl); (case hu => exact Nat.le_of_ble_eq_true rfl))
  k_with "call ref" => (k_here; (with_reducible show wpAny _ _ (PySem.call (Value.ref 109) _) _ _ _); k_dflt (refine shallow_call (by k_asm) (by k_asm) (by first | assumption | exact fun b o e => e) (by assumption) (by assumption) (by is_list) (by assumption) (by assumption) (by assumption) (by rfl) (by walk_at "mine le") (by walk_at "mine le") ?_; k_whole); intro _ _ _ _ _ _ _)
  k_with "call ref" => (k_here; (with_reducible show wpAny _ _ (PySem.call (Value.ref 54) _) _ _ _); k_dflt (refine parts_call (by k_asm) (by k_asm) (by assumption) (by assumption) (by rfl) (by walk_at "mine le") (by walk_at "mine le") ?_; k_whole); intro _ _ _ _ _ l1; (try dsimp only [AllNe] at l1))
  k_with "call ref" => (k_here; (with_reducible show wpAny _ _ (PySem.call (Value.ref 61) _) _ _ _); k_dflt (refine rebuilt_call (by k_asm) (by k_asm) (by assumption) (by assumption) (by rfl) (by walk_at "mine le") (by walk_at "mine le") ?_; k_whole); intro _ _ _ _)
  k_with "eval ListComp" => (k_here; (with_reducible rename Fr _ _ _ _ => kF); k_dflt (refine ListComp_empty kF (by rfl) (by rfl) (by decide) (by rfl) (by decide) (by rfl) ?_ (by intro _; rfl)))
  k_with "EmptySrc" => (k_here; k_dflt (refine EmptySrc.intro (by k_asm) (by k_asm) (by is_tup) ?_; k_whole); intro _ _ _ _ _)
  trivial
theorem resolved_spec {prog : Program} {w : World} {mg mb : Str → Option Value} {s : Shared} {g₀ : Heap} (st : g₀.StaysIn s.heap) (G : G0 w mg mb g₀) {aF aK aN a : Addr} {its : List Value} {n : Nat} {σ : Nat → Option Ty} {t r : Ty}
    (I : InfAt g₀ aF aK aN) (hK : s.heap.IsList aK its.toArray) (Kn : Known g₀ its σ) (ha : Rep g₀ a t) (hr : RootN σ n t r) {Q E : Value → Shared → Prop}
    (hQ : ∀ b h' tk', s.heap.StaysIn h' → Rep g₀ b r → Q (.ref b) { s with heap := h', toks := tk' }) :
    wpAny (model prog w) (AR 800) (PySem.call (.ref 114) [.ref aF, .ref a]) Q E s := by
  have G' := G.keeps st
  have I' := I.keeps st
  refine wpAny_call ?_
  have KX := G'.X
  have T := G'.T
  refine' enter0C G'.X G'.T.nolimit ?ho ?hcd ?hroom ?hbind ?hkind ?hnd ?_ ?c2 ?c3 ?c4
  walk_at "mine enterC"
  intro L h₁ tk cells F N Y
  k_cells Y
  obtain ⟨dF, e1, e2, t1, t2, I'⟩ := I'
  k_steps
  (with_reducible rename Fr _ _ _ _ => F1); (rename Rep g₀ _ _ => R1)
  exact hQ _ _ _ F1.keep R1
end PartS3
open PySem.Spec
section PartS4

def Ty.data : Ty → PyData
  | .v n => .tuple [.str (varName n), .int n]
  | .u8 => .tuple [.str "int", .str "u8"]
  | .i32 => .tuple [.str "int", .str "i32"]
  | .bool => .tuple [.str "bool"]
  | .par => .tuple [.str "param", .str "X"]
theorem readsAll_one {h : Heap} {v : Value} {d : PyData} (r : Reads h v d []) : ReadsAll h [v] [d] [] := .cons (as := []) (bs := []) r .nil
theorem readsAll_two {h : Heap} {v v' : Value} {d d' : PyData} (r : Reads h v d []) (r' : Reads h v' d' []) : ReadsAll h [v, v'] [d, d'] [] := .cons (as := []) (bs := []) r (readsAll_one r')
theorem Rep.reads {h : Heap} {a : Addr} {t : Ty} (r : Rep h a t) : Reads h (.ref a) t.data [] := by
  obtain ⟨l, ⟨o, ho, hc, n, hd⟩, i⟩ := r
  cases t with
  | v n => obtain ⟨tk, u, rfl⟩ := i; exact .tuple ho hc hd (readsAll_two (.str _ _) (.int _ _))
  | u8 => obtain ⟨tk, u, rfl⟩ := i; exact .tuple ho hc hd (readsAll_two (.str _ _) (.str _ _))
  | i32 => obtain ⟨tk, u, rfl⟩ := i; exact .tuple ho hc hd (readsAll_two (.str _ _) (.str _ _))
  | bool => obtain ⟨tk, rfl⟩ := i; exact .tuple ho hc hd (readsAll_one (.str _ _))
  | par => obtain ⟨tk, u, rfl⟩ := i; exact .tuple ho hc hd (readsAll_two (.str _ _) (.str _ _))
theorem varName_cases (n : Nat) : varName n = "var" ∨ varName n = "intvar" := by
  unfold varName; split <;> simp
theorem Ty.canLay (t : Ty) : t.data.canLay0 = true := by
  cases t with
  | v n => rcases varName_cases n with e | e <;> simp only [Ty.data, e] <;> kernel_rfl
  | _ => decide +kernel
theorem Ty.depth (t : Ty) : t.data.depth ≤ 1 := by
  cases t <;> simp [Ty.data, PyData.depth, PyData.depthAll]
theorem Ty.shaped (t : Ty) : SeqAt.shaped t.data = true := by
  unfold SeqAt.shaped
  rw [t.canLay, Bool.true_and]
  exact decide_eq_true (Nat.le_trans t.depth (by decide))
theorem Ty.eqv (t r : Ty) : PyData.eqv t.data r.data = decide (t = r) := by
  cases t with
  | v n =>
    cases r with
    | v k =>
      simp only [Ty.data, PyData.eqv, PyData.eqvAll, Bool.and_true]
      by_cases q : n = k
      · subst q; simp
      · have : ((n : Int) == (k : Int)) = false := by simp; omega
        simp [this, q]
    | _ => rcases varName_cases n with e | e <;> simp only [Ty.data, e] <;> simp [PyData.eqv, PyData.eqvAll] <;> decide +kernel
  | _ =>
    cases r with
    | v k => rcases varName_cases k with e | e <;> simp only [Ty.data, e] <;> simp [PyData.eqv, PyData.eqvAll] <;> decide +kernel
    | _ => decide +kernel

/-- a list's items bear types -/
inductive Reps (h : Heap) : List Value → List Ty → Prop
  | nil : Reps h [] []
  | cons {a : Addr} {t : Ty} {vs : List Value} {ts : List Ty} : Rep h a t → Reps h vs ts → Reps h (.ref a :: vs) (t :: ts)
theorem Reps.keeps {h h' : Heap} {vs : List Value} {ts : List Ty} (r : Reps h vs ts) (k : h.StaysIn h') : Reps h' vs ts := by
  induction r with
  | nil => exact .nil
  | cons e _ ih => exact .cons (e.keeps k) ih
theorem Reps.reads {h : Heap} {vs : List Value} {ts : List Ty} (r : Reps h vs ts) : ReadsAll h vs (ts.map Ty.data) [] := by
  induction r with
  | nil => exact .nil
  | cons e _ ih => exact .cons (as := []) (bs := []) e.reads ih
theorem Reps.length {h : Heap} {vs : List Value} {ts : List Ty} (r : Reps h vs ts) : vs.length = ts.length := by
  induction r with
  | nil => rfl
  | cons _ _ ih => simp [ih]
theorem Reps.get {h : Heap} {vs : List Value} {ts : List Ty} (r : Reps h vs ts) {j : Nat} {t : Ty} (e : ts[j]? = some t) : ∃ a, vs[j]? = some (.ref a) ∧ Rep h a t := by
  induction r generalizing j with
  | nil => simp at e
  | cons q _ ih =>
    cases j with
    | zero => simp at e; subst e; exact ⟨_, rfl, q⟩
    | succ j => simp at e ⊢; exact ih e
theorem canLayAll (ts : List Ty) : PyData.canLayAll0 (ts.map Ty.data) = true := by
  induction ts with
  | nil => rfl
  | cons t ts ih => simp only [List.map_cons, PyData.canLayAll0, t.canLay, ih, Bool.and_self]
theorem depthAll (ts : List Ty) : PyData.depthAll (ts.map Ty.data) ≤ 2 := by
  induction ts with
  | nil => simp [PyData.depthAll]
  | cons t ts ih => have := t.depth; simp only [List.map_cons, PyData.depthAll]; omega
theorem shapedL (ts : List Ty) : SeqAt.shaped (.list (ts.map Ty.data)) = true := by
  unfold SeqAt.shaped
  have := depthAll ts
  simp only [PyData.canLay0, PyData.depth, canLayAll, Bool.true_and]
  exact decide_eq_true (by omega)
theorem eqvAll_is : ∀ ts us : List Ty, PyData.eqvAll (ts.map Ty.data) (us.map Ty.data) = decide (ts = us)
  | [], [] => rfl
  | [], _ :: _ => by simp [PyData.eqvAll]
  | _ :: _, [] => by simp [PyData.eqvAll]
  | t :: ts, u :: us => by
    simp only [List.map_cons, PyData.eqvAll, t.eqv, eqvAll_is ts us, List.cons.injEq, Bool.decide_and]
theorem any_is (ts : List Ty) (t : Ty) : ((ts.map Ty.data).any fun y => PyData.eqv y t.data) = decide (t ∈ ts) := by
  induction ts with
  | nil => simp
  | cons u ts ih =>
    simp only [List.map_cons, List.any_cons, u.eqv, ih, List.mem_cons]
    by_cases q : u = t
    · subst q; simp
    · have : ¬ t = u := fun e => q e.symm
      simp [q, this]

section
variable {prog : Program} {w : World} {A : Around} {E : Value → Shared → Prop} {s : Shared} {a b : Addr} {t r : Ty} {vs us : List Value} {ts rs : List Ty} {Q : Value → Shared → Prop}
theorem eq_rep (ha : Rep s.heap a t) (hb : Rep s.heap b r) (hu : A.units + 64 < cLine) (h : Q (.bool (decide (t = r))) s) : wpAny (model prog w) A (compareOp .Eq (.ref a) (.ref b)) Q E s :=
  eq_dataH ha.reads hb.reads t.shaped r.shaped hu (by rw [Ty.eqv]; exact h)
theorem ne_rep (ha : Rep s.heap a t) (hb : Rep s.heap b r) (hu : A.units + 64 < cLine) (h : Q (.bool (!decide (t = r))) s) : wpAny (model prog w) A (compareOp .NotEq (.ref a) (.ref b)) Q E s :=
  ne_dataH ha.reads hb.reads t.shaped r.shaped hu (by rw [Ty.eqv]; exact h)
theorem isList_reads (hl : s.heap.IsList a vs.toArray) (r : Reps s.heap vs ts) : Reads s.heap (.ref a) (.list (ts.map Ty.data)) [a] := by
  obtain ⟨o, ho, hc, n, hd⟩ := hl
  exact reads_list_at ho hc hd (by simpa using r.reads)
theorem eq_reps (hl : s.heap.IsList a vs.toArray) (r : Reps s.heap vs ts) (hl' : s.heap.IsList b us.toArray) (r' : Reps s.heap us rs) (hu : A.units + 64 < cLine) (h : Q (.bool (decide (ts = rs))) s) :
    wpAny (model prog w) A (compareOp .Eq (.ref a) (.ref b)) Q E s :=
  eq_dataH (isList_reads hl r) (isList_reads hl' r') (shapedL _) (shapedL _) hu (by rw [PyData.eqv, eqvAll_is]; exact h)
theorem ne_reps (hl : s.heap.IsList a vs.toArray) (r : Reps s.heap vs ts) (hl' : s.heap.IsList b us.toArray) (r' : Reps s.heap us rs) (hu : A.units + 64 < cLine) (h : Q (.bool (!decide (ts = rs))) s) :
    wpAny (model prog w) A (compareOp .NotEq (.ref a) (.ref b)) Q E s :=
  ne_dataH (isList_reads hl r) (isList_reads hl' r') (shapedL _) (shapedL _) hu (by rw [PyData.eqv, eqvAll_is]; exact h)
theorem in_reps (hl : s.heap.IsList a vs.toArray) (r : Reps s.heap vs ts) (hb : Rep s.heap b t) (hu : A.units + 64 < cLine) (h : Q (.bool (decide (t ∈ ts))) s) :
    wpAny (model prog w) A (compareOp .In (.ref b) (.ref a)) Q E s := by
  refine SeqAt.in_list_reads (isList_reads hl r) hb.reads (canLayAll _) t.canLay ?_ (by rw [any_is]; exact h)
  have := Nat.min_le_left (PyData.depthAll (ts.map Ty.data)) t.data.depth
  have := depthAll ts
  omega
end
end PartS4
section PartS5
theorem rowsS5_0 : True := by
  k_with_none
  k_with "mine enter" => (
    (case ho => k_is); (case hcd => k_is); (case hroom => exact Nat.le_of_ble_eq_true rfl)
    (case hbind => first | exact binds_K (by k_in) rfl (by k_is) rfl rfl rfl | exact BindsTo.of_eq rfl)
    (case hloc => exact locs rfl)
    (case c1 => decide); (case c2 => rfl); (case c3 => rfl); (case c4 => rfl))
  k_with "mine le" => (exact Nat.le_of_ble_eq_true rfl)
  k_with "subscriptTail" => (k_here; (with_reducible show wpAny _ _ (subscriptTail _ _ (Value.ref _) (Value.int _ _)) _ _ _); k_dflt (refine item_tupleT (by is_tup) (by decide) (by decide) (by rfl) (by rfl) ?_; k_whole))
  k_with "subscriptTail" => (k_here; (with_reducible show wpAny _ _ (subscriptTail _ _ (Value.ref _) (Value.int _ _)) _ _ _); k_dflt (refine item_listB (by is_list) (by omega) (by omega) (by assumption) ?_ (by with_unfolding_all rfl); k_whole))
  k_with "k_inst" => (exact InstAt.keepsB (by assumption) (Fr.keep (by assumption)))
  k_with "mine around" => ((case hh => rfl); (case hd => exact Nat.le_of_ble_eq_true rfl); (case hu => exact Nat.le_of_ble_eq_true rfl))
  k_with "call ref" => (k_here; (with_reducible show wpAny _ _ (PySem.call (Value.ref 109) _) _ _ _); k_dflt (refine shallow_call (by k_asm) (by k_asm) (by first | assumption | exact fun b o e => e) (by assumption) (by assumption) (by is_list) (by assumption) (by assumption) (by assumption) (by rfl) (by walk_at "mine le") (by walk_at "mine le") ?_; k_whole); intro _ _ _ _ _ _ _)
  k_with "call ref" => (k_here; (with_reducible show wpAny _ _ (PySem.call (Value.ref 54) _) _ _ _); k_dflt (refine parts_call (by k_asm) (by k_asm) (by assumption) (by assumption) (by rfl) (by walk_at "mine le") (by walk_at "mine le") ?_; k_whole); intro _ _ _ _ _ l1; (try dsimp only [AllNe] at l1))
  k_with "call ref" => (k_here; (with_reducible show wpAny _ _ (PySem.call (Value.ref 61) _) _ _ _); k_dflt (refine rebuilt_call (by k_asm) (by k_asm) (by assumption) (by assumption) (by rfl) (by walk_at "mine le") (by walk_at "mine le") ?_; k_whole); intro _ _ _ _)
  trivial
section
variable {prog : Program} {w : World} {A : Around} {E : Value → Shared → Prop} {s : Shared} {a b : Addr} {t r : Ty} {x : Value} {Q : Value → Shared → Prop} {g : Heap} {L : Addr} {m : Str → Option Value} {news : List (Addr × Obj)}
theorem neq_lists_one (F : Fr g L s.heap m) (hl : s.heap.IsList a [Value.ref x'].toArray) (r : Rep g x' t) (hl' : s.heap.IsList b ([] : List Value).toArray) (hu : A.units + 64 < cLine) (h : Q (.bool true) s) :
    wpAny (model prog w) A (compareOp .NotEq (.ref a) (.ref b)) Q E s :=
  ne_reps hl (.cons (r.keeps F.keep) .nil) hl' .nil hu (by simpa using h)
theorem neq_lists_nil (hl : s.heap.IsList a ([] : List Value).toArray) (hl' : s.heap.IsList b ([] : List Value).toArray) (hu : A.units + 64 < cLine) (h : Q (.bool false) s) :
    wpAny (model prog w) A (compareOp .NotEq (.ref a) (.ref b)) Q E s :=
  ne_reps hl .nil hl' .nil hu (by simpa using h)
theorem eq_rep_not (F : Fr g L s.heap m) (ha : Rep g a t) (hb : Rep g b r) (hne : t ≠ r) (hu : A.units + 64 < cLine) (h : Q (.bool false) s) : wpAny (model prog w) A (compareOp .Eq (.ref a) (.ref b)) Q E s :=
  eq_rep (ha.keeps F.keep) (hb.keeps F.keep) hu (by rw [decide_eq_false hne]; exact h)
theorem eq_rep_same (F : Fr g L s.heap m) (ha : Rep g a t) (hb : Rep g b t) (hu : A.units + 64 < cLine) (h : Q (.bool true) s) : wpAny (model prog w) A (compareOp .Eq (.ref a) (.ref b)) Q E s :=
  eq_rep (ha.keeps F.keep) (hb.keeps F.keep) hu (by rw [decide_eq_true rfl]; exact h)
end
theorem rowsS5_1 : True := by
  k_with "compareOp Eq ref ref" => (k_here; k_dflt (refine eq_rep_not (by k_asm) (by assumption) (by assumption) (by assumption) (by walk_at "mine le") ?_; k_whole))
  k_with "compareOp NotEq ref ref" => (k_here; k_dflt (refine neq_lists_one (by k_asm) (by is_list) (by assumption) (by is_list) (by walk_at "mine le") ?_; k_whole))
  k_with "compareOp NotEq ref ref" => (k_here; k_dflt (refine neq_lists_nil (by is_list) (by is_list) (by walk_at "mine le") ?_; k_whole))
  trivial
section
variable {prog : Program} {w : World} {A : Around} {E : Value → Shared → Prop} {s : Shared} {h₀ : Heap} {L D b : Addr} {m : Str → Option Value} {news news' : List (Addr × Obj)} {its : Array Value} {n : Nat}
/-- a list takes in the empty tuple -/
theorem ext_tup {Q : Value → Shared → Prop} (F : Fr h₀ L s.heap m) (N : News h₀ L s.heap news) (hb : (b, ({ cls := .type "tuple", data := .seq ([] : List Value).toArray } : Obj)) ∈ news)
    (U : Upd D (W.listOf its n) (W.listOf its n) news news') (hd : ¬(!its.isEmpty && Builtin.List.listTooLong (its.size + 0)) = true) (hz : its.size ≤ sizeLine) (hz2 : its.size + 0 ≤ sizeLine + 1)
    (h : ∀ h', Fr h₀ L h' m → News h₀ L h' news' → Q .none { s with heap := h' }) : wpAny (model prog w) A (PySem.call (.builtin "list.extend") [.ref D, .ref b]) Q E s := by
  obtain ⟨pre, post, rfl, rfl, a, c⟩ := U.split
  have z := N (D, W.listOf its n) (List.mem_append.mpr (.inr (.head _)))
  exact call_meets PySem.F.slot_list_extend ⟨_, z.1, rfl⟩ PySem.F.entry_list_extend (PySem.F.args_list_extend_2 _ _) (PySem.AutoSeq1.list_extend_list_tuple_0 D its n b #[] 0 hd hz hz2) ⟨z.1, (N _ hb).1, h _ (F.change (Heap.SameBut.update ..) z.2.1 z.2.2) (kl_turn0 (fun x => x ++ #[]) N a c (by simp) rfl)⟩
end
theorem rowsS5_2 : True := by
  k_with "call builtin:list.extend" => (k_here; (with_reducible show wpAny _ _ (PySem.call (Value.builtin _) [Value.ref _, Value.ref _]) _ _ _); k_dflt (refine ext_tup (by k_asm) (by k_asm) (by k_mem) (by k_upd) (by kl_no) (by walk_at "mine le") (by walk_at "mine le") ?_); intro _ _ N'; (try dsimp only at N'))
  trivial
theorem occurs_spec {prog : Program} {w : World} {mg mb : Str → Option Value} {s : Shared} {g₀ : Heap} (st : g₀.StaysIn s.heap) (G : G0 w mg mb g₀) {aF aK aN a b : Addr} {its : List Value} {n : Nat} {σ : Nat → Option Ty} {t u : Ty}
    (I : InfAt g₀ aF aK aN) (hK : s.heap.IsList aK its.toArray) (Kn : Known g₀ its σ) (ha : Rep g₀ a u) (hb : Rep g₀ b t) (hr : RootN σ n t t) (hne : t ≠ u) {Q E : Value → Shared → Prop}
    (hQ : ∀ h' tk', s.heap.StaysIn h' → Q (.bool false) { s with heap := h', toks := tk' }) :
    wpAny (model prog w) (AR 800) (PySem.call (.ref 121) [.ref aF, .ref a, .ref b]) Q E s := by
  have G' := G.keeps st
  have I' := I.keeps st
  refine wpAny_call ?_
  have KX := G'.X
  have T := G'.T
  refine' enter0 G'.X G'.T.nolimit ?ho ?hcd ?hroom ?hbind ?hloc ?_ ?c1 ?c2 ?c3 ?c4
  walk_at "mine enter"
  intro L h₁ F N
  obtain ⟨dF, e1, e2, t1, t2, I'⟩ := I'
  have hb' := hb.keeps st
  have ha' := ha.keeps st
  k_steps
  (with_reducible rename Fr _ _ _ _ => F1)
  exact hQ _ _ F1.keep

section
variable {prog : Program} {w : World} {mg mb : Str → Option Value} {A : Around} {s : Shared} {g : Heap} {L : Addr} {m : Str → Option Value} {news : List (Addr × Obj)} {aF aK aN a b : Addr} {its : List Value} {n : Nat} {σ : Nat → Option Ty} {t r : Ty} {Q E : Value → Shared → Prop}
theorem occurs_call {g₀ : Heap} (F : Fr g L s.heap m) (N : News g L s.heap news) (st : g₀.StaysIn g) (G : G0 w mg mb g₀) (I : InfAt g₀ aF aK aN) (hK : s.heap.IsList aK its.toArray) (Kn : Known g₀ its σ) (ha : Rep g₀ a r) (hb : Rep g₀ b t) (hr : RootN σ n t t) (hne : t ≠ r)
    (hh : A.handled = none) (hd : A.depth ≤ 800) (hu : A.units ≤ 800)
    (k : ∀ h' tk', Fr g L h' m → News g L h' news → Q (.bool false) { s with heap := h', toks := tk' }) :
    wpAny (model prog w) A (PySem.call (.ref 121) [.ref aF, .ref a, .ref b]) Q E s :=
  lift (occurs_spec (fun b o e => F.keep b o (st b o e)) G I hK Kn ha hb hr hne fun h' tk' x => k h' tk' (fr_grow F x) (news_grow N x)) hh hd hu
end
theorem rowsS5_3 : True := by
  k_with "call ref" => (k_here; (with_reducible show wpAny _ _ (PySem.call (Value.ref 121) _) _ _ _); k_dflt (refine occurs_call (by k_asm) (by k_asm) (by first | assumption | exact fun b o e => e) (by assumption) (by assumption) (by is_list) (by assumption) (by assumption) (by assumption) (by assumption) (by assumption) (by rfl) (by walk_at "mine le") (by walk_at "mine le") ?_; k_whole); intro _ _ _ _)
  trivial
/-- which entry bind turns, and to what; none where it raises -/
def bindTo (i : Nat) : Ty → Option (Nat × Ty)
  | .v j => if i % 2 = 1 ∧ j % 2 ≠ 1 then some (j, .v i) else some (i, .v j)
  | .u8 => some (i, .u8)
  | .i32 => some (i, .i32)
  | .bool => if i % 2 = 1 then none else some (i, .bool)
  | .par => if i % 2 = 1 then none else some (i, .par)

section
variable {prog : Program} {w : World} {A : Around} {E : Value → Shared → Prop} {s : Shared} {h₀ : Heap} {L D : Addr} {m : Str → Option Value} {news news' : List (Addr × Obj)} {vs : List Value} {n : Nat} {k : Int} {v : Value} {t : Tok}
theorem set_any {Q : Unit → Shared → Prop} (F : Fr h₀ L s.heap m) (N : News h₀ L s.heap news) (U : Upd D (W.listOf vs.toArray n) (W.listOf (vs.set k.toNat v).toArray n) news news') (h0 : 0 ≤ k) (h1 : k < vs.length) (hfit : k < 2 ^ 63)
    (h : ∀ h', Fr h₀ L h' m → News h₀ L h' news' → Q () { s with heap := h' }) :
    wpAny (model prog w) A (setItem (.ref D) (.int k t) v) Q E s := by
  obtain ⟨pre, post, rfl, rfl, a, b⟩ := U.split
  have z := N (D, W.listOf vs.toArray n) (List.mem_append.mpr (.inr (.head _)))
  have hs : vs.toArray.size = vs.length := by rw [List.size_toArray]
  refine ki_setAt z.1 h0 hfit (by omega) (h _ (F.change (Heap.SameBut.update ..) z.2.1 z.2.2) (ki_turn _ N a b ?_ ?_))
  · show vs.toArray.setIfInBounds k.toNat v = (vs.set k.toNat v).toArray
    apply Array.toList_inj.mp
    simp
  · simp
end
theorem rowsS5_4 : True := by
  k_with "setItem ref int" => (k_here; (with_reducible show wpAny _ _ (setItem (Value.ref _) (Value.int _ _) (Value.ref _)) _ _ _); k_dflt (refine set_any (by k_asm) (by k_asm) (by k_upd) (by omega) (by omega) (by omega) ?_; k_whole); intro _ _ _)
  trivial
def IsRoot (σ : Nat → Option Ty) (t : Ty) : Prop := ∀ j, t = .v j → j < 6 ∧ σ j = none
theorem IsRoot.rootN {σ : Nat → Option Ty} {t : Ty} (h : IsRoot σ t) : RootN σ 0 t t := by
  cases t with
  | v j => exact .stop (h j rfl).1 (h j rfl).2
  | _ => exact .base (by intro i e; cases e)
theorem RootN.isRoot {σ : Nat → Option Ty} {n : Nat} {t r : Ty} (h : RootN σ n t r) : IsRoot σ r := by
  induction h with
  | stop hi hs => intro j e; cases e; exact ⟨hi, hs⟩
  | step _ _ _ ih => exact ih
  | base hb => intro j e; exact absurd e (hb j)

theorem rowsS5_5 : True := by
  k_with "mine bind" => (
    (with_reducible rename Fr _ _ _ _ => F1); (with_reducible rename News _ _ _ _ => N1)
    (refine' hQ _ _ _ _ ?R (News.get N1 ?M) (fin _ F1.keep)); (case M => k_mem); (case R => assumption))
  trivial
theorem bind_spec {prog : Program} {w : World} {mg mb : Str → Option Value} {s : Shared} {g₀ : Heap} (st : g₀.StaysIn s.heap) (G : G0 w mg mb g₀) {aF aK aN a b : Addr} {its : List Value} {ep i k : Nat} {σ : Nat → Option Ty} {t r : Ty}
    (I : InfAt g₀ aF aK aN) (hK : s.heap.get? aK = some (W.listOf its.toArray ep)) (hKn : g₀.get? aK = none) (Kn : Known g₀ its σ) (hi : i < 6) (ha : Rep g₀ a (.v i)) (hb : Rep g₀ b t) (hroot : IsRoot σ t) (hne : t ≠ .v i) (hbt : bindTo i t = some (k, r)) {Q E : Value → Shared → Prop}
    (hQ : ∀ h' tk' ep' ad, Rep g₀ ad r → h'.get? aK = some (W.listOf (its.set k (.ref ad)).toArray ep') → (∀ b o, b ≠ aK → s.heap.get? b = some o → h'.get? b = some o) → Q .none { s with heap := h', toks := tk' }) :
    wpAny (model prog w) (AR 750) (PySem.call (.ref 128) [.ref aF, .ref a, .ref b]) Q E s := by
  refine wpAny_call ?_
  have KX := G.X
  refine' enter [(aK, W.listOf its.toArray ep)] G.X st ?hm G.T.nolimit ?ho ?hcd ?hroom ?hbind ?hloc ?_ ?c1 ?c2 ?c3 ?c4
  case hm => intro p hp; rcases List.mem_singleton.mp hp with rfl; exact ⟨hK, hKn⟩
  walk_at "mine enter"
  intro g L h₁ stg gd gu F N KX'
  have T := G.T.keeps stg
  have I' := I.keeps stg
  clear KX
  obtain ⟨dF, e1, e2, t1, t2, I'⟩ := I'
  have hlen := Kn.1
  have e₀ := ha
  obtain ⟨la, ea, xa⟩ := ha
  obtain ⟨tk1, u1, rfl⟩ := xa
  have ea' := isTup_keeps ea stg
  have hb' := hb
  have hr := hroot.rootN
  have fin : ∀ h' : Heap, (∀ c o, g.get? c = some o → h'.get? c = some o) → ∀ b o, b ≠ aK → s.heap.get? b = some o → h'.get? b = some o :=
    fun h' k b o hb e => k b o (gu b o e (by simpa using hb))
  revert hr hroot hne hbt hb'
  refine hb.cases (P := fun t => IsRoot σ t → t ≠ .v i → bindTo i t = some (k, r) → Rep g₀ b t → RootN σ 0 t t → _) ?_ ?_ ?_ ?_ ?_ ?_
  · intro j tk2 u2 q e hroot hne hbt hb' hr
    have e' := isTup_keeps e stg
    have hj := (hroot j rfl).1
    by_cases p : i % 2 = 1
    · rw [show varName i = "intvar" from if_pos p] at ea'
      simp [bindTo, p, q] at hbt
      obtain ⟨rfl, rfl⟩ := hbt
      k_steps
      walk_at "mine bind"
    · rw [show varName i = "var" from if_neg p] at ea'
      simp [bindTo, p] at hbt
      obtain ⟨rfl, rfl⟩ := hbt
      k_steps
      walk_at "mine bind"
  · intro j tk2 u2 q e hroot hne hbt hb' hr
    have e' := isTup_keeps e stg
    have hj := (hroot j rfl).1
    simp [bindTo, q] at hbt
    obtain ⟨rfl, rfl⟩ := hbt
    by_cases p : i % 2 = 1
    · rw [show varName i = "intvar" from if_pos p] at ea'
      k_steps
      walk_at "mine bind"
    · rw [show varName i = "var" from if_neg p] at ea'
      k_steps
      walk_at "mine bind"
  · intro tk2 u2 e hroot hne hbt hb' hr
    have e' := isTup_keeps e stg
    simp [bindTo] at hbt
    obtain ⟨rfl, rfl⟩ := hbt
    by_cases p : i % 2 = 1
    · rw [show varName i = "intvar" from if_pos p] at ea'
      k_steps
      walk_at "mine bind"
    · rw [show varName i = "var" from if_neg p] at ea'
      k_steps
      walk_at "mine bind"
  · intro tk2 u2 e hroot hne hbt hb' hr
    have e' := isTup_keeps e stg
    simp [bindTo] at hbt
    obtain ⟨rfl, rfl⟩ := hbt
    by_cases p : i % 2 = 1
    · rw [show varName i = "intvar" from if_pos p] at ea'
      k_steps
      walk_at "mine bind"
    · rw [show varName i = "var" from if_neg p] at ea'
      k_steps
      walk_at "mine bind"
  · intro tk2 e hroot hne hbt hb' hr
    have e' := isTup_keeps e stg
    by_cases p : i % 2 = 1
    · simp [bindTo, p] at hbt
    · rw [show varName i = "var" from if_neg p] at ea'
      simp [bindTo, p] at hbt
      obtain ⟨rfl, rfl⟩ := hbt
      k_steps
      walk_at "mine bind"
  · intro tk2 u2 e hroot hne hbt hb' hr
    have e' := isTup_keeps e stg
    by_cases p : i % 2 = 1
    · simp [bindTo, p] at hbt
    · rw [show varName i = "var" from if_neg p] at ea'
      simp [bindTo, p] at hbt
      obtain ⟨rfl, rfl⟩ := hbt
      k_steps
      walk_at "mine bind"
end PartS5
section PartS6
abbrev faultCls : Obj := excClassObj "TypeFault" "TypeFault" 45 44 [.ref 32] [.ref 32, .type "Exception", .type "BaseException", .type "object"] true [] [] false none none (some (.ref 36)) none (some (.str "TypeFault" 221)) (some (.str "TypeFault" 229)) (some (.bool true)) "Exception.__new__"
theorem faultCls_at {P : Params} {h : Heap} (X : (Mine.hd.heap_39 P).In h) : h.get? 45 = some faultCls := X 45 _ (by kernel_rfl)
section
variable {prog : Program} {w : World} {A : Around} {E : Value → Shared → Prop} {R : Result → Shared → Prop} {h : Heap} {g : Array GenState} {d : Drawn} {t : Nat} {os : OsState}
theorem fault_check {M : Model} {rest : List Value} {Q : Unit → Shared → Prop} (hC : h.get? 45 = some faultCls) (hq : Q () ⟨h, g, d, t, os⟩) : wpAny M A (checkBuiltinCall "Exception.__new__" ⟨.ref 45 :: rest, []⟩) Q E ⟨h, g, d, t, os⟩ := by
  have Fn := PySem.F.excBase_Exception
  have hcont : (Value.ref 45 :: [.ref 32, .type "Exception", .type "BaseException", .type "object"]).contains (.type "Exception") = true := by decide
  have hstar := Fn.noStar
  simp only [checkBuiltinCall, Fn.newKind, Fn.newSplit, Fn.newRow]
  repeat (first | refine wpAny_loadPart_at hC ?_ | (refine wpAny_isSubtype_exc hC ?_; rw [hcont]) | refine wpAny_staticBase_exc hC ?_ | refine wpAny_madeBy_exc hC ?_ | simp only [bne_self_eq_false, Bool.false_eq_true, if_false] | wp_step)
  exact hq
theorem fault_new {rest : List Value} (hC : h.get? 45 = some faultCls)
    (hq : R (.ok (.ret (.ref (h.objs.size + 1)))) ⟨(h.push { cls := .type "tuple", data := .seq rest.toArray }).push { cls := .ref 45, data := .fields #[.ref h.objs.size, .none, .none, .none, .bool false, .none] }, g, d, t, os⟩) (hrest : rest.length ≤ sizeLine) :
    codeAny (model prog w) A (.builtin "Exception.__new__" ⟨.ref 45 :: rest, []⟩) R ⟨h, g, d, t, os⟩ := by
  have Fn := PySem.F.excBase_Exception
  have hends := Fn.ends
  have hcB : (Value.ref 45 :: [.ref 32, .type "Exception", .type "BaseException", .type "object"]).contains (.type "Exception") = true := by decide
  have hcA : (Value.ref 45 :: [.ref 32, .type "Exception", .type "BaseException", .type "object"]).contains (.type "AttributeError") = false := by decide
  have hcN : (Value.ref 45 :: [.ref 32, .type "Exception", .type "BaseException", .type "object"]).contains (.type "NameError") = false := by decide
  refine codeAny_builtinAt Fn.entry ?_
  unfold Builtin.«BaseException.__new__»
  refine PySem.wpAt_bind ?_
  show PySem.wpAt _ _ _ (stack >>= _) _ _ _
  refine PySem.wpAt_bind (PySem.wpAt_stack fun p below => PySem.wpAt_of_wpAny ?_)
  wp_walk
  refine PySem.wpAt_of_wpAny ?_
  rw [Fn.owner]
  repeat (first | with_reducible refine wpAny_madeHere_exc Fn.canon hC ?_ | with_reducible refine wpAny_loadPart_at hC ?_ | (with_reducible refine wpAny_isSubtype_exc hC ?_; first | rw [hcB] | rw [hcA] | rw [hcN]) | wp_step)
  show R _ _
  rw [Heap.size_push]
  exact hq
theorem fault_make {P : Params} {rest : List Value} (X : (Mine.hd.heap_39 P).In h) (hrest : rest.length ≤ sizeLine)
    (hq : codeAny (model prog w) (A.under (.builtin "type.__call__" ⟨.ref 45 :: rest, []⟩)) (.call (.ref 29) ⟨.ref (h.objs.size + 1) :: rest, []⟩) (InitBack (h.objs.size + 1) R) ⟨(h.push { cls := .type "tuple", data := .seq rest.toArray }).push { cls := .ref 45, data := .fields #[.ref h.objs.size, .none, .none, .none, .bool false, .none] }, g, d, t, os⟩) :
    codeAny (model prog w) A (.call (.ref 45) ⟨rest, []⟩) R ⟨h, g, d, t, os⟩ := by
  have hC := faultCls_at X
  have Fn := PySem.F.excBase_Exception
  have call : Looks (model prog w) h (specialOf (.ref 45) "__call__") (some (.builtin "type.__call__")) := looks_specialIn X (by k_is)
  have typ : Looks (model prog w) h (isInstance (.ref 45) (.type "type")) true := looks_instIn X (by k_is)
  have init : Looks (model prog w) h (typeLookup (.ref 45) "__init__") (some (.ref 29)) := looks_findIn X (by k_is)
  have self : Looks (model prog w) h (isSubtype (.ref 45) (.ref 45)) true := looks_mroIn X (by k_is)
  refine codeAny_of_tree ?_
  show wpAny _ _ (callAny (.ref 45) _) _ _ _
  refine nd_load hC ?_
  show wpAny _ _ (callAny.viaDunder (.ref 45) _) _ _ _
  unfold callAny.viaDunder
  refine wpAny_bind (call.at ?_)
  dsimp only
  rw [tc_bind]
  refine wpAny_bind (wpAny_pure (wpAny_bind (wpAny_pure ?_)))
  refine wpAny_pure (a := PySem.Fin.again (.call (.builtin "type.__call__") ⟨.ref 45 :: rest, []⟩)) (And.intro rfl ?_)
  refine codeAny_call_builtin_at (Code.quiet_builtin _ (by decide +kernel)) entry_typeCall (check_slot tc_kind tc_split typ (tc_args _ _ _) ?_)
  repeat (first | with_reducible refine wpAny_loadPart_at hC ?_ | with_reducible refine wpAny_madeBy_exc hC ?_ | wp_step)
  refine codeAny_call_builtin_code (Code.quiet_builtin _ Fn.quiet) (fault_check hC ?_)
  refine fault_new hC ?_ hrest
  show wpAny _ _ _ _ _ _
  have k : ∀ b o, h.get? b = some o → ((h.push { cls := .type "tuple", data := .seq rest.toArray }).push { cls := .ref 45, data := .fields #[.ref h.objs.size, .none, .none, .none, .bool false, .none] }).get? b = some o := fun b o e => Heap.get?_push_of_some _ (Heap.get?_push_of_some _ e)
  have hx : ((h.push { cls := .type "tuple", data := .seq rest.toArray }).push { cls := .ref 45, data := .fields #[.ref h.objs.size, .none, .none, .none, .bool false, .none] }).get? (h.objs.size + 1) = some { cls := .ref 45, data := .fields #[.ref h.objs.size, .none, .none, .none, .bool false, .none] } := by heap_get
  have t1 : Looks (model prog w) ((h.push { cls := .type "tuple", data := .seq rest.toArray }).push { cls := .ref 45, data := .fields #[.ref h.objs.size, .none, .none, .none, .bool false, .none] }) (typeOf (.ref (h.objs.size + 1))) (.ref 45) := (Looks.ld hx).andThen .now
  have s1 := self.keeps k
  have i1 := init.keeps k
  have b1 := (bind_fn (M := model prog w) X (f := 29) (.ref (h.objs.size + 1)) (by k_is)).keeps k
  unfold isInstance callSpecial? specialOf
  repeat (first | with_reducible refine wpAny_call ?_ | lk)
  refine codeAny_mono hq fun r s' z => ?_
  rcases r with e | (v | _ | _ | _) <;> first | exact z | exact z.elim | skip
  obtain ⟨rfl, z⟩ := z
  exact wpAny_pure (wpAny_pure z)
end
/-- a dict that holds a fault's text -/
def Says (o : Obj) (x : Str) : Prop := ∃ es n tx, o = dictOf es n ∧ getL "message" es = some (some (.str x tx))
/-- a fault as it is made -/
def FaultAt (h : Heap) (e de : Addr) (x : Str) : Prop := ∃ vs sl od, h.get? e = some ⟨.ref 45, some de, .fields vs, sl⟩ ∧ vs[1]? = some .none ∧ h.get? de = some od ∧ Says od x
def Faulty (s : Shared) (x : Str) (v : Value) (s' : Shared) : Prop := ∃ e de, v = .ref e ∧ FaultAt s'.heap e de x ∧ s.heap.get? e = none ∧ s.heap.get? de = none ∧ Keeps s s'
/-- a fault as it is born -/
abbrev bare (t : Addr) : Obj := { cls := .ref 45, data := .fields #[.ref t, .none, .none, .none, .bool false, .none] }
section
variable {prog : Program} {w : World} {A : Around} {E : Value → Shared → Prop} {s : Shared} {g : Heap} {L e t : Addr} {m : Str → Option Value}
theorem fault_base {P : Params} {x : Value} {Q : Value → Shared → Prop} (F : Fr g L s.heap m) (N : News g L s.heap [(e, bare t)]) (X : (Mine.hd.heap_39 P).In g)
    (h : ∀ t' h', Fr g L h' m → News g L h' [(e, bare t')] → Q .none { s with heap := h' }) : wpAny (model prog w) A (PySem.call (.builtin "Exception.__init__") [.ref e, x]) Q E s := by
  have hC := faultCls_at (X.keeps F.keep)
  have he : s.heap.get? e = some (bare t) := (N _ (.head _)).1
  have Fn := PySem.F.excBase_Exception
  have hcB : (Value.ref 45 :: [.ref 32, .type "Exception", .type "BaseException", .type "object"]).contains (.type "Exception") = true := by decide
  have hshort := Fn.noStar
  obtain ⟨hh, g', d, tk, os⟩ := s
  refine wpAny_call (codeAny_call_builtin Fn.init.plain Fn.initEntry ?_)
  simp only [checkBuiltinCall, Fn.initKind, Fn.initSplit, Fn.initRow]
  repeat (first | with_reducible refine wpAny_loadPart_at he ?_ | with_reducible refine wpAny_loadPart_at hC ?_ | (with_reducible refine wpAny_isSubtype_exc hC ?_; rw [hcB]) | wp_step)
  have hz : ({ heap := hh, gens := g', drawn := d, toks := tk, os := os } : Shared).heap = hh := rfl
  have he1 := Heap.get?_push_of_some ({ cls := .type "tuple", data := .seq [x].toArray } : Obj) he
  refine h hh.objs.size _ ((F.push _).change (Heap.SameBut.update ..) (N _ (.head _)).2.1 (N _ (.head _)).2.2) fun p hp => ?_
  rcases List.mem_singleton.mp hp with rfl
  exact ⟨Heap.get?_update_self _ he1 rfl, (N _ (.head _)).2⟩
end
section
open Builtin Builtin.ObjectAttr
abbrev faultMro : List Value := [.ref 45, .ref 32, .type "Exception", .type "BaseException", .type "object"]
theorem refuse_fault (self : Value) : refuseLoop self "__setattr__" faultMro = pure () := by
  rw [refuseLoop_ref, refuseLoop_ref]; exact PySem.F.store_Exception.passes self
section
variable {prog : Program} {w : World} {A : Around} {E : Value → Shared → Prop} {R : Result → Shared → Prop} {s : Shared} {e : Addr} {o : Obj} {name : Str} {v : Value} {P : Params}
theorem osa_fault {tk : Tok} (X : (Mine.hd.heap_39 P).In s.heap) (he : s.heap.get? e = some o) (hc : o.cls = .ref 45) (hl : findIn (Mine.hd.heap_39 P) (.ref 45) name = some none)
    (h : wpAny (model prog w) A.in1 (storeInOwnDict (.ref e) (.ref 45) (.str name tk) name v false)
      (fun fin s' => match fin with | .done f => R (.ok f) s' | .again c' => c'.quiet = true ∧ codeAny (model prog w) A c' R s') (fun e s' => R (.error e) s') s) :
    codeAny (model prog w) A (.call (.builtin "object.__setattr__") ⟨[.ref e, .str name tk, v], []⟩) R s := by
  have SF := PySem.F.store_object
  have ty : Looks (model prog w) s.heap (typeOf (.ref e)) (.ref 45) := hc ▸ (Looks.ld (part := none) he).andThen .now
  have sub : Looks (model prog w) s.heap (isInstance (.ref e) (.type "object")) true := ty.andThen (looks_mroIn X (by k_is))
  refine codeAny_call_builtin SF.slot.plain SF.entry (@check_slot (model prog w) _ _ s "object.__setattr__" "object" "__setattr__" (.ref e) [.str name tk, v] [] _ SF.kind SF.split sub (SF.args (.ref e) (.str name tk) v) ?_)
  have hm : Looks (model prog w) s.heap (mroOf (.ref 45)) faultMro := (Looks.ld (part := none) (faultCls_at X)).andThen .now |>.andThen .now
  rw [osa_eq, refuse_eq]
  refine wpAny_bind (wpAny_bind (ty.here (wpAny_bind (hm.here ?_))))
  rw [refuse_fault]
  refine wpAny_pure (wpAny_bind (ty.here (wpAny_bind ((looks_findIn X hl).here (wpAny_bind ?_)))))
  exact wpAny_pure h
theorem set_fault {Q : Unit → Shared → Prop} (X : (Mine.hd.heap_39 P).In s.heap) (he : s.heap.get? e = some o) (hc : o.cls = .ref 45)
    (h : codeAny (model prog w) A (.call (.builtin "object.__setattr__") ⟨[.ref e, .str name s.toks, v], []⟩) (fun r s' => match r with | .ok (.ret _) => Q () s' | .ok _ => False | .error e => E e s') { s with toks := s.toks + 1 }) :
    wpAny (model prog w) A (setAttr (.ref e) name v) Q E s := by
  have ty : Looks (model prog w) s.heap (typeOf (.ref e)) (.ref 45) := hc ▸ (Looks.ld (part := none) he).andThen .now
  have hs : findIn (Mine.hd.heap_39 P) (.ref 45) "__setattr__" = some (some (.builtin "object.__setattr__")) := by k_is
  refine wpAny_bind (wpAny_mkText (wpAny_bind (wpAny_bind (wpAny_bind (ty _ _ _ _ (fun _ _ e => e) (looks_findIn X hs _ _ _ _ (fun _ _ e => e) (wpAny_holding ?_)))))))
  rw [PySem.F.store_object.slot.bind]
  refine wpAny_bind (wpAny_pure (wpAny_bind (wpAny_call (codeAny_mono h fun r s' z => ?_))))
  rcases r with e | (v | _ | _ | _) <;> first | exact z | exact wpAny_pure (wpAny_pure z)
end
section
variable {prog : Program} {w : World} {A : Around} {E : Value → Shared → Prop} {R : Result → Shared → Prop} {s : Shared} {g : Heap} {L e t : Addr} {m : Str → Option Value} {name : Str} {v : Value} {P : Params}
theorem dict_put {dx : Addr} {tk : Tok} {es : List DictEntry} {n : Nat} {post : List (Addr × Obj)} {Q : PySem.Fin → Shared → Prop} (F : Fr g L s.heap m) (N : News g L s.heap ((dx, dictOf es n) :: post)) (h2 : ∀ p ∈ post, p.1 ≠ dx) (hr : es.any (·.refKey) = false) (hz : (putL name (PyData.keyHash w.params name) (.str name s.toks) v es).length ≤ 1000)
    (h : ∀ h', Fr g L h' m → News g L h' ((dx, dictOf (putL name (PyData.keyHash w.params name) (.str name s.toks) v es) (putN name es n)) :: post) → Q (.done (.ret .none)) { s with heap := h', toks := s.toks + 1 }) :
    wpAny (model prog w) A (storeInDict dx (.str name tk) name v) Q E s := by
  obtain ⟨U1, U2⟩ := news_upd (pre := []) (f := Obj.putName name (PyData.keyHash w.params name) (.str name s.toks) v) F N (fun _ h => nomatch h) h2 (putName_dict name _ _ v es n) rfl
  have D : s.heap.get? dx = some (dictOf es n) := (N _ (.head _)).1
  have D' := (U2 _ (.head _)).1
  unfold storeInDict newKeyGuard
  refine wpAny_bind (wpAny_pure (wpAny_bind ?_))
  unfold nsSet
  refine wpAny_bind (wpAny_bind (wpAny_askSetting (wpAny_pure (wpAny_bind (wpAny_mkText (wpAny_bind (wpAny_loadPart D ?_)))))))
  have c : (!es.toArray.any (·.key.isStr name) && es.toArray.any (·.refKey)) = false := by simp [hr]
  dsimp only
  rw [aRefKeyMayBeTheName_at, c]
  refine wpAny_updatePart D ?_
  refine wpAny_bind (wpAny_lookBehind D' (pastItsLine_dict (by rw [List.size_toArray, sizeLine_eq]; omega)) ?_)
  exact wpAny_pure (h _ U1 U2)
/-- the first name of a fault: its dict is made -/
theorem fault_set1 {Q : Unit → Shared → Prop} (F : Fr g L s.heap m) (N : News g L s.heap [(e, ⟨.ref 45, none, .fields #[.ref t, .none, .none, .none, .bool false, .none], #[]⟩)]) (X : (Mine.hd.heap_39 P).In g) (hl : findIn (Mine.hd.heap_39 P) (.ref 45) name = some none)
    (h : ∀ dx h' tk, @Ne Nat dx e → Fr g L h' m → News g L h' [(dx, dictOf [⟨PyData.keyHash w.params name, .str name tk, v⟩] 1), (e, ⟨.ref 45, some dx, .fields #[.ref t, .none, .none, .none, .bool false, .none], #[]⟩)] → Q () { s with heap := h', toks := tk + 1 }) :
    wpAny (model prog w) A (setAttr (.ref e) name v) Q E s := by
  have XS := X.keeps F.keep
  have he := (N _ (.head _)).1
  have cl : Looks (model prog w) s.heap (classData 45) _ := (Looks.ld (part := none) (faultCls_at XS)).andThen .now
  refine set_fault XS he rfl (osa_fault (s := { s with toks := s.toks + 1 }) XS he rfl hl ?_)
  refine wpAny_bind (wpAny_pure (wpAny_bind (wpAny_bind (wpAny_loadPart he (wpAny_bind (cl.at ?_))))))
  rw [if_neg (by decide)]
  dsimp only
  rw [if_neg (by decide)]
  have N1 := N.push F emptyDict
  have F1 := F.push emptyDict
  have ne : @Ne Nat s.heap.objs.size e := fun q => absurd (q ▸ Heap.lt_size he : s.heap.objs.size < s.heap.objs.size) (Nat.lt_irrefl _)
  refine wpAny_bind (wpAny_alloc (wpAny_bind (wpAny_update (N1 _ (.tail _ (.head _))).1 ?_)))
  obtain ⟨F2, N2⟩ := news_upd (pre := [(s.heap.objs.size, emptyDict)]) (post := []) (f := fun o => { o with dict := some s.heap.objs.size }) F1 N1 (fun p hp => by rcases List.mem_singleton.mp hp with rfl; exact ne) (fun _ h => nomatch h) rfl rfl
  refine wpAny_pure ?_
  exact dict_put (es := []) (n := 0) (s := ⟨_, s.gens, s.drawn, _, s.os⟩) F2 N2 (fun p hp => by rcases List.mem_singleton.mp hp with rfl; exact ne.symm) rfl (Nat.le_of_ble_eq_true rfl) fun h' F3 N3 => h _ _ _ ne F3 N3
/-- a further name of a fault -/
theorem fault_set2 {dx : Addr} {es : List DictEntry} {n : Nat} {Q : Unit → Shared → Prop} (F : Fr g L s.heap m) (N : News g L s.heap [(dx, dictOf es n), (e, ⟨.ref 45, some dx, .fields #[.ref t, .none, .none, .none, .bool false, .none], #[]⟩)]) (X : (Mine.hd.heap_39 P).In g) (hl : findIn (Mine.hd.heap_39 P) (.ref 45) name = some none)
    (ne : @Ne Nat dx e) (hr : es.any (·.refKey) = false) (hz : ∀ tk, (putL name (PyData.keyHash w.params name) (.str name tk) v es).length ≤ 1000)
    (h : ∀ h' tk, Fr g L h' m → News g L h' [(dx, dictOf (putL name (PyData.keyHash w.params name) (.str name tk) v es) (putN name es n)), (e, ⟨.ref 45, some dx, .fields #[.ref t, .none, .none, .none, .bool false, .none], #[]⟩)] → Q () { s with heap := h', toks := tk + 1 }) :
    wpAny (model prog w) A (setAttr (.ref e) name v) Q E s := by
  have XS := X.keeps F.keep
  have he := (N _ (.tail _ (.head _))).1
  have cl : Looks (model prog w) s.heap (classData 45) _ := (Looks.ld (part := none) (faultCls_at XS)).andThen .now
  refine set_fault XS he rfl (osa_fault (s := { s with toks := s.toks + 1 }) XS he rfl hl ?_)
  refine wpAny_bind (wpAny_pure (wpAny_bind (wpAny_bind (wpAny_loadPart he (wpAny_bind (cl.at ?_))))))
  rw [if_neg (by decide)]
  dsimp only
  refine wpAny_pure ?_
  exact dict_put (s := ⟨_, s.gens, s.drawn, _, s.os⟩) F N (fun p hp => by rcases List.mem_singleton.mp hp with rfl; exact ne.symm) hr (hz _) fun h' F3 N3 => h _ _ F3 N3
end
end
theorem Heap.none_of_stays {h g : Heap} {a : Addr} (k : h.StaysIn g) (e : g.get? a = none) : h.get? a = none := by
  cases q : h.get? a with
  | none => rfl
  | some o => rw [k _ _ q] at e; cases e
theorem rowsS6_0 : True := by
  k_with_none
  k_with "mine enter" => (
    (case ho => k_is); (case hcd => k_is); (case hroom => exact Nat.le_of_ble_eq_true rfl)
    (case hbind => first | exact binds_K (by k_in) rfl (by k_is) rfl rfl rfl | exact BindsTo.of_eq rfl)
    (case hloc => exact locs rfl)
    (case c1 => decide); (case c2 => rfl); (case c3 => rfl); (case c4 => rfl))
  k_with "getMethod type:Exception" => (k_here; k_dflt (refine method_type (by k_asm) (by k_asm) (by first | rfl | kernel_rfl) (by decide +kernel) (by k_is) (by k_handed) ?_))
  k_with "call builtin:Exception.__init__" => (k_here; k_dflt (refine fault_base (by k_asm) (by k_asm) (by k_asm) ?_); intro _ _ _ _)
  k_with "setAttr ref" => (k_here; k_dflt (refine fault_set1 (by k_asm) (by k_asm) (by k_asm) (by k_is) ?_); intro _ _ _ _ _ _)
  k_with "setAttr ref" => (k_here; k_dflt (refine fault_set2 (by k_asm) (by k_asm) (by k_asm) (by k_is) (by assumption) (by rfl) (fun _ => Nat.le_of_ble_eq_true rfl) ?_); intro _ _ _ _)
  trivial
theorem fault_run {prog : Program} {w : World} {mg mb : Str → Option Value} {s : Shared} {x : Str} {tkx : Tok} (G : G0 w mg mb s.heap) {E : Value → Shared → Prop} :
  wpAny (model prog w) (AR 700) (PySem.call (.ref 45) [.str x tkx]) (Faulty s x) E s := by
  obtain ⟨hh, g', d, t, os⟩ := s
  refine wpAny_call (fault_make G.X (Nat.le_of_ble_eq_true rfl) ?_)
  have hx : ((hh.push { cls := .type "tuple", data := .seq [Value.str x tkx].toArray }).push (bare hh.objs.size)).get? (hh.objs.size + 1) = some (bare hh.objs.size) := by heap_get
  have st : hh.StaysIn ((hh.push { cls := .type "tuple", data := .seq [Value.str x tkx].toArray }).push (bare hh.objs.size)) := fun b o e => Heap.get?_push_of_some _ (Heap.get?_push_of_some _ e)
  have KX := G.X.keeps st
  have e0 : hh.get? (hh.objs.size + 1) = none := Heap.get?_none_of_le (Nat.le_succ _)
  generalize hh.objs.size + 1 = e at hx e0 ⊢
  generalize hh.objs.size = t0 at hx st KX ⊢
  generalize (hh.push { cls := .type "tuple", data := .seq [Value.str x tkx].toArray }).push (bare t0) = h2 at hx st KX ⊢
  refine' enter [(e, bare t0)] G.X st ?hm G.T.nolimit ?ho ?hcd ?hroom ?hbind ?hloc ?_ ?c1 ?c2 ?c3 ?c4
  case hm => intro p hp; rcases List.mem_singleton.mp hp with rfl; exact ⟨hx, e0⟩
  walk_at "mine enter"
  intro g2 L2 h3 stg gd gu F2 N2 KX2
  have T := G.T.keeps stg
  clear KX
  k_steps
  (with_reducible rename Fr _ _ _ _ => F1); (with_reducible rename News _ _ _ _ => N1)
  have zD := N1 _ (.head _)
  have kk : ∀ b o, hh.get? b = some o → g2.get? b = some o := stg
  refine ⟨rfl, e, _, rfl, ⟨_, _, _, (N1 _ (.tail _ (.head _))).1, rfl, zD.1, _, _, tkx, rfl, ?_⟩, e0, ?_, ?_⟩
  · first | rfl | k_get
  · exact Heap.none_of_stays stg zD.2.2
  · exact ⟨_, _, rfl, fun b o q => F1.keep b o (kk b o q)⟩
/-- a value that may be raised: a fault -/
def RaisableF (w : World) (E : Value → Shared → Prop) (v : Value) (s₁ : Shared) : Prop :=
  ∃ e de vs sl, v = .ref e ∧ s₁.heap.get? e = some ⟨.ref 45, some de, .fields vs, sl⟩ ∧ vs[1]? = some .none ∧ (Mine.hd.heap_39 w.params).In s₁.heap ∧ E (.ref e) s₁
section
variable {prog : Program} {w : World} {A : Around} {E : Value → Shared → Prop} {s : Shared} {env : Env}
theorem Raise_fault {e : PySem.Expr} {pos : Pos} {Q : Flow → Shared → Prop} (hh : A.handled = none)
    (h : wpAny (model prog w) A (eval e env) (RaisableF w E) E s) : wpAny (model prog w) A (exec (.Raise (some e) none pos) env) Q E s := by
  show wpAny (model prog w) A (do standAt pos; raiseStmt env (some (do let v ← eval e env; standAt pos; pure v)) none) Q E s
  refine wpAny_bind (wpAny_standAt ?_)
  unfold raiseStmt
  dsimp only
  refine wpAny_bind (wpAny_bind (wpAny_mono h (fun v s₁ h₁ => wpAny_bind (wpAny_standAt (wpAny_pure ?_))) fun _ _ x => x))
  obtain ⟨a, de, vs, sl, rfl, ha, h1, X, hE⟩ := h₁
  have hcl : Looks (model prog w) s₁.heap (typeOf (.ref a)) (.ref 45) := (Looks.ld (part := none) ha).andThen .now
  have hsub : Looks (model prog w) s₁.heap (isSubtype (.ref 45) (.type "BaseException")) true := looks_subIn X (by k_is)
  have hmeta : Looks (model prog w) s₁.heap (typeOf (.ref 45)) (.type "type") := looks_typeIn X (by k_is)
  have hnt : ∀ {Q' : Bool → Shared → Prop}, Q' false s₁ → wpAny (model prog w) A (isType (.ref a)) Q' E s₁ := by
    intro Q' hq
    simp only [isType, loadHead]
    refine wpAny_bind (wpAny_loadPart ha ?_)
    exact wpAny_pure hq
  refine wpAny_bind (wpAny_pure ?_)
  dsimp only
  refine wpAny_bind (wpAny_holding ?_)
  unfold excFromValue isExcClass
  refine wpAny_bind (wpAny_bind (hnt ?_))
  simp only [Bool.false_eq_true, if_false]
  refine wpAny_pure ?_
  simp only [Bool.false_eq_true, if_false]
  unfold isInstance
  refine wpAny_bind (wpAny_bind (hcl.here (hsub.here ?_)))
  simp only [if_true]
  refine wpAny_pure ?_
  refine wpAny_bind (hnt ?_)
  simp only [Bool.false_eq_true, if_false]
  unfold raisedInstance
  refine wpAny_bind (wpAny_bind (hcl.here (wpAny_bind (hmeta.here ?_))))
  rw [if_pos (by decide)]
  refine wpAny_pure ?_
  unfold setFlight raiseNew
  refine wpAny_bind (wpAny_bind (wpAny_field ha rfl h1 ?_))
  rw [if_neg (by decide)]
  refine wpAny_pure (wpAny_bind (wpAny_handled ?_))
  rw [hh]
  first
    | exact wpAny_throw hE
    | exact wpAny_bind (wpAny_pure (wpAny_throw hE))
end
end PartS6
section PartS7
/-! A fault in flight, its dict kept in sight. -/
/-- the fault e, its dict de, its newest traceback entry marked fl -/
def TracedD (h base : Heap) (e de : Addr) (fl : Value) : Prop :=
  ∃ vs sl T oT ts, h.get? e = some ⟨.ref 45, some de, .fields vs, sl⟩ ∧ vs[1]? = some (.ref T) ∧ base.get? T = none ∧ T ≠ e ∧ h.get? T = some oT ∧ oT.data = .fields ts ∧ ts[3]? = some fl
def FlyD (base : Heap) (l : List Env) (e de : Addr) (fl : Value) (h : Heap) : Prop :=
  base.StaysIn h ∧ base.get? e = none ∧ h.FunFrames base l ∧ TracedD h base e de fl

section
variable {M : Model} {A : Around} {E : Value → Shared → Prop} {s : Shared} {base : Heap} {env : Env} {outer l : List Env} {L e de : Addr} {vs : Array Value} {sl : Array (Option Value)}

theorem upToSlots_iff {h h' : Heap} (k : ∀ b o, h.get? b = some o → (∀ vs, o.data ≠ .fields vs) → ∃ sl, h'.get? b = some { o with slots := sl }) : h.UpToSlots h' := k

theorem entryD {head : Value} {hadNext : Bool} {Q : Unit → Shared → Prop}
    (hfr : A.frames = some (env :: outer)) (hl : s.heap.FunFrames base (env :: outer)) (hf : env.frame = some L)
    (he : s.heap.get? e = some ⟨.ref 45, some de, .fields vs, sl⟩) (hkb : base.StaysIn s.heap) (hen : base.get? e = none) (hsz : 1 < vs.size)
    (h : ∀ h', FlyD base (env :: outer) e de (rawInt L) h' → s.heap.UpToSlots h' → Q () { s with heap := h' }) :
    wpAny M A (do let a ← frameOf env; let pl ← entryPlaceOf L hadNext; let b ← EntryCells.newEntry head a .none (rawInt L) .none pl; setField (.ref e) 1 b) Q E s := by
  have hene : e ∉ (env :: outer).filterMap (·.frame) := fun hm => by
    obtain ⟨_, o, ho, hnf⟩ := hl.mem hm
    rw [he] at ho; cases ho; exact hnf vs rfl
  refine wpAny_bind (wpAny_frameOf_fun hfr hl hf fun h₁ hs₁ => ?_)
  refine wpAny_bind (wpAny_entryPlaceOf fun pl hpl => ?_)
  unfold EntryCells.newEntry newFields
  refine wpAny_bind (wpAny_newObj_type ?_ (hpl.sizeOk5 _ _ _ _ _))
  have he₁ := (hs₁.2.1 e hene).trans he
  have kb₁ : base.StaysIn h₁ := fun b o hbo => (hs₁.2.1 b fun hm => by rw [(hl.mem hm).1] at hbo; cases hbo).trans (hkb b o hbo)
  generalize hob : ({ cls := .type "traceback", dict := none, data := .fields ([head, .ref L, .none, rawInt L, .none] ++ (if pl.isEmpty then List.replicate 6 Value.none else pl)).toArray } : Obj) = ob
  have hobf : ob.isFreed = false := by rw [← hob]; rfl
  have he₂ := Heap.get?_push_of_some (h := h₁) ob he₁
  refine wpAny_setField he₂ rfl hsz ?_
  have hTe : h₁.objs.size ≠ e := Nat.ne_of_gt (Heap.lt_size he₁)
  have he₃ := Heap.get?_update_self (Obj.mapFields (·.setIfInBounds 1 (Value.ref h₁.objs.size))) he₂ rfl
  have hT₃ := (Heap.get?_update_other (h₁.push ob) (Obj.mapFields (·.setIfInBounds 1 (Value.ref h₁.objs.size))) (Ne.symm hTe)).trans (Heap.get?_push_size h₁ hobf)
  have keep : ∀ b o, b ≠ e → h₁.get? b = some o → ((h₁.push ob).update e (Obj.mapFields (·.setIfInBounds 1 (Value.ref h₁.objs.size)))).get? b = some o := fun b o hbe hb => by
    rw [Heap.get?_update_other _ _ (Ne.symm hbe)]
    exact Heap.get?_push_of_some _ hb
  have noRecord : ∀ b o, s.heap.get? b = some o → (∀ vs, o.data ≠ .fields vs) → b ≠ e := fun b o hb hnf q => by
    rw [q, he] at hb; cases hb; exact hnf vs rfl
  refine h _ ⟨fun b o hbo => keep b o (fun q => by rw [q, hen] at hbo; cases hbo) (kb₁ b o hbo), hen, hl.of_keeps fun b o hb hnf => ?_, ?_⟩ fun b o hb hnf => ?_
  · obtain ⟨sl, hs⟩ := hs₁.2.2 b o hb
    exact ⟨_, keep b _ (noRecord b o hb hnf) hs, rfl⟩
  · exact ⟨_, _, h₁.objs.size, _, _, he₃, by simp [hsz], kb₁.fresh, hTe, hT₃, by rw [← hob], by first | (simp; done) | (rcases hpl with rfl | ⟨_, _, _, _, _, _, _, rfl⟩ <;> simp)⟩
  · obtain ⟨sl, hs⟩ := hs₁.2.2 b o hb
    exact ⟨sl, keep b _ (noRecord b o hb hnf) hs⟩

theorem noteFrame_firstD {Q : Unit → Shared → Prop}
    (hfr : A.frames = some (env :: outer)) (hl : s.heap.FunFrames base (env :: outer)) (hf : env.frame = some L)
    (he : s.heap.get? e = some ⟨.ref 45, some de, .fields vs, sl⟩) (hkb : base.StaysIn s.heap) (hen : base.get? e = none) (h1 : vs[1]? = some .none)
    (h : ∀ h', FlyD base (env :: outer) e de (rawInt L) h' → s.heap.UpToSlots h' → Q () { s with heap := h' }) : wpAny M A (noteFrame (.ref e) env) Q E s := by
  unfold noteFrame
  simp only [hf]
  refine wpAny_bind (wpAny_field he rfl h1 ?_)
  rw [if_neg (by decide)]
  exact entryD hfr hl hf he hkb hen (Array.getElem?_eq_some_iff.mp h1).1 h

theorem noteFrame_onD {Q : Unit → Shared → Prop}
    (hfr : A.frames = some (env :: outer)) (hf : env.frame = some L) (R : FlyD base (env :: outer) e de .none s.heap)
    (h : ∀ h', FlyD base (env :: outer) e de (rawInt L) h' → s.heap.UpToSlots h' → Q () { s with heap := h' }) : wpAny M A (noteFrame (.ref e) env) Q E s := by
  obtain ⟨hkb, hen, hl, vs, sl, T, oT, ts, he, h1, hnT, hTe, hT, hdT, h3⟩ := R
  unfold noteFrame
  simp only [hf]
  refine wpAny_bind (wpAny_field he rfl h1 ?_)
  rw [if_pos (show (Value.ref T != Value.none) = true from by simp)]
  refine wpAny_bind (wpAny_field hT hdT h3 ?_)
  rw [if_neg (show ¬ ((Value.none == rawInt L) = true) from by simp [rawInt])]
  refine wpAny_bind (wpAny_setField hT hdT (Array.getElem?_eq_some_iff.mp h3).1 ?_)
  have other : ∀ b, b ≠ T → (s.heap.update T (Obj.mapFields (·.setIfInBounds 3 Value.none))).get? b = s.heap.get? b := fun b hb => Heap.get?_update_other _ _ (Ne.symm hb)
  have noRecord : ∀ b o, s.heap.get? b = some o → (∀ vs, o.data ≠ .fields vs) → b ≠ T := fun b o hb hnf q => by
    rw [q, hT] at hb; cases hb; exact hnf ts hdT
  refine entryD hfr (hl.of_keeps fun b o hb hnf => ⟨o, (other b (noRecord b o hb hnf)).trans hb, rfl⟩) hf ((other e (Ne.symm hTe)).trans he)
    (fun b o hbo => (other b fun q => by rw [q, hnT] at hbo; cases hbo).trans (hkb b o hbo)) hen (Array.getElem?_eq_some_iff.mp h1).1
    fun h' x1 x2 => h h' x1 fun b o hb hnf => x2 b o ((other b (noRecord b o hb hnf)).trans hb) hnf

theorem landsD {fl : Value} {Q : Unit → Shared → Prop} (R : FlyD base l e de fl s.heap)
    (h : ∀ h', FlyD base l e de .none h' → s.heap.UpToSlots h' → Q () { s with heap := h' }) : wpAny M A (setFlight (.ref e) none) Q E s := by
  obtain ⟨hkb, hen, hl, vs, sl, T, oT, ts, he, h1, hnT, hTe, hT, hdT, h3⟩ := R
  have hsz3 : 3 < ts.size := (Array.getElem?_eq_some_iff.mp h3).1
  have other : ∀ b, b ≠ T → (s.heap.update T (Obj.mapFields (·.setIfInBounds 3 ((none : Option Addr).elim Value.none fun f => rawInt f)))).get? b = s.heap.get? b :=
    fun b hb => Heap.get?_update_other _ _ (Ne.symm hb)
  have noRecord : ∀ b o, s.heap.get? b = some o → (∀ vs, o.data ≠ .fields vs) → b ≠ T := fun b o hb hnf q => by
    rw [q, hT] at hb; cases hb; exact hnf ts hdT
  unfold setFlight
  refine wpAny_bind (wpAny_field he rfl h1 ?_)
  rw [if_pos (show (Value.ref T != Value.none) = true from by simp)]
  refine wpAny_setField hT hdT hsz3 (h _ ⟨fun b o hbo => (other b fun q => by rw [q, hnT] at hbo; cases hbo).trans (hkb b o hbo), hen,
    hl.of_keeps fun b o hb hnf => ⟨o, (other b (noRecord b o hb hnf)).trans hb, rfl⟩, ?_⟩ fun b o hb hnf => ⟨o.slots, (other b (noRecord b o hb hnf)).trans hb⟩)
  exact ⟨vs, sl, T, _, _, (other e (Ne.symm hTe)).trans he, h1, hnT, hTe, Heap.get?_update_self _ hT (Obj.isFreed_of_fields (Obj.data_mapFields hdT _)), Obj.data_mapFields hdT _, by simp [hsz3]⟩

theorem FlyD.drop {fl : Value} {h : Heap} (R : FlyD base (env :: outer) e de fl h) : FlyD base outer e de fl h :=
  ⟨R.1, R.2.1, R.2.2.1.2.2, R.2.2.2⟩

/-- the frame that raised the fault is left -/
theorem leaving_firstD {Q : Unit → Shared → Prop}
    (hfr : A.frames = some (env :: outer)) (hl : s.heap.FunFrames base (env :: outer)) (hf : env.frame = some L)
    (he : s.heap.get? e = some ⟨.ref 45, some de, .fields vs, sl⟩) (hkb : base.StaysIn s.heap) (hen : base.get? e = none) (h1 : vs[1]? = some .none)
    (h : ∀ h', FlyD base outer e de .none h' → s.heap.UpToSlots h' → Q () { s with heap := h' }) : wpAny M A (leaving env (.ref e)) Q E s := by
  unfold leaving
  refine wpAny_bind (noteFrame_firstD hfr hl hf he hkb hen h1 fun h₁ R₁ u₁ => ?_)
  exact landsD R₁ fun h₂ R₂ u₂ => h h₂ R₂.drop (u₁.trans u₂)
/-- a frame that the fault flies through is left -/
theorem leaving_nextD {Q : Unit → Shared → Prop} (hfr : A.frames = some (env :: outer)) (hf : env.frame = some L) (R : FlyD base (env :: outer) e de .none s.heap)
    (h : ∀ h', FlyD base outer e de .none h' → s.heap.UpToSlots h' → Q () { s with heap := h' }) : wpAny M A (leaving env (.ref e)) Q E s := by
  unfold leaving
  refine wpAny_bind (noteFrame_onD hfr hf R fun h₁ R₁ u₁ => ?_)
  exact landsD R₁ fun h₂ R₂ u₂ => h h₂ R₂.drop (u₁.trans u₂)
end
end PartS7
section PartS8
theorem rowsS8_0 : True := by
  k_with_none
  k_with "mine enter" => (
    (case ho => k_is); (case hcd => k_is); (case hroom => exact Nat.le_of_ble_eq_true rfl)
    (case hbind => first | exact binds_K (by k_in) rfl (by k_is) rfl rfl rfl | exact BindsTo.of_eq rfl)
    (case hloc => exact locs rfl)
    (case c1 => decide); (case c2 => rfl); (case c3 => rfl); (case c4 => rfl))
  k_with "mine le" => (exact Nat.le_of_ble_eq_true rfl)
  k_with "subscriptTail" => (k_here; (with_reducible show wpAny _ _ (subscriptTail _ _ (Value.ref _) (Value.int _ _)) _ _ _); k_dflt (refine item_tupleT (by is_tup) (by decide) (by decide) (by rfl) (by rfl) ?_; k_whole))
  k_with "subscriptTail" => (k_here; (with_reducible show wpAny _ _ (subscriptTail _ _ (Value.ref _) (Value.int _ _)) _ _ _); k_dflt (refine item_listB (by is_list) (by omega) (by omega) (by assumption) ?_ (by with_unfolding_all rfl); k_whole))
  k_with "k_inst" => (exact InstAt.keepsB (by assumption) (Fr.keep (by assumption)))
  k_with "mine around" => ((case hh => rfl); (case hd => exact Nat.le_of_ble_eq_true rfl); (case hu => exact Nat.le_of_ble_eq_true rfl))
  k_with "call ref" => (k_here; (with_reducible show wpAny _ _ (PySem.call (Value.ref 109) _) _ _ _); k_dflt (refine shallow_call (by k_asm) (by k_asm) (by first | assumption | exact fun b o e => e) (by assumption) (by assumption) (by is_list) (by assumption) (by assumption) (by assumption) (by rfl) (by walk_at "mine le") (by walk_at "mine le") ?_; k_whole); intro _ _ _ _ _ _ _)
  k_with "call ref" => (k_here; (with_reducible show wpAny _ _ (PySem.call (Value.ref 54) _) _ _ _); k_dflt (refine parts_call (by k_asm) (by k_asm) (by assumption) (by assumption) (by rfl) (by walk_at "mine le") (by walk_at "mine le") ?_; k_whole); intro _ _ _ _ _ l1; (try dsimp only [AllNe] at l1))
  k_with "call ref" => (k_here; (with_reducible show wpAny _ _ (PySem.call (Value.ref 61) _) _ _ _); k_dflt (refine rebuilt_call (by k_asm) (by k_asm) (by assumption) (by assumption) (by rfl) (by walk_at "mine le") (by walk_at "mine le") ?_; k_whole); intro _ _ _ _)
  k_with "compareOp Eq ref ref" => (k_here; k_dflt (refine eq_rep_not (by k_asm) (by assumption) (by assumption) (by assumption) (by walk_at "mine le") ?_; k_whole))
  k_with "compareOp NotEq ref ref" => (k_here; k_dflt (refine neq_lists_one (by k_asm) (by is_list) (by assumption) (by is_list) (by walk_at "mine le") ?_; k_whole))
  k_with "compareOp NotEq ref ref" => (k_here; k_dflt (refine neq_lists_nil (by is_list) (by is_list) (by walk_at "mine le") ?_; k_whole))
  k_with "call builtin:list.extend" => (k_here; (with_reducible show wpAny _ _ (PySem.call (Value.builtin _) [Value.ref _, Value.ref _]) _ _ _); k_dflt (refine ext_tup (by k_asm) (by k_asm) (by k_mem) (by k_upd) (by kl_no) (by walk_at "mine le") (by walk_at "mine le") ?_); intro _ _ N'; (try dsimp only at N'))
  k_with "call ref" => (k_here; (with_reducible show wpAny _ _ (PySem.call (Value.ref 121) _) _ _ _); k_dflt (refine occurs_call (by k_asm) (by k_asm) (by first | assumption | exact fun b o e => e) (by assumption) (by assumption) (by is_list) (by assumption) (by assumption) (by assumption) (by assumption) (by assumption) (by rfl) (by walk_at "mine le") (by walk_at "mine le") ?_; k_whole); intro _ _ _ _)
  k_with "setItem ref int" => (k_here; (with_reducible show wpAny _ _ (setItem (Value.ref _) (Value.int _ _) (Value.ref _)) _ _ _); k_dflt (refine set_any (by k_asm) (by k_asm) (by k_upd) (by omega) (by omega) (by omega) ?_; k_whole); intro _ _ _)
  trivial
section
variable {prog : Program} {w : World} {mg mb : Str → Option Value} {A : Around} {s : Shared} {g : Heap} {L : Addr} {m : Str → Option Value} {news : List (Addr × Obj)} {aF aK aN a b : Addr} {its : List Value} {n : Nat} {σ : Nat → Option Ty} {t r : Ty} {x : Str} {tk : Tok} {Q E : Value → Shared → Prop}
theorem resolved_call {g₀ : Heap} (F : Fr g L s.heap m) (N : News g L s.heap news) (st : g₀.StaysIn g) (G : G0 w mg mb g₀) (I : InfAt g₀ aF aK aN) (hK : s.heap.IsList aK its.toArray) (Kn : Known g₀ its σ) (ha : Rep g₀ a t) (hr : RootN σ n t r)
    (hh : A.handled = none) (hd : A.depth ≤ 800) (hu : A.units ≤ 800)
    (k : ∀ b h' tk', Fr g L h' m → News g L h' news → Rep g₀ b r → Rep g b r → Q (.ref b) { s with heap := h', toks := tk' }) :
    wpAny (model prog w) A (PySem.call (.ref 114) [.ref aF, .ref a]) Q E s :=
  lift (resolved_spec (fun b o e => F.keep b o (st b o e)) G I hK Kn ha hr fun b h' tk' x rb => k b h' tk' (fr_grow F x) (news_grow N x) rb (rb.keeps st)) hh hd hu
theorem text_call (F : Fr g L s.heap m) (N : News g L s.heap news) (G : G0 w mg mb g) (ha : Rep g a t) (hx : t.text = x)
    (hh : A.handled = none) (hd : A.depth ≤ 900) (hu : A.units ≤ 900)
    (k : ∀ u h' tk', Fr g L h' m → News g L h' news → Q (.str x u) { s with heap := h', toks := tk' }) :
    wpAny (model prog w) A (PySem.call (.ref 73) [.ref a]) Q E s :=
  lift (text_spec (G.keeps F.keep) (ha.keeps F.keep) fun u h' tk' st => by rw [hx]; exact k u h' tk' (fr_grow F st) (news_grow N st)) hh hd hu
/-- a fault is new to what stood ahead of it -/
def NewF (g : Heap) (L e : Addr) : Prop := g.get? e = none ∧ e ≠ L
theorem fault_call (F : Fr g L s.heap m) (N : News g L s.heap news) (X : G0 w mg mb g)
    (hh : A.handled = none) (hd : A.depth ≤ 700) (hu : A.units ≤ 700)
    (k : ∀ e de h' tk', Fr g L h' m → News g L h' news → FaultAt h' e de x → NewF g L e → NewF g L de → Q (.ref e) { s with heap := h', toks := tk' }) :
    wpAny (model prog w) A (PySem.call (.ref 45) [.str x tk]) Q E s := by
  refine lift (wpAny_mono (fault_run (X.keeps F.keep)) (fun v s' hv => ?_) fun _ _ e => e) hh hd hu
  obtain ⟨e, de, rfl, hf, hn, hn', h', tk', rfl, st⟩ := hv
  have new : ∀ c, s.heap.get? c = none → NewF g L c := fun c hc => by
    refine ⟨?_, fun q => ?_⟩
    · cases q : g.get? c with
      | none => rfl
      | some o => rw [F.keep _ _ q] at hc; cases hc
    · obtain ⟨oL, _, _, hL, _⟩ := F.ns
      rw [q, hL] at hc; cases hc
  exact k e de h' tk' (fr_grow F st) (news_grow N st) hf (new _ hn) (new _ hn')
end
theorem rowsS8_1 : True := by
  k_with "call ref" => (k_here; (with_reducible show wpAny _ _ (PySem.call (Value.ref 114) _) _ _ _); k_dflt (refine resolved_call (by k_asm) (by k_asm) (by first | assumption | exact fun b o e => e) (by assumption) (by assumption) (by is_list) (by assumption) (by assumption) (by assumption) (by rfl) (by walk_at "mine le") (by walk_at "mine le") ?_; k_whole); intro _ _ _ _ _ _ _)
  k_with "call ref" => (k_here; (with_reducible show wpAny _ _ (PySem.call (Value.ref 73) _) _ _ _); k_dflt (refine text_call (by k_asm) (by k_asm) (by assumption) (by assumption) (by exact rfl) (by rfl) (by walk_at "mine le") (by walk_at "mine le") ?_; k_whole); intro _ _ _ _ _)
  k_with "call ref" => (k_here; (with_reducible show wpAny _ _ (PySem.call (Value.ref 45) _) _ _ _); k_dflt (refine fault_call (by k_asm) (by k_asm) (by k_asm) (by rfl) (by walk_at "mine le") (by walk_at "mine le") ?_; k_whole); intro _ _ _ _ _ _ _ _ _)
  k_with "exec Raise some none" => (k_here; k_dflt (refine Raise_fault (by rfl) ?_))
  trivial
/-- what a call that faults hands on -/
def RaisedD (s : Shared) (outer : List Env) (v : Value) (s' : Shared) : Prop :=
  ∃ e de B od x h' tk', v = .ref e ∧ s' = { s with heap := h', toks := tk' } ∧ FlyD B outer e de .none h' ∧ (∀ b o, s.heap.get? b = some o → b ∉ outer.filterMap (·.frame) → B.get? b = some o) ∧
    B.get? de = some od ∧ Says od x ∧ (x == ("" : Str)) = false ∧ s.heap.UpToSlots h'

abbrev AF (d : Nat) (fr : List Env) : Around := ⟨none, d, some fr, none, d⟩
theorem strNe {p y : Str} (h : 0 < p.cps.size) : (p ++ y == ("" : Str)) = false := by
  apply beq_eq_false_iff_ne.mpr
  intro e
  have := congrArg (fun z : Str => z.cps.size) e
  simp only [Str.cps_append, Array.size_append] at this
  have e0 : (("" : Str)).cps.size = 0 := by decide
  rw [e0] at this
  omega
section
variable {prog : Program} {w : World} {s : Shared} {h : Heap} {L a e de : Addr} {m : Str → Option Value} {x : Str} {outer : List Env} {bs : Heap} {name : Str} {scope : Scope} {cd : Value} {d tk : Nat} {E : Value → Shared → Prop}
/-- a fault that a def raises leaves it -/
theorem raise_out (X : (Mine.hd.heap_39 w.params).In s.heap) (hFF : s.heap.FunFrames bs outer) (F : Fr s.heap L h m) (hf : FaultAt h e de x) (hn : NewF s.heap L e) (hd : NewF s.heap L de) (hx : (x == ("" : Str)) = false) (hk : scope.kind = .function)
    (hE : ∀ v s', RaisedD s outer v s' → E v s') :
    RaisableF w (fun e s' => wpAny (model prog w) ((AF d outer).deeper (envOf name scope L a cd)) (leaving (envOf name scope L a cd) e) (fun _ s'' => E e s'') (fun e' s'' => E e' s'') s') (.ref e) { s with heap := h, toks := tk } := by
  obtain ⟨vs, sl, od, he, h1, hde, hs⟩ := hf
  refine ⟨e, de, vs, sl, rfl, he, h1, X.keeps F.keep, ?_⟩
  have inO : ∀ c ∈ outer.filterMap (·.frame), ∃ o, s.heap.get? c = some o := fun c hc => by
    obtain ⟨_, o, ho, _⟩ := hFF.mem hc; exact ⟨o, ho⟩
  have hB : ∀ c, c ∈ e :: L :: outer.filterMap (·.frame) → (hideAll h (e :: L :: outer.filterMap (·.frame))).get? c = none := fun c hc => hideAll_none _ hc
  have FFo : h.FunFrames (hideAll h (e :: L :: outer.filterMap (·.frame))) outer :=
    funFrames_hide (hFF.of_keeps fun b o e _ => ⟨o, F.keep b o e, rfl⟩) fun env henv b hb => .tail _ (.tail _ (List.mem_filterMap.mpr ⟨env, henv, hb⟩))
  have FF : h.FunFrames (hideAll h (e :: L :: outer.filterMap (·.frame))) (envOf name scope L a cd :: outer) :=
    .cons (by show scope.kind ≠ .module; rw [hk]; decide) rfl F.ns (hB L (.tail _ (.head _))) FFo
  have hL : ∀ b o, s.heap.get? b = some o → b ≠ L := fun b o q => Nat.ne_of_lt (Nat.lt_of_lt_of_le (Heap.lt_size q) F.above)
  refine leaving_firstD (L := L) (Around.frames_deeper rfl) FF rfl he (fun b o q => of_hideAll _ q) (hB e (.head _)) h1 fun h' R u => ?_
  refine hE _ _ ⟨e, de, _, od, x, h', tk, rfl, rfl, R, fun b o q hb => hideAll_get _ (F.keep b o q) fun hm => ?_, hideAll_get _ hde fun hm => ?_, hs, hx, fun b o q hb => u b o (F.keep b o q) hb⟩
  · rcases List.mem_cons.mp hm with rfl | hm
    · rw [hn.1] at q; cases q
    · rcases List.mem_cons.mp hm with rfl | hm
      · exact hL _ _ q rfl
      · exact hb hm
  · rcases List.mem_cons.mp hm with rfl | hm
    · rw [he] at hde
      obtain ⟨es, n, tx, rfl, _⟩ := hs
      cases hde
    · rcases List.mem_cons.mp hm with rfl | hm
      · exact hd.2 rfl
      · obtain ⟨o, ho⟩ := inO _ hm
        rw [hd.1] at ho; cases ho
end
theorem rowsS8_2 : True := by
  k_with "mine raised" => (refine raise_out (s := s) (by assumption) hFF (by assumption) (by assumption) (by assumption) (by assumption) (by exact strNe (by decide)) (by rfl) hE)
  trivial
theorem bind_raise {prog : Program} {w : World} {mg mb : Str → Option Value} {s : Shared} (G : G0 w mg mb s.heap) {aF aK aN a b : Addr} {its : List Value} {i : Nat} {σ : Nat → Option Ty} {t : Ty} {outer : List Env} {bs : Heap}
    (I : InfAt s.heap aF aK aN) (hK : s.heap.IsList aK its.toArray) (Kn : Known s.heap its σ) (ha : Rep s.heap a (.v i)) (hb : Rep s.heap b t) (hroot : IsRoot σ t) (hbt : bindTo i t = none) (hFF : s.heap.FunFrames bs outer) {Q E : Value → Shared → Prop}
    (hE : ∀ v s', RaisedD s outer v s' → E v s') :
    wpAny (model prog w) (AF 650 outer) (PySem.call (.ref 128) [.ref aF, .ref a, .ref b]) Q E s := by
  refine wpAny_call ?_
  have KX := G.X
  have T := G.T
  refine' enter0 G.X G.T.nolimit ?ho ?hcd ?hroom ?hbind ?hloc ?_ ?c1 ?c2 ?c3 ?c4
  walk_at "mine enter"
  intro L h₁ F N
  obtain ⟨dF, e1, e2, t1, t2, I'⟩ := id I
  have hr := hroot.rootN
  have e₀ := ha
  obtain ⟨la, ea, xa⟩ := ha
  obtain ⟨tk1, u1, rfl⟩ := xa
  have hb' := hb
  revert hr hroot hbt hb'
  refine hb.cases (P := fun t => IsRoot σ t → bindTo i t = none → RootN σ 0 t t → Rep s.heap b t → _) ?_ ?_ ?_ ?_ ?_ ?_
  · intro j tk2 u2 q e hroot hbt hr hb'
    simp only [bindTo] at hbt; split at hbt <;> cases hbt
  · intro j tk2 u2 q e hroot hbt hr hb'
    simp only [bindTo] at hbt; split at hbt <;> cases hbt
  · intro tk2 u2 e hroot hbt hr hb'
    cases hbt
  · intro tk2 u2 e hroot hbt hr hb'
    cases hbt
  · intro tk2 e hroot hbt hr hb'
    have p : i % 2 = 1 := by
      by_cases p : i % 2 = 1
      · exact p
      · simp [bindTo, p] at hbt
    rw [show varName i = "intvar" from if_pos p] at ea
    k_steps
    walk_at "mine raised"
  · intro tk2 u2 e hroot hbt hr hb'
    have p : i % 2 = 1 := by
      by_cases p : i % 2 = 1
      · exact p
      · simp [bindTo, p] at hbt
    rw [show varName i = "intvar" from if_pos p] at ea
    k_steps
    walk_at "mine raised"
end PartS8
section PartS8k
def Ty.kind : Ty → Str
  | .v n => varName n
  | .u8 => "int"
  | .i32 => "int"
  | .bool => "bool"
  | .par => "param"
theorem item_kind {prog : Program} {w : World} {A : Around} {s : Shared} {E : Value → Shared → Prop} {value slice : PySem.Expr} {g : Heap} {L x : Addr} {m : Str → Option Value} {t : Ty} {u : Tok} {Q : Value → Shared → Prop}
    (F : Fr g L s.heap m) (R : Rep g x t) (h : ∀ tk, Q (.str t.kind tk) s)
    (hs : subscripted slice false (.ref x) (.int 0 u) = operate [.ref x, .int 0 u] (getItem (.ref x) (.int 0 u)) := by with_unfolding_all rfl) :
    wpAny (model prog w) A (subscriptTail value slice (.ref x) (.int 0 u)) Q E s := by
  obtain ⟨l, e, i⟩ := R.keeps F.keep
  cases t with
  | v n => obtain ⟨tk, u', rfl⟩ := i; exact item_tupleT e (by decide) (by decide) rfl rfl (h tk) hs
  | bool => obtain ⟨tk, rfl⟩ := i; exact item_tupleT e (by decide) (by decide) rfl rfl (h tk) hs
  | _ => obtain ⟨tk, u', rfl⟩ := i; exact item_tupleT e (by decide) (by decide) rfl rfl (h tk) hs
theorem in_vars {prog : Program} {w : World} {A : Around} {E : Value → Shared → Prop} {s : Shared} {c : Addr} {t : Ty} {u a b : Tok} {Q : Value → Shared → Prop} {z : Bool}
    (hc : IsTup s.heap c [Value.str "var" a, .str "intvar" b].toArray) (hz : (["var", "intvar"] : List Str).any (· == t.kind) = z) (h : Q (.bool z) s) : wpAny (model prog w) A (compareOp .In (.str t.kind u) (.ref c)) Q E s :=
  in_tuple_strs hc (.cons _ _ (.cons _ _ .nil)) (by rw [hz]; exact h)
theorem var_yes {i : Nat} : (["var", "intvar"] : List Str).any (· == (Ty.v i).kind) = true := by
  show (["var", "intvar"] : List Str).any (· == varName i) = true
  rcases varName_cases i with e | e <;> rw [e] <;> decide
theorem var_no {t : Ty} (h : ∀ i, t ≠ .v i) : (["var", "intvar"] : List Str).any (· == t.kind) = false := by
  cases t with
  | v i => exact absurd rfl (h i)
  | _ => decide
end PartS8k
section PartS9
theorem rowsS9_0 : True := by
  k_with_none
  k_with "mine enter" => (
    (case ho => k_is); (case hcd => k_is); (case hroom => exact Nat.le_of_ble_eq_true rfl)
    (case hbind => first | exact binds_K (by k_in) rfl (by k_is) rfl rfl rfl | exact BindsTo.of_eq rfl)
    (case hloc => exact locs rfl)
    (case c1 => decide); (case c2 => rfl); (case c3 => rfl); (case c4 => rfl))
  k_with "mine le" => (exact Nat.le_of_ble_eq_true rfl)
  k_with "subscriptTail" => (k_here; (with_reducible show wpAny _ _ (subscriptTail _ _ (Value.ref _) (Value.int _ _)) _ _ _); k_dflt (refine item_tupleT (by is_tup) (by decide) (by decide) (by rfl) (by rfl) ?_; k_whole))
  k_with "subscriptTail" => (k_here; (with_reducible show wpAny _ _ (subscriptTail _ _ (Value.ref _) (Value.int _ _)) _ _ _); k_dflt (refine item_listB (by is_list) (by omega) (by omega) (by assumption) ?_ (by with_unfolding_all rfl); k_whole))
  k_with "k_inst" => (exact InstAt.keepsB (by assumption) (Fr.keep (by assumption)))
  k_with "mine around" => ((case hh => rfl); (case hd => exact Nat.le_of_ble_eq_true rfl); (case hu => exact Nat.le_of_ble_eq_true rfl))
  k_with "call ref" => (k_here; (with_reducible show wpAny _ _ (PySem.call (Value.ref 109) _) _ _ _); k_dflt (refine shallow_call (by k_asm) (by k_asm) (by first | assumption | exact fun b o e => e) (by assumption) (by assumption) (by is_list) (by assumption) (by assumption) (by assumption) (by rfl) (by walk_at "mine le") (by walk_at "mine le") ?_; k_whole); intro _ _ _ _ _ _ _)
  k_with "call ref" => (k_here; (with_reducible show wpAny _ _ (PySem.call (Value.ref 54) _) _ _ _); k_dflt (refine parts_call (by k_asm) (by k_asm) (by assumption) (by assumption) (by rfl) (by walk_at "mine le") (by walk_at "mine le") ?_; k_whole); intro _ _ _ _ _ l1; (try dsimp only [AllNe] at l1))
  k_with "call ref" => (k_here; (with_reducible show wpAny _ _ (PySem.call (Value.ref 61) _) _ _ _); k_dflt (refine rebuilt_call (by k_asm) (by k_asm) (by assumption) (by assumption) (by rfl) (by walk_at "mine le") (by walk_at "mine le") ?_; k_whole); intro _ _ _ _)
  k_with "compareOp Eq ref ref" => (k_here; k_dflt (refine eq_rep_not (by k_asm) (by assumption) (by assumption) (by assumption) (by walk_at "mine le") ?_; k_whole))
  k_with "compareOp NotEq ref ref" => (k_here; k_dflt (refine neq_lists_one (by k_asm) (by is_list) (by assumption) (by is_list) (by walk_at "mine le") ?_; k_whole))
  k_with "compareOp NotEq ref ref" => (k_here; k_dflt (refine neq_lists_nil (by is_list) (by is_list) (by walk_at "mine le") ?_; k_whole))
  k_with "call builtin:list.extend" => (k_here; (with_reducible show wpAny _ _ (PySem.call (Value.builtin _) [Value.ref _, Value.ref _]) _ _ _); k_dflt (refine ext_tup (by k_asm) (by k_asm) (by k_mem) (by k_upd) (by kl_no) (by walk_at "mine le") (by walk_at "mine le") ?_); intro _ _ N'; (try dsimp only at N'))
  k_with "call ref" => (k_here; (with_reducible show wpAny _ _ (PySem.call (Value.ref 121) _) _ _ _); k_dflt (refine occurs_call (by k_asm) (by k_asm) (by first | assumption | exact fun b o e => e) (by assumption) (by assumption) (by is_list) (by assumption) (by assumption) (by assumption) (by assumption) (by assumption) (by rfl) (by walk_at "mine le") (by walk_at "mine le") ?_; k_whole); intro _ _ _ _)
  k_with "setItem ref int" => (k_here; (with_reducible show wpAny _ _ (setItem (Value.ref _) (Value.int _ _) (Value.ref _)) _ _ _); k_dflt (refine set_any (by k_asm) (by k_asm) (by k_upd) (by omega) (by omega) (by omega) ?_; k_whole); intro _ _ _)
  k_with "call ref" => (k_here; (with_reducible show wpAny _ _ (PySem.call (Value.ref 114) _) _ _ _); k_dflt (refine resolved_call (by k_asm) (by k_asm) (by first | assumption | exact fun b o e => e) (by assumption) (by assumption) (by is_list) (by assumption) (by assumption) (by assumption) (by rfl) (by walk_at "mine le") (by walk_at "mine le") ?_; k_whole); intro _ _ _ _ _ _ _)
  k_with "call ref" => (k_here; (with_reducible show wpAny _ _ (PySem.call (Value.ref 73) _) _ _ _); k_dflt (refine text_call (by k_asm) (by k_asm) (by assumption) (by assumption) (by exact rfl) (by rfl) (by walk_at "mine le") (by walk_at "mine le") ?_; k_whole); intro _ _ _ _ _)
  k_with "call ref" => (k_here; (with_reducible show wpAny _ _ (PySem.call (Value.ref 45) _) _ _ _); k_dflt (refine fault_call (by k_asm) (by k_asm) (by k_asm) (by rfl) (by walk_at "mine le") (by walk_at "mine le") ?_; k_whole); intro _ _ _ _ _ _ _ _ _)
  k_with "exec Raise some none" => (k_here; k_dflt (refine Raise_fault (by rfl) ?_))
  trivial
section
variable {prog : Program} {w : World} {mg mb : Str → Option Value} {A : Around} {s : Shared} {g g₀ : Heap} {L : Addr} {m : Str → Option Value} {news : List (Addr × Obj)} {aF aK aN a b : Addr} {its : List Value} {n i k ep : Nat} {σ : Nat → Option Ty} {t r : Ty} {x : Str} {tk : Tok} {Q E : Value → Shared → Prop} {gf : Obj → List (Addr × Obj)}
/-- a call turned one object of the ledger -/
theorem turn_one {h h' : Heap} {o o' : Obj} (F : Fr g L h m) (N : News g L h news) (U : UpdF aK o news gf) (e : h'.get? aK = some o') (k : ∀ b ob, b ≠ aK → h.get? b = some ob → h'.get? b = some ob) : Fr g L h' m ∧ News g L h' (gf o') := by
  obtain ⟨pre, post, rfl, hg, h1, h2⟩ := U.split
  have z := N (aK, o) (List.mem_append.mpr (.inr (.head _)))
  obtain ⟨oL, es, epp, hL, r⟩ := F.ns
  refine ⟨⟨⟨oL, es, epp, k _ _ (fun q => z.2.1 q.symm) hL, r⟩, fun b ob q => k b ob (fun q' => ?_) (F.keep b ob q), F.above⟩, ?_⟩
  · have := z.2.2; rw [← q', q] at this; cases this
  · rw [hg]
    intro p hp
    rcases List.mem_append.mp hp with hp | hp
    · have y := N p (List.mem_append.mpr (.inl hp))
      exact ⟨k _ _ (h1 p hp) y.1, y.2⟩
    · rcases List.mem_cons.mp hp with rfl | hp
      · exact ⟨e, z.2⟩
      · have y := N p (List.mem_append.mpr (.inr (.tail _ hp)))
        exact ⟨k _ _ (h2 p hp) y.1, y.2⟩
theorem bind_call (F : Fr g L s.heap m) (N : News g L s.heap news) (st : g₀.StaysIn g) (G : G0 w mg mb g₀) (I : InfAt g₀ aF aK aN) (Kn : Known g₀ its σ) (U : UpdF aK (W.listOf its.toArray ep) news gf) (ha : Rep g₀ a (.v i)) (hb : Rep g₀ b t) (hroot : IsRoot σ t) (hi : i < 6) (hne : t ≠ .v i) (hbt : bindTo i t = some (k, r))
    (hh : A.handled = none) (hd : A.depth ≤ 750) (hu : A.units ≤ 750)
    (hQ : ∀ h' tk' ep' ad, Fr g L h' m → News g L h' (gf (W.listOf (its.set k (.ref ad)).toArray ep')) → Rep g₀ ad r → Q .none { s with heap := h', toks := tk' }) :
    wpAny (model prog w) A (PySem.call (.ref 128) [.ref aF, .ref a, .ref b]) Q E s := by
  obtain ⟨pre, post, e, _, _, _⟩ := U.split
  have z := N (aK, W.listOf its.toArray ep) (by rw [e]; exact List.mem_append.mpr (.inr (.head _)))
  have hn : g₀.get? aK = none := by
    cases q : g₀.get? aK with
    | none => rfl
    | some o => have := z.2.2; rw [st _ _ q] at this; cases this
  refine lift (bind_spec (fun b o e => F.keep b o (st b o e)) G I z.1 hn Kn hi ha hb hroot hne hbt fun h' tk' ep' ad R e' kk => ?_) hh hd hu
  obtain ⟨F', N'⟩ := turn_one F N U e' kk
  exact hQ h' tk' ep' ad F' N' R
end
theorem rowsS9_1 : True := by
  k_with "call ref" => (k_here; (with_reducible show wpAny _ _ (PySem.call (Value.ref 128) _) _ _ _); k_dflt (refine bind_call (by k_asm) (by k_asm) (by first | assumption | exact fun b o e => e) (by assumption) (by assumption) (by assumption) (by k_updF) (by assumption) (by assumption) (by assumption) (by assumption) (by assumption) (by assumption) (by rfl) (by walk_at "mine le") (by walk_at "mine le") ?_; k_whole); intro _ _ _ _ _ _ _)
  trivial
section
variable {prog : Program} {w : World} {A : Around} {E : Value → Shared → Prop} {s : Shared} {a b x y D : Addr} {t r : Ty} {Q : Value → Shared → Prop} {g : Heap} {L : Addr} {m : Str → Option Value}
theorem shaped_pair (t r : Ty) : SeqAt.shaped (.list [.tuple [t.data, r.data]]) = true := by
  unfold SeqAt.shaped
  have h1 := t.depth
  have h2 := r.depth
  simp only [PyData.canLay0, PyData.canLayAll0, PyData.depth, PyData.depthAll, t.canLay, r.canLay, Bool.true_and, Bool.and_self]
  exact decide_eq_true (by omega)
theorem neq_pair (F : Fr g L s.heap m) (hl : s.heap.IsList x [Value.ref D].toArray) (hD : IsTup s.heap D [Value.ref a, Value.ref b].toArray) (ra : Rep g a t) (rb : Rep g b r) (hl' : s.heap.IsList y ([] : List Value).toArray) (hu : A.units + 64 < cLine) (h : Q (.bool true) s) :
    wpAny (model prog w) A (compareOp .NotEq (.ref x) (.ref y)) Q E s := by
  obtain ⟨ol, hol, hlc, nl, hld⟩ := hl
  obtain ⟨oD, hoD, hDc, nD, hDd⟩ := hD
  have rD : Reads s.heap (.ref D) (.tuple [t.data, r.data]) [] := .tuple hoD hDc hDd (readsAll_two (ra.keeps F.keep).reads (rb.keeps F.keep).reads)
  have rl : Reads s.heap (.ref x) (.list [.tuple [t.data, r.data]]) [x] := reads_list_at hol hlc hld (readsAll_one rD)
  exact ne_dataH rl (isList_reads hl' .nil) (shaped_pair t r) (shapedL []) hu (by simpa [PyData.eqv, PyData.eqvAll] using h)
end
theorem rowsS9_2 : True := by
  k_with "compareOp NotEq ref ref" => (k_here; k_dflt (refine neq_pair (by k_asm) (by is_list) (by is_tup) (by assumption) (by assumption) (by is_list) (by walk_at "mine le") ?_; k_whole))
  k_with "compareOp Eq ref ref" => (k_here; k_dflt (refine eq_rep_same (by k_asm) (by assumption) (by assumption) (by walk_at "mine le") ?_; k_whole))
  trivial
/-- what unify does with two roots: none where it raises, some none where nothing is turned -/
def unifyTo (r₁ r₂ : Ty) : Option (Option (Nat × Ty)) :=
  if r₁ = r₂ then some none else match r₁ with
    | .v i => (bindTo i r₂).map some
    | t => match r₂ with
      | .v j => (bindTo j t).map some
      | _ => none

theorem rowsS9_3 : True := by
  k_with "subscriptTail" => (k_here; (with_reducible show wpAny _ _ (subscriptTail _ _ (Value.ref _) (Value.int 0 _)) _ _ _); k_dflt (refine item_kind (by k_asm) (by assumption) ?_ (by with_unfolding_all rfl); k_whole); intro _)
  k_with "compareOp In str ref" => (k_here; (with_reducible show wpAny _ _ (compareOp CmpOp.In (Value.str (Ty.kind _) _) (Value.ref _)) _ _ _); k_dflt (first | (refine in_vars (by is_tup) var_yes ?_; k_whole) | (refine in_vars (by is_tup) (var_no (by assumption)) ?_; k_whole)))
  k_with "mine unif" => (
    (with_reducible rename Fr _ _ _ _ => F1); (with_reducible rename News _ _ _ _ => N1); (rename Rep g₀ _ _ => RR)
    refine' hQ _ _ _ _ ?A ?B (News.get N1 ?M) (fin _ F1.keep)
    (case M => k_mem); (case A => (intro e; cases e)); (case B => (intro k' t' e'; cases e'; exact ⟨_, RR, rfl⟩)))
  trivial
theorem unify_spec {prog : Program} {w : World} {mg mb : Str → Option Value} {s : Shared} {g₀ : Heap} (st : g₀.StaysIn s.heap) (G : G0 w mg mb g₀) {aF aK aN a b : Addr} {its : List Value} {ep n₁ n₂ : Nat} {σ : Nat → Option Ty} {t₁ t₂ r₁ r₂ : Ty} {o : Option (Nat × Ty)}
    (I : InfAt g₀ aF aK aN) (hK : s.heap.get? aK = some (W.listOf its.toArray ep)) (hKn : g₀.get? aK = none) (Kn : Known g₀ its σ) (ha : Rep g₀ a t₁) (hb : Rep g₀ b t₂) (hr₁ : RootN σ n₁ t₁ r₁) (hr₂ : RootN σ n₂ t₂ r₂) (ho : unifyTo r₁ r₂ = some o) {Q E : Value → Shared → Prop}
    (hQ : ∀ h' tk' ep' its', (o = none → its' = its) → (∀ k t, o = some (k, t) → ∃ ad, Rep g₀ ad t ∧ its' = its.set k (.ref ad)) → h'.get? aK = some (W.listOf its'.toArray ep') → (∀ b o, b ≠ aK → s.heap.get? b = some o → h'.get? b = some o) → Q .none { s with heap := h', toks := tk' }) :
    wpAny (model prog w) (AR 700) (PySem.call (.ref 142) [.ref aF, .ref a, .ref b]) Q E s := by
  refine wpAny_call ?_
  have KX := G.X
  refine' enter [(aK, W.listOf its.toArray ep)] G.X st ?hm G.T.nolimit ?ho ?hcd ?hroom ?hbind ?hloc ?_ ?c1 ?c2 ?c3 ?c4
  case hm => intro p hp; rcases List.mem_singleton.mp hp with rfl; exact ⟨hK, hKn⟩
  walk_at "mine enter"
  intro g L h₁ stg gd gu F N KX'
  have T := G.T.keeps stg
  have I' := I.keeps stg
  clear KX
  obtain ⟨dF, e1, e2, t1, t2, I'⟩ := I'
  have hlen := Kn.1
  have ha' := ha.keeps stg
  have hb' := hb.keeps stg
  have fin : ∀ h' : Heap, (∀ c o, g.get? c = some o → h'.get? c = some o) → ∀ b o, b ≠ aK → s.heap.get? b = some o → h'.get? b = some o :=
    fun h' k b o hb e => k b o (gu b o e (by simpa using hb))
  have q₁ := hr₁.isRoot
  have q₂ := hr₂.isRoot
  by_cases q : r₁ = r₂
  · subst q
    have ho' : o = none := by simpa [unifyTo] using ho.symm
    subst ho'
    k_steps
    (with_reducible rename Fr _ _ _ _ => F1); (with_reducible rename News _ _ _ _ => N1)
    refine' hQ _ _ _ its ?_ ?_ (News.get N1 ?M) (fin _ F1.keep)
    case M => k_mem
    · intro _; rfl
    · intro k t e; cases e
  · by_cases v1 : ∀ i, r₁ ≠ .v i
    · obtain ⟨j, rfl⟩ : ∃ j, r₂ = .v j := by
        cases r₂ with
        | v j => exact ⟨j, rfl⟩
        | _ =>
          exfalso
          unfold unifyTo at ho
          rw [if_neg q] at ho
          cases r₁ with
          | v i => exact v1 i rfl
          | _ => cases ho
      have hi := (q₂ j rfl).1
      have ho' : (bindTo j r₁).map some = some o := by
        have := ho
        unfold unifyTo at this
        rw [if_neg q] at this
        cases r₁ with
        | v i => exact absurd rfl (v1 i)
        | _ => exact this
      obtain ⟨⟨k, r⟩, hbt, ho''⟩ := Option.map_eq_some_iff.mp ho'
      subst ho''
      k_steps
      walk_at "mine unif"
    · obtain ⟨i, rfl⟩ : ∃ i, r₁ = .v i := by
        cases r₁ with
        | v i => exact ⟨i, rfl⟩
        | _ => exact absurd (fun i e => nomatch e) v1
      clear v1
      have hi := (q₁ i rfl).1
      have hne : r₂ ≠ .v i := fun e => q e.symm
      have ho' : (bindTo i r₂).map some = some o := by
        have := ho
        unfold unifyTo at this
        rw [if_neg q] at this
        exact this
      obtain ⟨⟨k, r⟩, hbt, ho''⟩ := Option.map_eq_some_iff.mp ho'
      subst ho''
      k_steps
      walk_at "mine unif"
end PartS9
section PartS10
theorem rowsS10_0 : True := by
  k_with_none
  k_with "mine enter" => (
    (case ho => k_is); (case hcd => k_is); (case hroom => exact Nat.le_of_ble_eq_true rfl)
    (case hbind => first | exact binds_K (by k_in) rfl (by k_is) rfl rfl rfl | exact BindsTo.of_eq rfl)
    (case hloc => exact locs rfl)
    (case c1 => decide); (case c2 => rfl); (case c3 => rfl); (case c4 => rfl))
  k_with "mine le" => (exact Nat.le_of_ble_eq_true rfl)
  k_with "subscriptTail" => (k_here; (with_reducible show wpAny _ _ (subscriptTail _ _ (Value.ref _) (Value.int _ _)) _ _ _); k_dflt (refine item_tupleT (by is_tup) (by decide) (by decide) (by rfl) (by rfl) ?_; k_whole))
  k_with "subscriptTail" => (k_here; (with_reducible show wpAny _ _ (subscriptTail _ _ (Value.ref _) (Value.int _ _)) _ _ _); k_dflt (refine item_listB (by is_list) (by omega) (by omega) (by assumption) ?_ (by with_unfolding_all rfl); k_whole))
  k_with "k_inst" => (exact InstAt.keepsB (by assumption) (Fr.keep (by assumption)))
  k_with "mine around" => ((case hh => rfl); (case hd => exact Nat.le_of_ble_eq_true rfl); (case hu => exact Nat.le_of_ble_eq_true rfl))
  k_with "call ref" => (k_here; (with_reducible show wpAny _ _ (PySem.call (Value.ref 109) _) _ _ _); k_dflt (refine shallow_call (by k_asm) (by k_asm) (by first | assumption | exact fun b o e => e) (by assumption) (by assumption) (by is_list) (by assumption) (by assumption) (by assumption) (by rfl) (by walk_at "mine le") (by walk_at "mine le") ?_; k_whole); intro _ _ _ _ _ _ _)
  k_with "call ref" => (k_here; (with_reducible show wpAny _ _ (PySem.call (Value.ref 54) _) _ _ _); k_dflt (refine parts_call (by k_asm) (by k_asm) (by assumption) (by assumption) (by rfl) (by walk_at "mine le") (by walk_at "mine le") ?_; k_whole); intro _ _ _ _ _ l1; (try dsimp only [AllNe] at l1))
  k_with "call ref" => (k_here; (with_reducible show wpAny _ _ (PySem.call (Value.ref 61) _) _ _ _); k_dflt (refine rebuilt_call (by k_asm) (by k_asm) (by assumption) (by assumption) (by rfl) (by walk_at "mine le") (by walk_at "mine le") ?_; k_whole); intro _ _ _ _)
  k_with "compareOp Eq ref ref" => (k_here; k_dflt (refine eq_rep_not (by k_asm) (by assumption) (by assumption) (by assumption) (by walk_at "mine le") ?_; k_whole))
  k_with "compareOp NotEq ref ref" => (k_here; k_dflt (refine neq_lists_one (by k_asm) (by is_list) (by assumption) (by is_list) (by walk_at "mine le") ?_; k_whole))
  k_with "compareOp NotEq ref ref" => (k_here; k_dflt (refine neq_lists_nil (by is_list) (by is_list) (by walk_at "mine le") ?_; k_whole))
  k_with "call builtin:list.extend" => (k_here; (with_reducible show wpAny _ _ (PySem.call (Value.builtin _) [Value.ref _, Value.ref _]) _ _ _); k_dflt (refine ext_tup (by k_asm) (by k_asm) (by k_mem) (by k_upd) (by kl_no) (by walk_at "mine le") (by walk_at "mine le") ?_); intro _ _ N'; (try dsimp only at N'))
  k_with "call ref" => (k_here; (with_reducible show wpAny _ _ (PySem.call (Value.ref 121) _) _ _ _); k_dflt (refine occurs_call (by k_asm) (by k_asm) (by first | assumption | exact fun b o e => e) (by assumption) (by assumption) (by is_list) (by assumption) (by assumption) (by assumption) (by assumption) (by assumption) (by rfl) (by walk_at "mine le") (by walk_at "mine le") ?_; k_whole); intro _ _ _ _)
  k_with "setItem ref int" => (k_here; (with_reducible show wpAny _ _ (setItem (Value.ref _) (Value.int _ _) (Value.ref _)) _ _ _); k_dflt (refine set_any (by k_asm) (by k_asm) (by k_upd) (by omega) (by omega) (by omega) ?_; k_whole); intro _ _ _)
  k_with "call ref" => (k_here; (with_reducible show wpAny _ _ (PySem.call (Value.ref 114) _) _ _ _); k_dflt (refine resolved_call (by k_asm) (by k_asm) (by first | assumption | exact fun b o e => e) (by assumption) (by assumption) (by is_list) (by assumption) (by assumption) (by assumption) (by rfl) (by walk_at "mine le") (by walk_at "mine le") ?_; k_whole); intro _ _ _ _ _ _ _)
  k_with "call ref" => (k_here; (with_reducible show wpAny _ _ (PySem.call (Value.ref 73) _) _ _ _); k_dflt (refine text_call (by k_asm) (by k_asm) (by assumption) (by assumption) (by exact rfl) (by rfl) (by walk_at "mine le") (by walk_at "mine le") ?_; k_whole); intro _ _ _ _ _)
  k_with "call ref" => (k_here; (with_reducible show wpAny _ _ (PySem.call (Value.ref 45) _) _ _ _); k_dflt (refine fault_call (by k_asm) (by k_asm) (by k_asm) (by rfl) (by walk_at "mine le") (by walk_at "mine le") ?_; k_whole); intro _ _ _ _ _ _ _ _ _)
  k_with "exec Raise some none" => (k_here; k_dflt (refine Raise_fault (by rfl) ?_))
  k_with "call ref" => (k_here; (with_reducible show wpAny _ _ (PySem.call (Value.ref 128) _) _ _ _); k_dflt (refine bind_call (by k_asm) (by k_asm) (by first | assumption | exact fun b o e => e) (by assumption) (by assumption) (by assumption) (by k_updF) (by assumption) (by assumption) (by assumption) (by assumption) (by assumption) (by assumption) (by rfl) (by walk_at "mine le") (by walk_at "mine le") ?_; k_whole); intro _ _ _ _ _ _ _)
  k_with "compareOp NotEq ref ref" => (k_here; k_dflt (refine neq_pair (by k_asm) (by is_list) (by is_tup) (by assumption) (by assumption) (by is_list) (by walk_at "mine le") ?_; k_whole))
  k_with "compareOp Eq ref ref" => (k_here; k_dflt (refine eq_rep_same (by k_asm) (by assumption) (by assumption) (by walk_at "mine le") ?_; k_whole))
  trivial
theorem alike_spec {prog : Program} {w : World} {mg mb : Str → Option Value} {s : Shared} (G : G0 w mg mb s.heap) {aF a b : Addr} {t r : Ty} (ha : Rep s.heap a t) (hb : Rep s.heap b r) (h1 : ∀ i, t ≠ .v i) (h2 : ∀ i, r ≠ .v i) (hne : t ≠ r) {Q E : Value → Shared → Prop}
    (hQ : ∀ h' tk', s.heap.StaysIn h' → Q (.bool false) { s with heap := h', toks := tk' }) :
    wpAny (model prog w) (AR 850) (PySem.call (.ref 135) [.ref aF, .ref a, .ref b]) Q E s := by
  refine wpAny_call ?_
  have KX := G.X
  have T := G.T
  refine' enter0 G.X G.T.nolimit ?ho ?hcd ?hroom ?hbind ?hloc ?_ ?c1 ?c2 ?c3 ?c4
  walk_at "mine enter"
  intro L h₁ F N
  have ha' := ha
  have hb' := hb
  cases t <;> cases r <;> first | exact absurd rfl (h1 _) | exact absurd rfl (h2 _) | exact absurd rfl hne | skip
  all_goals
    obtain ⟨l1, el, xl⟩ := ha
    obtain ⟨l2, el2, xl2⟩ := hb
    (first | obtain ⟨tk1, u1, rfl⟩ := xl | obtain ⟨tk1, rfl⟩ := xl)
    (first | obtain ⟨tk2, u2, rfl⟩ := xl2 | obtain ⟨tk2, rfl⟩ := xl2)
    k_steps
    (with_reducible rename Fr _ _ _ _ => F1)
    exact hQ _ _ F1.keep

theorem in_liftF {d : Nat} {fr : List Env} {A : Around} {Γ : PySem.Ctx} (hh : A.handled = none) (hf : A.frames = some fr) (hd : A.depth ≤ d) (hu : A.units ≤ d) (h : Γ.In A) : Γ.In (AF d fr) :=
  ⟨h.1.trans hh, Nat.le_trans h.2.1 hd, fun l e => h.2.2.1 l (hf.trans e), fun _ e => (nomatch e), Nat.le_trans h.2.2.2.2 hu⟩
theorem liftF {α : Type} {M : Model} {d : Nat} {fr : List Env} {A : Around} {t : Sem α} {Q : α → Shared → Prop} {E : Value → Shared → Prop} {s : Shared}
    (h : wpAny M (AF d fr) t Q E s) (hh : A.handled = none) (hf : A.frames = some fr) (hd : A.depth ≤ d) (hu : A.units ≤ d) : wpAny M A t Q E s :=
  fun Γ p hΓ => h Γ p (in_liftF hh hf hd hu hΓ)

section
variable {prog : Program} {w : World} {mg mb : Str → Option Value} {A : Around} {s s₁ : Shared} {g g₀ h : Heap} {L a b f : Addr} {m : Str → Option Value} {news : List (Addr × Obj)} {aF aK aN : Addr} {its : List Value} {n i k ep d : Nat} {σ : Nat → Option Ty} {t r : Ty} {Q E : Value → Shared → Prop} {outer : List Env} {bs : Heap} {name : Str} {scope : Scope} {cd : Value}
theorem alike_call (F : Fr g L s.heap m) (N : News g L s.heap news) (G : G0 w mg mb g) (ha : Rep g a t) (hb : Rep g b r) (h1 : ∀ i, t ≠ .v i) (h2 : ∀ i, r ≠ .v i) (hne : ¬ t = r)
    (hh : A.handled = none) (hd : A.depth ≤ 850) (hu : A.units ≤ 850)
    (k : ∀ h' tk', Fr g L h' m → News g L h' news → Q (.bool false) { s with heap := h', toks := tk' }) :
    wpAny (model prog w) A (PySem.call (.ref 135) [.ref aF, .ref a, .ref b]) Q E s :=
  lift (alike_spec (G.keeps F.keep) (ha.keeps F.keep) (hb.keeps F.keep) h1 h2 hne fun h' tk' st => k h' tk' (fr_grow F st) (news_grow N st)) hh hd hu

theorem ff_push (hFF : s.heap.FunFrames bs outer) (F : Fr s.heap L h m) (hk : scope.kind = .function) : ∃ bs', h.FunFrames bs' (envOf name scope L f cd :: outer) := by
  refine ⟨hideAll h (L :: outer.filterMap (·.frame)), .cons (by show scope.kind ≠ .module; rw [hk]; decide) rfl F.ns (hideAll_none _ (.head _)) ?_⟩
  exact funFrames_hide (hFF.of_keeps fun b o e _ => ⟨o, F.keep b o e, rfl⟩) fun env henv b hb => .tail _ (List.mem_filterMap.mpr ⟨env, henv, hb⟩)
/-- a fault flies through a frame -/
theorem through (F : Fr s.heap L s₁.heap m) (hs : s₁ = { s with heap := s₁.heap, toks := s₁.toks }) (hE : ∀ v s', RaisedD s outer v s' → E v s') {v : Value} {s' : Shared}
    (R : RaisedD s₁ (envOf name scope L f cd :: outer) v s') :
    wpAny (model prog w) ((AF d outer).deeper (envOf name scope L f cd)) (leaving (envOf name scope L f cd) v) (fun _ s'' => E v s'') (fun e' s'' => E e' s'') s' := by
  obtain ⟨e, de, B, od, x, h', tk', rfl, rfl, R, kB, hde, hs', hx, u⟩ := R
  refine leaving_nextD (L := L) (Around.frames_deeper rfl) rfl R fun h'' R' u' => ?_
  refine hE _ _ ⟨e, de, B, od, x, h'', tk', rfl, ?_, R', fun b o q hb => kB b o (F.keep b o q) fun hm => ?_, hde, hs', hx, ((Heap.UpToSlots.of_keeps F.keep).trans u).trans u'⟩
  · rw [hs]
  · rcases List.mem_cons.mp hm with rfl | hm
    · exact absurd (Heap.lt_size q) (Nat.not_lt.mpr F.above)
    · exact hb hm
theorem bind_callR (F : Fr s.heap L s₁.heap m) (G : G0 w mg mb s.heap) (I : InfAt s.heap aF aK aN) (hK : s.heap.IsList aK its.toArray) (Kn : Known s.heap its σ) (ha : Rep s.heap a (.v i)) (hb : Rep s.heap b t) (hroot : IsRoot σ t) (hbt : bindTo i t = none) (hFF : s.heap.FunFrames bs outer)
    (hk : scope.kind = .function) (hs : s₁ = { s with heap := s₁.heap, toks := s₁.toks }) (hd : d + 3 ≤ 650) (hE : ∀ v s', RaisedD s outer v s' → E v s') :
    wpAny (model prog w) ((AF d outer).deeper (envOf name scope L f cd)) (PySem.call (.ref 128) [.ref aF, .ref a, .ref b]) Q
      (fun e s' => wpAny (model prog w) ((AF d outer).deeper (envOf name scope L f cd)) (leaving (envOf name scope L f cd) e) (fun _ s'' => E e s'') (fun e' s'' => E e' s'') s') s₁ := by
  obtain ⟨bs', FF⟩ := ff_push (name := name) (f := f) (cd := cd) hFF F hk
  have k : ∀ b o, s.heap.get? b = some o → s₁.heap.get? b = some o := F.keep
  refine liftF (bind_raise (G.keeps k) (I.keeps k) (Fr.lst F hK) (Kn.keeps k) (ha.keeps k) (hb.keeps k) hroot hbt FF fun v s' R => through F hs hE R) rfl rfl ?_ ?_
  · show d + 1 ≤ 650; omega
  · show d + 3 ≤ 650; omega
end
end PartS10
section PartS11
theorem rowsS11_0 : True := by
  k_with_none
  k_with "mine enter" => (
    (case ho => k_is); (case hcd => k_is); (case hroom => exact Nat.le_of_ble_eq_true rfl)
    (case hbind => first | exact binds_K (by k_in) rfl (by k_is) rfl rfl rfl | exact BindsTo.of_eq rfl)
    (case hloc => exact locs rfl)
    (case c1 => decide); (case c2 => rfl); (case c3 => rfl); (case c4 => rfl))
  k_with "mine le" => (exact Nat.le_of_ble_eq_true rfl)
  k_with "subscriptTail" => (k_here; (with_reducible show wpAny _ _ (subscriptTail _ _ (Value.ref _) (Value.int _ _)) _ _ _); k_dflt (refine item_tupleT (by is_tup) (by decide) (by decide) (by rfl) (by rfl) ?_; k_whole))
  k_with "subscriptTail" => (k_here; (with_reducible show wpAny _ _ (subscriptTail _ _ (Value.ref _) (Value.int _ _)) _ _ _); k_dflt (refine item_listB (by is_list) (by omega) (by omega) (by assumption) ?_ (by with_unfolding_all rfl); k_whole))
  k_with "k_inst" => (exact InstAt.keepsB (by assumption) (Fr.keep (by assumption)))
  k_with "mine around" => ((case hh => rfl); (case hd => exact Nat.le_of_ble_eq_true rfl); (case hu => exact Nat.le_of_ble_eq_true rfl))
  k_with "call ref" => (k_here; (with_reducible show wpAny _ _ (PySem.call (Value.ref 109) _) _ _ _); k_dflt (refine shallow_call (by k_asm) (by k_asm) (by first | assumption | exact fun b o e => e) (by assumption) (by assumption) (by is_list) (by assumption) (by assumption) (by assumption) (by rfl) (by walk_at "mine le") (by walk_at "mine le") ?_; k_whole); intro _ _ _ _ _ _ _)
  k_with "call ref" => (k_here; (with_reducible show wpAny _ _ (PySem.call (Value.ref 54) _) _ _ _); k_dflt (refine parts_call (by k_asm) (by k_asm) (by assumption) (by assumption) (by rfl) (by walk_at "mine le") (by walk_at "mine le") ?_; k_whole); intro _ _ _ _ _ l1; (try dsimp only [AllNe] at l1))
  k_with "call ref" => (k_here; (with_reducible show wpAny _ _ (PySem.call (Value.ref 61) _) _ _ _); k_dflt (refine rebuilt_call (by k_asm) (by k_asm) (by assumption) (by assumption) (by rfl) (by walk_at "mine le") (by walk_at "mine le") ?_; k_whole); intro _ _ _ _)
  k_with "compareOp Eq ref ref" => (k_here; k_dflt (refine eq_rep_not (by k_asm) (by assumption) (by assumption) (by assumption) (by walk_at "mine le") ?_; k_whole))
  k_with "compareOp NotEq ref ref" => (k_here; k_dflt (refine neq_lists_one (by k_asm) (by is_list) (by assumption) (by is_list) (by walk_at "mine le") ?_; k_whole))
  k_with "compareOp NotEq ref ref" => (k_here; k_dflt (refine neq_lists_nil (by is_list) (by is_list) (by walk_at "mine le") ?_; k_whole))
  k_with "call builtin:list.extend" => (k_here; (with_reducible show wpAny _ _ (PySem.call (Value.builtin _) [Value.ref _, Value.ref _]) _ _ _); k_dflt (refine ext_tup (by k_asm) (by k_asm) (by k_mem) (by k_upd) (by kl_no) (by walk_at "mine le") (by walk_at "mine le") ?_); intro _ _ N'; (try dsimp only at N'))
  k_with "call ref" => (k_here; (with_reducible show wpAny _ _ (PySem.call (Value.ref 121) _) _ _ _); k_dflt (refine occurs_call (by k_asm) (by k_asm) (by first | assumption | exact fun b o e => e) (by assumption) (by assumption) (by is_list) (by assumption) (by assumption) (by assumption) (by assumption) (by assumption) (by rfl) (by walk_at "mine le") (by walk_at "mine le") ?_; k_whole); intro _ _ _ _)
  k_with "setItem ref int" => (k_here; (with_reducible show wpAny _ _ (setItem (Value.ref _) (Value.int _ _) (Value.ref _)) _ _ _); k_dflt (refine set_any (by k_asm) (by k_asm) (by k_upd) (by omega) (by omega) (by omega) ?_; k_whole); intro _ _ _)
  k_with "call ref" => (k_here; (with_reducible show wpAny _ _ (PySem.call (Value.ref 114) _) _ _ _); k_dflt (refine resolved_call (by k_asm) (by k_asm) (by first | assumption | exact fun b o e => e) (by assumption) (by assumption) (by is_list) (by assumption) (by assumption) (by assumption) (by rfl) (by walk_at "mine le") (by walk_at "mine le") ?_; k_whole); intro _ _ _ _ _ _ _)
  k_with "call ref" => (k_here; (with_reducible show wpAny _ _ (PySem.call (Value.ref 73) _) _ _ _); k_dflt (refine text_call (by k_asm) (by k_asm) (by assumption) (by assumption) (by exact rfl) (by rfl) (by walk_at "mine le") (by walk_at "mine le") ?_; k_whole); intro _ _ _ _ _)
  k_with "call ref" => (k_here; (with_reducible show wpAny _ _ (PySem.call (Value.ref 45) _) _ _ _); k_dflt (refine fault_call (by k_asm) (by k_asm) (by k_asm) (by rfl) (by walk_at "mine le") (by walk_at "mine le") ?_; k_whole); intro _ _ _ _ _ _ _ _ _)
  k_with "exec Raise some none" => (k_here; k_dflt (refine Raise_fault (by rfl) ?_))
  k_with "call ref" => (k_here; (with_reducible show wpAny _ _ (PySem.call (Value.ref 128) _) _ _ _); k_dflt (refine bind_call (by k_asm) (by k_asm) (by first | assumption | exact fun b o e => e) (by assumption) (by assumption) (by assumption) (by k_updF) (by assumption) (by assumption) (by assumption) (by assumption) (by assumption) (by assumption) (by rfl) (by walk_at "mine le") (by walk_at "mine le") ?_; k_whole); intro _ _ _ _ _ _ _)
  k_with "compareOp NotEq ref ref" => (k_here; k_dflt (refine neq_pair (by k_asm) (by is_list) (by is_tup) (by assumption) (by assumption) (by is_list) (by walk_at "mine le") ?_; k_whole))
  k_with "compareOp Eq ref ref" => (k_here; k_dflt (refine eq_rep_same (by k_asm) (by assumption) (by assumption) (by walk_at "mine le") ?_; k_whole))
  k_with "call ref" => (k_here; (with_reducible show wpAny _ _ (PySem.call (Value.ref 135) _) _ _ _); k_dflt (refine alike_call (by k_asm) (by k_asm) (by assumption) (by assumption) (by assumption) (by (intro i e; cases e)) (by (intro i e; cases e)) (by assumption) (by rfl) (by walk_at "mine le") (by walk_at "mine le") ?_; k_whole); intro _ _ _ _)
  k_with "call ref" => (k_here; (with_reducible show wpAny _ _ (PySem.call (Value.ref 128) _) _ _ _); k_dflt (refine bind_callR (s := s) (by k_asm) (by assumption) (by assumption) (by assumption) (by assumption) (by assumption) (by assumption) (by assumption) (by assumption) hFF (by rfl) (by rfl) (by walk_at "mine le") hE))
  k_with "mine raised" => (refine raise_out (s := s) (by assumption) hFF (by assumption) (by assumption) (by assumption) (by assumption) (by exact strNe (by decide)) (by rfl) hE)
  trivial
theorem len_text (t : Ty) : t.text.length ≤ 4 := match t with
  | .v _ => (by decide : ("_" : Str).length ≤ 4)
  | .u8 => (by decide : ("u8" : Str).length ≤ 4)
  | .i32 => (by decide : ("i32" : Str).length ≤ 4)
  | .bool => (by decide : ("bool" : Str).length ≤ 4)
  | .par => (by decide : ("X" : Str).length ≤ 4)
theorem len_app {x y : Str} {a b : Nat} (h1 : x.length ≤ a) (h2 : y.length ≤ b) : (x ++ y).length ≤ a + b := by
  have e : (x ++ y).length = x.length + y.length := by simp only [Str.length, Str.cps_append, Array.size_append]
  omega
theorem len_lit {x : Str} (h : Nat.ble x.length 40 = true) : x.length ≤ 40 := Nat.le_of_ble_eq_true h
theorem add_txt {prog : Program} {w : World} {A : Around} {E : Value → Shared → Prop} {s : Shared} {x y : Str} {t u : Tok} {a b : Nat} {Q : Value → Shared → Prop} (h1 : x.length ≤ a) (h2 : y.length ≤ b) (hab : a + b ≤ 1000) (h : ∀ t' tk, Q (.str (x ++ y) t') { s with toks := tk }) :
    wpAny (model prog w) A (binaryOp .Add (.str x t) (.str y u)) Q E s := PyProof.Rows.add_str h (by rw [sizeLine_eq]; omega)
theorem rowsS11_k : True := by
  k_with "call ref" => (k_here; (with_reducible show wpAny _ _ (PySem.call (Value.ref 135) _) _ _ _); k_dflt (refine alike_call (by k_asm) (by k_asm) (by assumption) (by assumption) (by assumption) (by assumption) (by assumption) (by assumption) (by rfl) (by walk_at "mine le") (by walk_at "mine le") ?_; k_whole); intro _ _ _ _)
  k_with "subscriptTail" => (k_here; (with_reducible show wpAny _ _ (subscriptTail _ _ (Value.ref _) (Value.int 0 _)) _ _ _); k_dflt (refine item_kind (by k_asm) (by assumption) ?_ (by with_unfolding_all rfl); k_whole); intro _)
  k_with "compareOp In str ref" => (k_here;  (with_reducible show wpAny _ _ (compareOp CmpOp.In (Value.str (Ty.kind _) _) (Value.ref _)) _ _ _); k_dflt (first | (refine in_vars (by is_tup) var_yes ?_; k_whole) | (refine in_vars (by is_tup) (var_no (by assumption)) ?_; k_whole)))
  k_with "mine len" => (first | (with_reducible exact len_text _) | exact len_lit (by decide +kernel) | (with_reducible refine len_app (by walk_at "mine len") (by walk_at "mine len")))
  k_with "binaryOp Add str str" => (k_here; (with_reducible show wpAny _ _ (binaryOp Operator.Add (Value.str _ _) (Value.str _ _)) _ _ _); k_dflt (refine add_txt (by walk_at "mine len") (by walk_at "mine len") (by walk_at "mine le") ?_); intro _ _)
  trivial
theorem unify_raise {prog : Program} {w : World} {mg mb : Str → Option Value} {s : Shared} (G : G0 w mg mb s.heap) {aF aK aN a b : Addr} {its : List Value} {n₁ n₂ : Nat} {σ : Nat → Option Ty} {t₁ t₂ r₁ r₂ : Ty} {outer : List Env} {bs : Heap}
    (I : InfAt s.heap aF aK aN) (hK : s.heap.IsList aK its.toArray) (Kn : Known s.heap its σ) (ha : Rep s.heap a t₁) (hb : Rep s.heap b t₂) (hr₁ : RootN σ n₁ t₁ r₁) (hr₂ : RootN σ n₂ t₂ r₂) (ho : unifyTo r₁ r₂ = none) (hFF : s.heap.FunFrames bs outer) {Q E : Value → Shared → Prop}
    (hE : ∀ v s', RaisedD s outer v s' → E v s') :
    wpAny (model prog w) (AF 600 outer) (PySem.call (.ref 142) [.ref aF, .ref a, .ref b]) Q E s := by
  refine wpAny_call ?_
  have KX := G.X
  have T := G.T
  refine' enter0 G.X G.T.nolimit ?ho ?hcd ?hroom ?hbind ?hloc ?_ ?c1 ?c2 ?c3 ?c4
  walk_at "mine enter"
  intro L h₁ F N
  obtain ⟨dF, e1, e2, t1, t2, I'⟩ := id I
  have q₁ := hr₁.isRoot
  have q₂ := hr₂.isRoot
  have q₁' := q₁.rootN
  have q₂' := q₂.rootN
  have q : ¬ r₁ = r₂ := fun e => by unfold unifyTo at ho; rw [if_pos e] at ho; cases ho
  have hbt₁ : ∀ i, r₁ = .v i → bindTo i r₂ = none := fun i e => by
    subst e
    unfold unifyTo at ho
    rw [if_neg q] at ho
    simpa using ho
  have hbt₂ : ∀ i, r₂ = .v i → (∀ j, r₁ ≠ .v j) → bindTo i r₁ = none := fun i e h => by
    subst e
    unfold unifyTo at ho
    rw [if_neg q] at ho
    cases r₁ with
    | v j => exact absurd rfl (h j)
    | _ => simpa using ho
  by_cases v1 : ∀ i, r₁ ≠ .v i
  · by_cases v2 : ∀ i, r₂ ≠ .v i
    · clear hbt₁ hbt₂
      k_steps
      walk_at "mine raised"
    · obtain ⟨j, rfl⟩ : ∃ j, r₂ = .v j := by
        cases r₂ with
        | v j => exact ⟨j, rfl⟩
        | _ => exact absurd (fun i e => nomatch e) v2
      have hbt := hbt₂ j rfl v1
      clear hbt₁ hbt₂ v2
      k_steps
  · obtain ⟨i, rfl⟩ : ∃ i, r₁ = .v i := by
      cases r₁ with
      | v i => exact ⟨i, rfl⟩
      | _ => exact absurd (fun i e => nomatch e) v1
    have hbt := hbt₁ i rfl
    clear hbt₁ hbt₂ v1
    k_steps
end PartS11
section PartS12
theorem rowsS12_0 : True := by
  k_with_none
  k_with "mine enter" => (
    (case ho => k_is); (case hcd => k_is); (case hroom => exact Nat.le_of_ble_eq_true rfl)
    (case hbind => first | exact binds_K (by k_in) rfl (by k_is) rfl rfl rfl | exact BindsTo.of_eq rfl)
    (case hloc => exact locs rfl)
    (case c1 => decide); (case c2 => rfl); (case c3 => rfl); (case c4 => rfl))
  k_with "mine le" => (exact Nat.le_of_ble_eq_true rfl)
  k_with "subscriptTail" => (k_here; (with_reducible show wpAny _ _ (subscriptTail _ _ (Value.ref _) (Value.int _ _)) _ _ _); k_dflt (refine item_tupleT (by is_tup) (by decide) (by decide) (by rfl) (by rfl) ?_; k_whole))
  k_with "subscriptTail" => (k_here; (with_reducible show wpAny _ _ (subscriptTail _ _ (Value.ref _) (Value.int _ _)) _ _ _); k_dflt (refine item_listB (by is_list) (by omega) (by omega) (by assumption) ?_ (by with_unfolding_all rfl); k_whole))
  k_with "k_inst" => (exact InstAt.keepsB (by assumption) (Fr.keep (by assumption)))
  k_with "mine around" => ((case hh => rfl); (case hd => exact Nat.le_of_ble_eq_true rfl); (case hu => exact Nat.le_of_ble_eq_true rfl))
  k_with "call ref" => (k_here; (with_reducible show wpAny _ _ (PySem.call (Value.ref 109) _) _ _ _); k_dflt (refine shallow_call (by k_asm) (by k_asm) (by first | assumption | exact fun b o e => e) (by assumption) (by assumption) (by is_list) (by assumption) (by assumption) (by assumption) (by rfl) (by walk_at "mine le") (by walk_at "mine le") ?_; k_whole); intro _ _ _ _ _ _ _)
  k_with "call ref" => (k_here; (with_reducible show wpAny _ _ (PySem.call (Value.ref 54) _) _ _ _); k_dflt (refine parts_call (by k_asm) (by k_asm) (by assumption) (by assumption) (by rfl) (by walk_at "mine le") (by walk_at "mine le") ?_; k_whole); intro _ _ _ _ _ l1; (try dsimp only [AllNe] at l1))
  k_with "call ref" => (k_here; (with_reducible show wpAny _ _ (PySem.call (Value.ref 61) _) _ _ _); k_dflt (refine rebuilt_call (by k_asm) (by k_asm) (by assumption) (by assumption) (by rfl) (by walk_at "mine le") (by walk_at "mine le") ?_; k_whole); intro _ _ _ _)
  k_with "compareOp Eq ref ref" => (k_here; k_dflt (refine eq_rep_not (by k_asm) (by assumption) (by assumption) (by assumption) (by walk_at "mine le") ?_; k_whole))
  k_with "compareOp NotEq ref ref" => (k_here; k_dflt (refine neq_lists_one (by k_asm) (by is_list) (by assumption) (by is_list) (by walk_at "mine le") ?_; k_whole))
  k_with "compareOp NotEq ref ref" => (k_here; k_dflt (refine neq_lists_nil (by is_list) (by is_list) (by walk_at "mine le") ?_; k_whole))
  k_with "call builtin:list.extend" => (k_here; (with_reducible show wpAny _ _ (PySem.call (Value.builtin _) [Value.ref _, Value.ref _]) _ _ _); k_dflt (refine ext_tup (by k_asm) (by k_asm) (by k_mem) (by k_upd) (by kl_no) (by walk_at "mine le") (by walk_at "mine le") ?_); intro _ _ N'; (try dsimp only at N'))
  k_with "call ref" => (k_here; (with_reducible show wpAny _ _ (PySem.call (Value.ref 121) _) _ _ _); k_dflt (refine occurs_call (by k_asm) (by k_asm) (by first | assumption | exact fun b o e => e) (by assumption) (by assumption) (by is_list) (by assumption) (by assumption) (by assumption) (by assumption) (by assumption) (by rfl) (by walk_at "mine le") (by walk_at "mine le") ?_; k_whole); intro _ _ _ _)
  k_with "setItem ref int" => (k_here; (with_reducible show wpAny _ _ (setItem (Value.ref _) (Value.int _ _) (Value.ref _)) _ _ _); k_dflt (refine set_any (by k_asm) (by k_asm) (by k_upd) (by omega) (by omega) (by omega) ?_; k_whole); intro _ _ _)
  k_with "call ref" => (k_here; (with_reducible show wpAny _ _ (PySem.call (Value.ref 114) _) _ _ _); k_dflt (refine resolved_call (by k_asm) (by k_asm) (by first | assumption | exact fun b o e => e) (by assumption) (by assumption) (by is_list) (by assumption) (by assumption) (by assumption) (by rfl) (by walk_at "mine le") (by walk_at "mine le") ?_; k_whole); intro _ _ _ _ _ _ _)
  k_with "call ref" => (k_here; (with_reducible show wpAny _ _ (PySem.call (Value.ref 73) _) _ _ _); k_dflt (refine text_call (by k_asm) (by k_asm) (by assumption) (by assumption) (by exact rfl) (by rfl) (by walk_at "mine le") (by walk_at "mine le") ?_; k_whole); intro _ _ _ _ _)
  k_with "call ref" => (k_here; (with_reducible show wpAny _ _ (PySem.call (Value.ref 45) _) _ _ _); k_dflt (refine fault_call (by k_asm) (by k_asm) (by k_asm) (by rfl) (by walk_at "mine le") (by walk_at "mine le") ?_; k_whole); intro _ _ _ _ _ _ _ _ _)
  k_with "exec Raise some none" => (k_here; k_dflt (refine Raise_fault (by rfl) ?_))
  k_with "call ref" => (k_here; (with_reducible show wpAny _ _ (PySem.call (Value.ref 128) _) _ _ _); k_dflt (refine bind_call (by k_asm) (by k_asm) (by first | assumption | exact fun b o e => e) (by assumption) (by assumption) (by assumption) (by k_updF) (by assumption) (by assumption) (by assumption) (by assumption) (by assumption) (by assumption) (by rfl) (by walk_at "mine le") (by walk_at "mine le") ?_; k_whole); intro _ _ _ _ _ _ _)
  k_with "compareOp NotEq ref ref" => (k_here; k_dflt (refine neq_pair (by k_asm) (by is_list) (by is_tup) (by assumption) (by assumption) (by is_list) (by walk_at "mine le") ?_; k_whole))
  k_with "compareOp Eq ref ref" => (k_here; k_dflt (refine eq_rep_same (by k_asm) (by assumption) (by assumption) (by walk_at "mine le") ?_; k_whole))
  k_with "call ref" => (k_here; (with_reducible show wpAny _ _ (PySem.call (Value.ref 135) _) _ _ _); k_dflt (refine alike_call (by k_asm) (by k_asm) (by assumption) (by assumption) (by assumption) (by (intro i e; cases e)) (by (intro i e; cases e)) (by assumption) (by rfl) (by walk_at "mine le") (by walk_at "mine le") ?_; k_whole); intro _ _ _ _)
  k_with "call ref" => (k_here; (with_reducible show wpAny _ _ (PySem.call (Value.ref 128) _) _ _ _); k_dflt (refine bind_callR (s := s) (by k_asm) (by assumption) (by assumption) (by assumption) (by assumption) (by assumption) (by assumption) (by assumption) (by assumption) hFF (by rfl) (by rfl) (by walk_at "mine le") hE))
  k_with "mine raised" => (refine raise_out (s := s) (by assumption) hFF (by assumption) (by assumption) (by assumption) (by assumption) (by exact strNe (by decide)) (by rfl) hE)
  k_with "call ref" => (k_here; (with_reducible show wpAny _ _ (PySem.call (Value.ref 142) _) _ _ _); fail "unify here")
  trivial
theorem exm45 {w : World} : exmOne (Mine.hd.heap_39 w.params) (.ref 45) (.ref 45) = some true := by
  have e1 : subIn (Mine.hd.heap_39 w.params) (.ref 45) (.type "BaseException") = some true := by k_is
  have e2 : (clsIn (Mine.hd.heap_39 w.params) 45).isSome = true := by
    have hh : hasDictIn (Mine.hd.heap_39 w.params) 45 = true := by k_is
    obtain ⟨cd, hc, _⟩ := any_some hh
    rw [hc]; rfl
  have e3 : typeIn (Mine.hd.heap_39 w.params) (.ref 45) = some (.type "type") := by k_is
  have e4 : subIn (Mine.hd.heap_39 w.params) (.ref 45) (.ref 45) = some true := by k_is
  unfold exmOne kitCls
  simp only [e1, e2, e3, e4]
  rfl
section
variable {prog : Program} {w : World} {A : Around} {E : Value → Shared → Prop} {s : Shared} {e : Addr} {ox : Obj} {od : Option Obj} {expr : Bool} {v : Value} {Q : Value → Shared → Prop}
theorem get_fault (X : (Mine.hd.heap_39 w.params).In s.heap) (I : W.InstAt s.heap e ox 45 od) (hf : findObj (Mine.hd.heap_39 w.params) 45 od "message" = some (.value v)) (hh : handedIn v = true) (h : Q v { s with toks := s.toks + 1 }) :
    wpAny (model prog w) A (getAttr (.ref e) "message" expr) Q E s := by
  have hga : findIn (Mine.hd.heap_39 w.params) (.ref 45) "__getattribute__" = some (some (.builtin "BaseException.__getattribute__")) := by k_is
  have hgn : findIn (Mine.hd.heap_39 w.params) (.ref 45) "__getattr__" = some none := by k_is
  have hsb : subIn (Mine.hd.heap_39 w.params) (.ref 45) (.type "BaseException") = some true := by k_is
  obtain ⟨hp, g, d, t, os⟩ := s
  have L0 := I.type (M := model prog w)
  have L1 := looks_findIn (M := model prog w) X hga
  have L2 := looks_findIn (M := model prog w) X hgn
  have L3 : Looks (model prog w) hp (isInstance (.ref e) (.type "BaseException")) true := L0.andThen (looks_subIn X hsb)
  have L4 := looks_find (M := model prog w) X I hf
  have FB := PySem.F.attrBase_Exception
  have f3 := FB.ga.bind (.ref e)
  have hx0 : (expr && onTheHeap (Value.builtin "BaseException.__getattribute__")) = false := by cases expr <;> rfl
  unfold getAttr getAttrBy
  refine wpAny_bind (wpAny_mkText (wpAny_holding (wpAny_bind (L0.at (wpAny_bind (L1.at ?_))))))
  have hx2 : (onTheHeap (Value.ref 45) && Value.builtin "BaseException.__getattribute__" == Value.builtin "object.__getattribute__") = false := by
    rw [show (Value.builtin "BaseException.__getattribute__" == Value.builtin "object.__getattribute__") = false from by decide +kernel]; rfl
  dsimp only
  rw [if_neg (by rw [hx2]; exact Bool.false_ne_true)]
  unfold getAttrByItsOwn hookBefore
  rw [if_pos (show onTheHeap (Value.ref 45) = true from rfl)]
  refine wpAny_bind (L2.at ?_)
  refine wpAny_bind (wpAny_attempt (wpAny_holding ?_))
  unfold callGetattribute boundAndCalled
  rw [if_neg (by rw [hx0]; exact Bool.false_ne_true), f3]
  refine wpAny_bind (wpAny_pure ?_)
  dsimp only
  refine wpAny_call ?_
  refine codeAny_call_builtin FB.ga.plain PySem.F.entry_bexc_ga ?_
  have hk : builtinKind "BaseException.__getattribute__" = some .slot := by decide +kernel
  have hsplit : splitId "BaseException.__getattribute__" = some ("BaseException", "__getattribute__") := by decide +kernel
  have ha := PySem.F.args_bexc_ga (.ref e) (.str "message" t)
  simp only [checkBuiltinCall, hk, hsplit]
  refine wpAny_bind (L3.at ?_)
  simp only [Bool.not_true, Bool.false_eq_true, if_false]
  have hx := I.at_
  have hc := I.cls
  repeat (first | (with_reducible refine wpAny_loadPart_at hx ?_; rw [hc]) | with_reducible refine wpAny_bind (L4.at ?_) | with_reducible refine L4.at ?_ | wp_step)
  show wpAny _ _ (handedOut v) _ _ _
  rw [handedOut_of hh]
  exact wpAny_pure h
theorem get_says {es : List DictEntry} {n : Nat} (X : (Mine.hd.heap_39 w.params).In s.heap) (I : W.InstAt s.heap e ox 45 (some (dictOf es n))) (hl : getL "message" es = some (some v)) (hh : handedIn v = true) (h : Q v { s with toks := s.toks + 1 }) :
    wpAny (model prog w) A (getAttr (.ref e) "message" expr) Q E s :=
  get_fault X I (findObj_own (show hasDictIn (Mine.hd.heap_39 w.params) 45 = true by k_is) (attr := none) (by k_is) (by k_is) hl) hh h
end
def cut (h : Heap) (n : Nat) : Heap := ⟨h.objs.extract 0 n, h.life⟩
theorem cut_size (h : Heap) (n : Nat) : (cut h n).objs.size ≤ n := by simp [cut]; omega
theorem cut_get {h : Heap} {n b : Nat} (hb : b < n) : (cut h n).get? b = h.get? b := by
  unfold cut Heap.get?
  have : (h.objs.extract 0 n)[b]? = h.objs[b]? := by
    rw [Array.getElem?_extract]
    by_cases q : b < min n h.objs.size - 0
    · rw [if_pos q]; simp
    · rw [if_neg q]
      rw [Array.getElem?_eq_none]; omega
  rw [this]
theorem of_cut {h : Heap} {n b : Nat} {o : Obj} (e : (cut h n).get? b = some o) : h.get? b = some o := by
  have := Heap.lt_size e
  rw [cut_get (Nat.lt_of_lt_of_le this (cut_size h n))] at e
  exact e
section
variable {prog : Program} {w : World} {mg mb : Str → Option Value} {s s' : Shared} {g₀ h₁ : Heap} {L a : Addr} {m : Str → Option Value} {name n : Str} {scope : Scope} {cd v : Value} {d tk₁ : Nat} {outer : List Env} {E : Value → Shared → Prop} {Q : Flow → Shared → Prop}
  {b₀ : Stmt} {suite : List Stmt} {pos np : Pos} {rest : List ExceptHandler}
theorem caught_mine (G : G0 w mg mb g₀) (st : g₀.StaysIn s.heap) (F : Fr s.heap L h₁ m) (hFF : s.heap.FunFrames g₀ outer)
    (R : RaisedD { s with heap := h₁, toks := tk₁ } (envOf name scope L a cd :: outer) v s')
    (k : ∀ e de vs sl es nn x tx g₂ h' tk, v = .ref e → G0 w mg mb g₂ → s.heap.UpToSlots g₂ → (∀ b o, s.heap.get? b = some o → b ∉ outer.filterMap (·.frame) → g₂.get? b = some o) →
      Fr g₂ L h' (fun y => if y = n then some (.ref e) else m y) → h'.get? e = some ⟨.ref 45, some de, .fields vs, sl⟩ → h'.get? de = some (dictOf es nn) → getL "message" es = some (some (.str x tx)) → (x == ("" : Str)) = false →
      wpAny (model prog w) (((AF d outer).deeper (envOf name scope L a cd)).mark (some (.ref e))) (execs (b₀ :: suite) (envOf name scope L a cd))
        (fun f s₄ => wpAny (model prog w) ((AF d outer).deeper (envOf name scope L a cd)) (do bindName (envOf name scope L a cd) n .none; unbindBehindTheSuite (envOf name scope L a cd) n pos) (fun _ s₅ => Q f s₅) E s₄)
        (AsSuiteRaised (model prog w) (((AF d outer).deeper (envOf name scope L a cd)).mark (some (.ref e))) (envOf name scope L a cd) n pos (notedBy (model prog w) (((AF d outer).deeper (envOf name scope L a cd)).mark (some (.ref e))) (envOf name scope L a cd) (cameBackBy (model prog w) ((AF d outer).deeper (envOf name scope L a cd)) (envOf name scope L a cd) E)))
        { s with heap := h', toks := tk })
    (hk : scope.kind = .function) (hlo : (envOf name scope L a cd).kindOf n = some .local) (hx : (envOf name scope L a cd).kindOf "TypeFault" = some .globalImplicit)
    (eT : nsIn (Mine.hd.heap_39 w.params) mainGlobals "TypeFault" = some (some (.ref 45))) :
    wpAny (model prog w) ((AF d outer).deeper (envOf name scope L a cd)) (noteFrame v (envOf name scope L a cd))
      (fun _ s₂ => wpAny (model prog w) ((AF d outer).deeper (envOf name scope L a cd)) (setFlight v none) (fun _ s₃ =>
        wpAny (model prog w) ((AF d outer).deeper (envOf name scope L a cd)) (handleBy v (envOf name scope L a cd) (.ExceptHandler (some (.Name "TypeFault" np)) (some n) (b₀ :: suite) pos :: rest)) Q E s₃) E s₂) E s' := by
  obtain ⟨e, de, B, od, x, hB', tkB, rfl, rfl, R, kB, hde, hs, hx0, u⟩ := R
  obtain ⟨es, nn, tx, rfl, hg⟩ := hs
  have gB : g₀.StaysIn B := fun b o q => kB b o (F.keep b o (st b o q)) fun hm => by
    rcases List.mem_cons.mp hm with hm | hm
    · have := Heap.lt_size (st b o q)
      exact absurd (Nat.lt_of_lt_of_le this F.above) (by rw [hm]; exact Nat.lt_irrefl _)
    · rw [(hFF.mem hm).1] at q; cases q
  refine noteFrame_onD (Around.frames_deeper rfl) rfl R fun h₄ R₄ u₄ => ?_
  refine landsD R₄ fun h₅ R₅ u₅ => ?_
  have g₀1 : g₀.StaysIn (cut h₅ s.heap.objs.size) := fun b o q => (cut_get (Heap.lt_size (st b o q))).trans (R₅.1 b o (gB b o q))
  have F₅ : Fr (cut h₅ s.heap.objs.size) L h₅ m := ⟨((u.trans u₄).trans u₅).ns F.ns, fun b o q => of_cut q, Nat.le_trans (cut_size _ _) F.above⟩
  have G₅ := G.keeps g₀1
  have X₅ := G₅.X.keeps F₅.keep
  refine wpAny_handleBy_cons (codeAny_handlers_test (name_K F₅ G₅.X G₅.T eT ?_ hk hx (by decide))) (by intro q; cases q)
  have R₅' := R₅
  obtain ⟨_, _, _, vs, sl, T, oT, ts, he, _⟩ := R₅'
  have LT : Looks (model prog w) h₅ (typeOf (.ref e)) (.ref 45) := (Looks.ld he).andThen .now
  refine (exm_one X₅ LT exm45).at ?_
  refine codeAny_handlers_suite_as ?_
  refine landsD R₅ fun h₆ R₆ u₆ => ?_
  have uu : h₁.UpToSlots h₆ := ((u.trans u₄).trans u₅).trans u₆
  have us : s.heap.UpToSlots h₆ := (Heap.UpToSlots.of_keeps F.keep).trans uu
  have keep₆ : ∀ b o, s.heap.get? b = some o → b ∉ outer.filterMap (·.frame) → h₆.get? b = some o := fun b o q hb => R₆.1 b o (kB b o (F.keep b o q) fun hm => by
    rcases List.mem_cons.mp hm with hm | hm
    · exact absurd (Nat.lt_of_lt_of_le (Heap.lt_size q) F.above) (by rw [hm]; exact Nat.lt_irrefl _)
    · exact hb hm)
  have g₀2 : g₀.StaysIn (cut h₆ s.heap.objs.size) := fun b o q => (cut_get (Heap.lt_size (st b o q))).trans (R₆.1 b o (gB b o q))
  have F₆ : Fr (cut h₆ s.heap.objs.size) L h₆ m := ⟨uu.ns F.ns, fun b o q => of_cut q, Nat.le_trans (cut_size _ _) F.above⟩
  have R₆' := R₆
  obtain ⟨r1, r2, r3, vs6, sl6, T6, oT6, ts6, he6, _⟩ := R₆'
  obtain ⟨oL, _, _, hL6, hLd, _⟩ := id F₆.ns
  have eL : e ≠ L := fun q => by rw [q, hL6] at he6; cases he6; cases hLd
  have dL : de ≠ L := fun q => by
    have := (r3.mem (List.mem_cons_self ..)).1
    rw [q, this] at hde; cases hde
  refine wpAny_storeName_local hlo F₆.ns (fun h₇ hn₇ hs₇ => ?_) (by show (scope.kind == .class || (scope.kind == .module && L != mainGlobals)) = false; rw [hk]; rfl)
  have F₇ := F₆.set hn₇ hs₇
  refine k e de vs6 sl6 es nn x tx _ h₇ _ rfl (G.keeps g₀2) (fun b o q hd => ?_) (fun b o q hb => (cut_get (Heap.lt_size q)).trans (keep₆ b o q hb)) F₇ ((hs₇.2 e eL).trans he6) ((hs₇.2 de dL).trans (R₆.1 _ _ hde)) hg hx0
  obtain ⟨sl, e'⟩ := us b o q hd
  exact ⟨sl, (cut_get (Heap.lt_size q)).trans e'⟩
end

section
variable {prog : Program} {w : World} {mg mb : Str → Option Value} {A : Around} {s s₁ : Shared} {L a b f : Addr} {m : Str → Option Value} {aF aK aN : Addr} {its : List Value} {n₁ n₂ d : Nat} {σ : Nat → Option Ty} {t₁ t₂ r₁ r₂ : Ty} {Q E : Value → Shared → Prop} {outer : List Env} {bs : Heap} {name : Str} {scope : Scope} {cd : Value}
theorem unify_callR (F : Fr s.heap L s₁.heap m) (G : G0 w mg mb s.heap) (I : InfAt s.heap aF aK aN) (hK : s.heap.IsList aK its.toArray) (Kn : Known s.heap its σ) (ha : Rep s.heap a t₁) (hb : Rep s.heap b t₂) (hr₁ : RootN σ n₁ t₁ r₁) (hr₂ : RootN σ n₂ t₂ r₂) (ho : unifyTo r₁ r₂ = none) (hFF : s.heap.FunFrames bs outer)
    (hk : scope.kind = .function) (hd : d + 3 ≤ 600) (hE : ∀ v s', RaisedD s₁ (envOf name scope L f cd :: outer) v s' → E v s') :
    wpAny (model prog w) ((AF d outer).deeper (envOf name scope L f cd)) (PySem.call (.ref 142) [.ref aF, .ref a, .ref b]) Q E s₁ := by
  obtain ⟨bs', FF⟩ := ff_push (name := name) (f := f) (cd := cd) hFF F hk
  have k : ∀ b o, s.heap.get? b = some o → s₁.heap.get? b = some o := F.keep
  refine liftF (unify_raise (G.keeps k) (I.keeps k) (Fr.lst F hK) (Kn.keeps k) (ha.keeps k) (hb.keeps k) hr₁ hr₂ ho FF hE) rfl rfl ?_ ?_
  · show d + 1 ≤ 600; omega
  · show d + 3 ≤ 600; omega
end
theorem made_no {prog : Program} {w : World} {mg mb : Str → Option Value} {s : Shared} {g₀ : Heap} (G₀ : G0 w mg mb g₀) (st : g₀.StaysIn s.heap) {aF aK aN a b : Addr} {its : List Value} {n₁ n₂ : Nat} {σ : Nat → Option Ty} {t₁ t₂ r₁ r₂ : Ty} {outer : List Env}
    (I : InfAt s.heap aF aK aN) (hK : s.heap.IsList aK its.toArray) (Kn : Known s.heap its σ) (ha : Rep s.heap a t₁) (hb : Rep s.heap b t₂) (hr₁ : RootN σ n₁ t₁ r₁) (hr₂ : RootN σ n₂ t₂ r₂) (ho : unifyTo r₁ r₂ = none) (hFF : s.heap.FunFrames g₀ outer) {Q E : Value → Shared → Prop}
    (hQ : ∀ h' tk', s.heap.UpToSlots h' → (∀ b o, s.heap.get? b = some o → b ∉ outer.filterMap (·.frame) → h'.get? b = some o) → Q (.bool false) { s with heap := h', toks := tk' }) :
    wpAny (model prog w) (AF 550 outer) (PySem.call (.ref 210) [.ref aF, .ref a, .ref b]) Q E s := by
  refine wpAny_call ?_
  have G := G₀.keeps st
  have KX := G.X
  have T := G.T
  refine' enter0 G.X G.T.nolimit ?ho ?hcd ?hroom ?hbind ?hloc ?_ ?c1 ?c2 ?c3 ?c4
  walk_at "mine enter"
  intro L h₁ F N
  obtain ⟨dF, e1, e2, t1, t2, I'⟩ := id I
  k_steps
  (with_reducible rename Fr _ _ _ _ => F1)
  refine unify_callR F1 G I hK Kn ha hb hr₁ hr₂ ho hFF rfl (Nat.le_of_ble_eq_true rfl) fun v s' R => ?_
  refine caught_mine G₀ st F1 hFF R ?_ rfl rfl rfl (by k_is)
  intro e de vs sl es nn x tx g₂ h' tk he G₂ us kp F2 oe ode hg hx0
  clear KX T I' G I
  have KX := G₂.X
  have T := G₂.T
  k_steps
  refine get_says (KX.keeps F2.keep) ⟨oe, rfl, rfl, ode⟩ hg rfl ?_
  k_steps
  dsimp only
  refine name_goes_keeps F2 News.nil ?_
  intro h₈ _ F8 N8
  refine hQ _ _ (fun b o q hd => ?_) (fun b o q hb => F8.keep b o (kp b o q hb))
  obtain ⟨sl8, e8⟩ := us b o q hd
  exact ⟨sl8, F8.keep b _ e8⟩
end PartS12
section PartS13
section
variable {prog : Program} {w : World} {A : Around} {E : Value → Shared → Prop} {s : Shared} {env : Env} {g : Heap} {x : Str} {px : Pos} {body : List Stmt} {Q : Flow → Shared → Prop}
abbrev No : Value → Shared → Prop := fun _ _ => False
/-- what a turn of a loop leaves -/
def ForStep (g : Heap) (L : Addr) (s : Shared) (it : Addr) (oi : Obj) (J : (Str → Option Value) → List (Addr × Obj) → Prop) (Q : Flow → Shared → Prop) (f : Flow) (s₃ : Shared) : Prop :=
  match f with
  | .ret v => Q (.ret v) s₃
  | .brk => Q .next s₃
  | _ => ∃ h' tk m' news', s₃ = { s with heap := h', toks := tk } ∧ Fr g L h' m' ∧ News g L h' ((it, oi) :: news') ∧ J m' news'
theorem For_walk {it : Addr} {fp wr : List Addr} {n : Nat} {P : Nat → Value → Prop} {St : Nat → Heap → Prop} {m₀ : Str → Option Value} {news : List (Addr × Obj)} (J : Nat → (Str → Option Value) → List (Addr × Obj) → Prop)
    (W : Walks prog w A it fp wr n P St) (hwr : ∀ b ∈ wr, b = it) (hlive : ∀ i h, St i h → ∃ o, h.get? it = some o) (hgi : g.get? it = none) (hiL : it ≠ env.locals)
    (hx : env.kindOf x = some .local) (hp : (env.scope.kind == .class || (env.scope.kind == .module && env.locals != env.globals)) = false)
    (hfp : ∀ b ∈ fp, b ≠ it → ∃ o, ∀ i m₁ news₁ h, J i m₁ news₁ → (∃ m, Fr g env.locals h m) → News g env.locals h news₁ → h.get? b = some o)
    (hst : St 0 s.heap) (F : Fr g env.locals s.heap m₀) (N : News g env.locals s.heap news) (hj : J 0 m₀ news) (hji : ∀ i m₁ news₁, J i m₁ news₁ → ∀ p ∈ news₁, p.1 ≠ it)
    (turn : ∀ i v m₁ news₁ h tk oi, i < n → P i v → J i m₁ news₁ → Fr g env.locals h (fun y => if y = x then some v else m₁ y) → News g env.locals h ((it, oi) :: news₁) →
      wpAny (model prog w) A (execs body env) (ForStep g env.locals s it oi (J (i + 1)) Q) No { s with heap := h, toks := tk })
    (done : ∀ m₁ news₁ h tk, J n m₁ news₁ → Fr g env.locals h m₁ → News g env.locals h news₁ → Q .next { s with heap := h, toks := tk }) :
    codeAny (model prog w) A (.forLoop (.Name x px) (.ref it) body [] env) (fun r s' => match r with | .ok f => Q f s' | .error e => cameBackBy (model prog w) A env E e s') s := by
  let I : Nat → Shared → Prop := fun k s' => ∃ i h tk m₁ news₁, k = n - i ∧ i ≤ n ∧ s' = { s with heap := h, toks := tk } ∧ St i h ∧ Fr g env.locals h m₁ ∧ News g env.locals h news₁ ∧ J i m₁ news₁
  refine codeAny_forLoop I ?_ n ⟨0, s.heap, s.toks, m₀, news, rfl, Nat.zero_le _, rfl, hst, F, N, hj⟩
  rintro k s' ⟨i, h, tk, m₁, news₁, rfl, hi, rfl, st, F₁, N₁, hJ₁⟩
  have keepF : ∀ {h₂ : Heap}, (∀ b o, b ∉ wr → h.get? b = some o → h₂.get? b = some o) → Fr g env.locals h₂ m₁ ∧ News g env.locals h₂ news₁ := fun k₂ =>
    ⟨⟨F₁.ns.at' fun o e => k₂ _ o (fun hm => hiL (hwr _ hm).symm) e, fun b o e => k₂ b o (fun hm => by rw [hwr _ hm, hgi] at e; cases e) (F₁.keep b o e), F₁.above⟩,
      fun p hp => ⟨k₂ _ _ (fun hm => hji _ _ _ hJ₁ p hp (hwr _ hm)) (N₁ p hp).1, (N₁ p hp).2⟩⟩
  rcases Nat.lt_or_ge i n with hlt | hge
  · refine W.item i _ _ _ hlt st fun v h₂ tk₂ hv st₂ k₂ => ?_
    obtain ⟨F₂, N₂⟩ := keepF k₂
    obtain ⟨oi, hoi⟩ := hlive _ _ st₂
    refine wpAny_assign_Name (wpAny_storeName_local hx F₂.ns (fun h₃ hn₃ hs₃ => ?_) hp)
    have F₃ := F₂.set hn₃ hs₃
    have N₃ : News g env.locals h₃ ((it, oi) :: news₁) := fun p hp => by
      rcases List.mem_cons.mp hp with rfl | hp
      · exact ⟨(hs₃.2 _ hiL).trans hoi, hiL, hgi⟩
      · exact N₂.set hs₃ p hp
    have st₃ : St (i + 1) h₃ := W.frame _ _ _ st₂ fun b hb o e => by
      by_cases q : b = it
      · subst q; exact (hs₃.2 _ hiL).trans e
      · obtain ⟨o', ho'⟩ := hfp b hb q
        have e1 := ho' i m₁ news₁ h₂ hJ₁ ⟨_, F₂⟩ N₂
        have e2 := ho' i m₁ news₁ h₃ hJ₁ ⟨_, F₃⟩ (fun p hp => N₃ p (.tail _ hp))
        rw [e2, ← e1, e]
    refine wpAny_mono (turn i v m₁ news₁ h₃ _ oi hlt hv hJ₁ F₃ N₃) (fun f s₃ p => ?_) fun _ _ e => e.elim
    have fin : (∃ h' tk m' news', s₃ = { s with heap := h', toks := tk } ∧ Fr g env.locals h' m' ∧ News g env.locals h' ((it, oi) :: news') ∧ J (i + 1) m' news') → ∃ m, m < n - i ∧ I m s₃ := by
      rintro ⟨h', tk', m', news', rfl, F', N', hJ'⟩
      refine ⟨n - (i + 1), by omega, i + 1, h', tk', m', news', rfl, hlt, rfl, W.frame _ _ _ st₃ fun b hb o e => ?_, F', fun p hp => N' p (.tail _ hp), hJ'⟩
      by_cases q : b = it
      · subst q
        rw [(N₃ _ (.head _)).1] at e; cases e
        exact (N' _ (.head _)).1
      · obtain ⟨o', ho'⟩ := hfp b hb q
        have e1 := ho' i m₁ news₁ h₃ hJ₁ ⟨_, F₃⟩ (fun p hp => N₃ p (.tail _ hp))
        have e2 := ho' (i + 1) m' news' h' hJ' ⟨_, F'⟩ (fun p hp => N' p (.tail _ hp))
        rw [e2, ← e1, e]
    cases f with
    | ret v => exact p
    | brk => exact p
    | next => exact fin p
    | cont => exact fin p
  · obtain rfl : i = n := Nat.le_antisymm hi hge
    refine W.done _ _ _ st fun h₂ tk₂ k₂ => ?_
    obtain ⟨F₂, N₂⟩ := keepF k₂
    exact wpAny_execs_nil (done m₁ news₁ h₂ tk₂ hJ₁ F₂ N₂)
theorem For_list {l : Addr} {vs : List Value} {m₀ : Str → Option Value} {news : List (Addr × Obj)} (J : Nat → (Str → Option Value) → List (Addr × Obj) → Prop)
    (hh : A.handled = none) (hx : env.kindOf x = some .local) (hp : (env.scope.kind == .class || (env.scope.kind == .module && env.locals != env.globals)) = false)
    (hls : s.heap.IsList l vs.toArray) (F : Fr g env.locals s.heap m₀) (N : News g env.locals s.heap news) (hj : J 0 m₀ news)
    (hji : ∀ i m₁ news₁, J i m₁ news₁ → ∀ p ∈ news₁, p.1 ≠ s.heap.objs.size)
    (hl : ∃ o, ∀ i m₁ news₁ h, J i m₁ news₁ → (∃ m, Fr g env.locals h m) → News g env.locals h news₁ → h.get? l = some o)
    (turn : ∀ i v m₁ news₁ h tk oi, vs[i]? = some v → J i m₁ news₁ → Fr g env.locals h (fun y => if y = x then some v else m₁ y) → News g env.locals h ((s.heap.objs.size, oi) :: news₁) →
      wpAny (model prog w) A (execs body env) (ForStep g env.locals s s.heap.objs.size oi (J (i + 1)) Q) No { s with heap := h, toks := tk })
    (done : ∀ m₁ news₁ h tk, J vs.length m₁ news₁ → Fr g env.locals h m₁ → News g env.locals h news₁ → Q .next { s with heap := h, toks := tk }) :
    wpAny (model prog w) A (pyIter (.ref l)) (fun itv s₂ => codeAny (model prog w) A (.forLoop (.Name x px) itv body [] env) (fun r s' => match r with | .ok f => Q f s' | .error e => cameBackBy (model prog w) A env E e s') s₂) E s := by
  obtain ⟨ol, hol, _⟩ := id hls
  have hne : l ≠ s.heap.objs.size := Nat.ne_of_lt (Heap.lt_size hol)
  refine wpAny_pyIter_list hls ?_
  have W := Walks.list (prog := prog) (w := w) hh s.heap.objs.size l hne vs.toArray
  refine For_walk J W (fun b hb => by simpa using hb) (fun i h st => ?_) (next_is_new F) (Nat.ne_of_gt F.ns.lt) hx hp ?_ ⟨⟨_, Heap.get?_push_size _ rfl, rfl, rfl⟩, hls.at fun o e => Heap.get?_push_of_some _ e⟩ (F.push _)
    (fun p hp => ⟨Heap.get?_push_of_some _ (N p hp).1, (N p hp).2⟩) hj hji ?_ ?_
  · obtain ⟨o, ho, _⟩ := st.1
    exact ⟨o, ho⟩
  · intro b hb hbi
    rcases List.mem_cons.mp hb with e | hb
    · exact absurd e hbi
    · rw [List.mem_singleton.mp hb]; exact hl
  · intro i v m₁ news₁ h tk oi _ hv hJ F₁ N₁
    exact turn i v m₁ news₁ h tk oi (by simpa using hv) hJ F₁ N₁
  · intro m₁ news₁ h tk hJ F₁ N₁
    exact done m₁ news₁ h tk (by simpa using hJ) F₁ N₁
/-- the same, where one name alone is turned -/
def ForOne (g : Heap) (L : Addr) (s : Shared) (x : Str) (m₀ : Str → Option Value) (it : Addr) (oi : Obj) (P : List (Addr × Obj) → Prop) (Q : Flow → Shared → Prop) (f : Flow) (s₃ : Shared) : Prop :=
  match f with
  | .ret v => Q (.ret v) s₃
  | .brk => Q .next s₃
  | _ => ∃ h' tk u news', s₃ = { s with heap := h', toks := tk } ∧ Fr g L h' (fun y => if y = x then u else m₀ y) ∧ News g L h' ((it, oi) :: news') ∧ P news'
theorem putQ {m₀ : Str → Option Value} {x : Str} {v : Value} {u : Option Value} : (fun y => if y = x then some v else (fun y => if y = x then u else m₀ y) y) = (fun y => if y = x then some v else m₀ y) := by
  funext y
  by_cases q : y = x <;> simp [q]
theorem putU {m₀ : Str → Option Value} {x : Str} : m₀ = (fun y => if y = x then m₀ x else m₀ y) := by
  funext y
  by_cases q : y = x <;> simp [q]
theorem For_one {l : Addr} {vs : List Value} {m₀ : Str → Option Value} {news : List (Addr × Obj)} (P : Nat → List (Addr × Obj) → Prop)
    (hh : A.handled = none) (hx : env.kindOf x = some .local) (hp : (env.scope.kind == .class || (env.scope.kind == .module && env.locals != env.globals)) = false)
    (hl : g.IsList l vs.toArray) (F : Fr g env.locals s.heap m₀) (N : News g env.locals s.heap news) (hj : P 0 news)
    (hji : ∀ i news₁, P i news₁ → news₁.map (·.1) = news.map (·.1))
    (turn : ∀ i v news₁ h tk oi, vs[i]? = some v → P i news₁ → Fr g env.locals h (fun y => if y = x then some v else m₀ y) → News g env.locals h ((s.heap.objs.size, oi) :: news₁) → (∀ p ∈ news₁, p.1 ≠ s.heap.objs.size) →
      wpAny (model prog w) A (execs body env) (ForOne g env.locals s x m₀ s.heap.objs.size oi (P (i + 1)) Q) No { s with heap := h, toks := tk })
    (done : ∀ u news₁ h tk, P vs.length news₁ → Fr g env.locals h (fun y => if y = x then u else m₀ y) → News g env.locals h news₁ → Q .next { s with heap := h, toks := tk }) :
    wpAny (model prog w) A (pyIter (.ref l)) (fun itv s₂ => codeAny (model prog w) A (.forLoop (.Name x px) itv body [] env) (fun r s' => match r with | .ok f => Q f s' | .error e => cameBackBy (model prog w) A env E e s') s₂) E s := by
  have off : ∀ i news₁, P i news₁ → ∀ p ∈ news₁, p.1 ≠ s.heap.objs.size := fun i news₁ h p hp => by
    have hm : p.1 ∈ news.map (·.1) := hji _ _ h ▸ List.mem_map_of_mem hp
    obtain ⟨q, hq, e⟩ := List.mem_map.mp hm
    rw [← e]; exact Nat.ne_of_lt (Heap.lt_size (N q hq).1)
  obtain ⟨ol, hol, _⟩ := id hl
  refine For_list (fun i m n => (∃ u, m = fun y => if y = x then u else m₀ y) ∧ P i n) hh hx hp (Fr.lst F hl) F N ⟨⟨m₀ x, putU⟩, hj⟩ (fun i _ n h => off i n h.2) ⟨ol, fun i m n h _ ⟨_, F'⟩ _ => F'.keep _ _ hol⟩ ?_ ?_
  · rintro i v _ news₁ h tk oi hv ⟨⟨u, rfl⟩, hP⟩ F₁ N₁
    rw [putQ] at F₁
    refine wpAny_mono (turn i v news₁ h tk oi hv hP F₁ N₁ (off _ _ hP)) (fun f s₃ p => ?_) fun _ _ e => e
    cases f with
    | ret v => exact p
    | brk => exact p
    | next => obtain ⟨h', tk', u, news', rfl, F', N', hP'⟩ := p; exact ⟨h', tk', _, news', rfl, F', N', ⟨u, rfl⟩, hP'⟩
    | cont => obtain ⟨h', tk', u, news', rfl, F', N', hP'⟩ := p; exact ⟨h', tk', _, news', rfl, F', N', ⟨u, rfl⟩, hP'⟩
  · rintro _ news₁ h tk ⟨⟨u, rfl⟩, hP⟩ F₁ N₁
    exact done u news₁ h tk hP F₁ N₁
end
end PartS13
section PartS14
theorem rowsS14_0 : True := by
  k_with_none
  k_with "mine enter" => (
    (case ho => k_is); (case hcd => k_is); (case hroom => exact Nat.le_of_ble_eq_true rfl)
    (case hbind => first | exact binds_K (by k_in) rfl (by k_is) rfl rfl rfl | exact BindsTo.of_eq rfl)
    (case hloc => exact locs rfl)
    (case c1 => decide); (case c2 => rfl); (case c3 => rfl); (case c4 => rfl))
  k_with "mine le" => (exact Nat.le_of_ble_eq_true rfl)
  k_with "subscriptTail" => (k_here; (with_reducible show wpAny _ _ (subscriptTail _ _ (Value.ref _) (Value.int _ _)) _ _ _); k_dflt (refine item_tupleT (by is_tup) (by decide) (by decide) (by rfl) (by rfl) ?_; k_whole))
  k_with "subscriptTail" => (k_here; (with_reducible show wpAny _ _ (subscriptTail _ _ (Value.ref _) (Value.int _ _)) _ _ _); k_dflt (refine item_listB (by is_list) (by omega) (by omega) (by assumption) ?_ (by with_unfolding_all rfl); k_whole))
  k_with "k_inst" => (exact InstAt.keepsB (by assumption) (Fr.keep (by assumption)))
  k_with "mine around" => ((case hh => rfl); (case hd => exact Nat.le_of_ble_eq_true rfl); (case hu => exact Nat.le_of_ble_eq_true rfl))
  k_with "call ref" => (k_here; (with_reducible show wpAny _ _ (PySem.call (Value.ref 109) _) _ _ _); k_dflt (refine shallow_call (by k_asm) (by k_asm) (by first | assumption | exact fun b o e => e) (by assumption) (by assumption) (by is_list) (by assumption) (by assumption) (by assumption) (by rfl) (by walk_at "mine le") (by walk_at "mine le") ?_; k_whole); intro _ _ _ _ _ _ _)
  k_with "call ref" => (k_here; (with_reducible show wpAny _ _ (PySem.call (Value.ref 54) _) _ _ _); k_dflt (refine parts_call (by k_asm) (by k_asm) (by assumption) (by assumption) (by rfl) (by walk_at "mine le") (by walk_at "mine le") ?_; k_whole); intro _ _ _ _ _ l1; (try dsimp only [AllNe] at l1))
  k_with "call ref" => (k_here; (with_reducible show wpAny _ _ (PySem.call (Value.ref 61) _) _ _ _); k_dflt (refine rebuilt_call (by k_asm) (by k_asm) (by assumption) (by assumption) (by rfl) (by walk_at "mine le") (by walk_at "mine le") ?_; k_whole); intro _ _ _ _)
  k_with "compareOp Eq ref ref" => (k_here; k_dflt (refine eq_rep_not (by k_asm) (by assumption) (by assumption) (by assumption) (by walk_at "mine le") ?_; k_whole))
  k_with "compareOp NotEq ref ref" => (k_here; k_dflt (refine neq_lists_one (by k_asm) (by is_list) (by assumption) (by is_list) (by walk_at "mine le") ?_; k_whole))
  k_with "compareOp NotEq ref ref" => (k_here; k_dflt (refine neq_lists_nil (by is_list) (by is_list) (by walk_at "mine le") ?_; k_whole))
  k_with "call builtin:list.extend" => (k_here; (with_reducible show wpAny _ _ (PySem.call (Value.builtin _) [Value.ref _, Value.ref _]) _ _ _); k_dflt (refine ext_tup (by k_asm) (by k_asm) (by k_mem) (by k_upd) (by kl_no) (by walk_at "mine le") (by walk_at "mine le") ?_); intro _ _ N'; (try dsimp only at N'))
  k_with "call ref" => (k_here; (with_reducible show wpAny _ _ (PySem.call (Value.ref 121) _) _ _ _); k_dflt (refine occurs_call (by k_asm) (by k_asm) (by first | assumption | exact fun b o e => e) (by assumption) (by assumption) (by is_list) (by assumption) (by assumption) (by assumption) (by assumption) (by assumption) (by rfl) (by walk_at "mine le") (by walk_at "mine le") ?_; k_whole); intro _ _ _ _)
  k_with "setItem ref int" => (k_here; (with_reducible show wpAny _ _ (setItem (Value.ref _) (Value.int _ _) (Value.ref _)) _ _ _); k_dflt (refine set_any (by k_asm) (by k_asm) (by k_upd) (by omega) (by omega) (by omega) ?_; k_whole); intro _ _ _)
  k_with "call ref" => (k_here; (with_reducible show wpAny _ _ (PySem.call (Value.ref 114) _) _ _ _); k_dflt (refine resolved_call (by k_asm) (by k_asm) (by first | assumption | exact fun b o e => e) (by assumption) (by assumption) (by is_list) (by assumption) (by assumption) (by assumption) (by rfl) (by walk_at "mine le") (by walk_at "mine le") ?_; k_whole); intro _ _ _ _ _ _ _)
  k_with "call ref" => (k_here; (with_reducible show wpAny _ _ (PySem.call (Value.ref 73) _) _ _ _); k_dflt (refine text_call (by k_asm) (by k_asm) (by assumption) (by assumption) (by exact rfl) (by rfl) (by walk_at "mine le") (by walk_at "mine le") ?_; k_whole); intro _ _ _ _ _)
  k_with "call ref" => (k_here; (with_reducible show wpAny _ _ (PySem.call (Value.ref 45) _) _ _ _); k_dflt (refine fault_call (by k_asm) (by k_asm) (by k_asm) (by rfl) (by walk_at "mine le") (by walk_at "mine le") ?_; k_whole); intro _ _ _ _ _ _ _ _ _)
  k_with "exec Raise some none" => (k_here; k_dflt (refine Raise_fault (by rfl) ?_))
  k_with "call ref" => (k_here; (with_reducible show wpAny _ _ (PySem.call (Value.ref 128) _) _ _ _); k_dflt (refine bind_call (by k_asm) (by k_asm) (by first | assumption | exact fun b o e => e) (by assumption) (by assumption) (by assumption) (by k_updF) (by assumption) (by assumption) (by assumption) (by assumption) (by assumption) (by assumption) (by rfl) (by walk_at "mine le") (by walk_at "mine le") ?_; k_whole); intro _ _ _ _ _ _ _)
  k_with "compareOp NotEq ref ref" => (k_here; k_dflt (refine neq_pair (by k_asm) (by is_list) (by is_tup) (by assumption) (by assumption) (by is_list) (by walk_at "mine le") ?_; k_whole))
  k_with "compareOp Eq ref ref" => (k_here; k_dflt (refine eq_rep_same (by k_asm) (by assumption) (by assumption) (by walk_at "mine le") ?_; k_whole))
  k_with "call ref" => (k_here; (with_reducible show wpAny _ _ (PySem.call (Value.ref 135) _) _ _ _); k_dflt (refine alike_call (by k_asm) (by k_asm) (by assumption) (by assumption) (by assumption) (by (intro i e; cases e)) (by (intro i e; cases e)) (by assumption) (by rfl) (by walk_at "mine le") (by walk_at "mine le") ?_; k_whole); intro _ _ _ _)
  k_with "call ref" => (k_here; (with_reducible show wpAny _ _ (PySem.call (Value.ref 128) _) _ _ _); k_dflt (refine bind_callR (s := s) (by k_asm) (by assumption) (by assumption) (by assumption) (by assumption) (by assumption) (by assumption) (by assumption) (by assumption) hFF (by rfl) (by rfl) (by walk_at "mine le") hE))
  k_with "mine raised" => (refine raise_out (s := s) (by assumption) hFF (by assumption) (by assumption) (by assumption) (by assumption) (by exact strNe (by decide)) (by rfl) hE)
  trivial
/-- a group of the law's: its dict, its list, what that holds, its type, whether it is of numbers -/
structure GV where
  d : Addr
  la : Addr
  vs : List Value
  ts : List Ty
  tv : Option (Addr × Ty)
  num : Bool
def GV.typ (G : GV) : Value := match G.tv with | none => .none | some (x, _) => .ref x
def kvsOf (la : Addr) (tv : Value) (num : Bool) : List (Str × Value) := [("all", .ref la), ("type", tv), ("number", .bool num)]
structure GAt (prog : Program) (w : World) (h : Heap) (G : GV) : Prop where
  dict : h.DictOf (PySem.strKind prog w) G.d (kvsOf G.la G.typ G.num)
  list : h.IsList G.la G.vs.toArray
  reps : Reps h G.vs G.ts
  type : ∀ x t, G.tv = some (x, t) → Rep h x t
theorem DictOf.keeps {K : Type} [DecidableEq K] {prog : Program} {w : World} {knd : KeyKind prog w K} {h h' : Heap} {d : Addr} {kvs : List (K × Value)} (D : h.DictOf knd d kvs) (k : ∀ b o, h.get? b = some o → h'.get? b = some o) : h'.DictOf knd d kvs := by
  obtain ⟨o, ho, hd⟩ := Heap.dictOf_iff.mp D
  exact Heap.dictOf_iff.mpr ⟨o, k _ _ ho, hd⟩
theorem GAt.keeps {prog : Program} {w : World} {h h' : Heap} {G : GV} (A : GAt prog w h G) (k : h.StaysIn h') : GAt prog w h' G :=
  ⟨DictOf.keeps A.dict k, A.list.at fun o e => k _ _ e, A.reps.keeps k, fun x t e => (A.type x t e).keeps k⟩
def Ty.isInt : Ty → Bool
  | .u8 => true
  | .i32 => true
  | _ => false
theorem item_dictB {prog : Program} {w : World} {A : Around} {s : Shared} {E : Value → Shared → Prop} {value slice : PySem.Expr} {d : Addr} {kvs : List (Str × Value)} {k : Str} {u : Tok} {v : Value} {Q : Value → Shared → Prop}
    (hD : s.heap.DictOf (PySem.strKind prog w) d kvs) (hl : valueAt kvs k = some v) (h : Q v { s with toks := s.toks + 1 })
    (hs : subscripted slice false (.ref d) (.str k u) = operate [.ref d, .str k u] (getItem (.ref d) (.str k u)) := by with_unfolding_all rfl) (hg : ∀ r, letTemporaryGo value (.ref d) r = pure () := by intro _; with_unfolding_all rfl) :
    wpAny (model prog w) A (subscriptTail value slice (.ref d) (.str k u)) Q E s :=
  subscriptTail_builtin hD.typeIs slot_dict_getitem.lookup (wpAny_getItem_of (strKind_is _ _ _ _) hD.mapOf hl h) hs hg
section
variable {prog : Program} {w : World} {A : Around} {E : Value → Shared → Prop} {s : Shared} {g : Heap} {L a b : Addr} {m : Str → Option Value} {t : Ty} {vs : List Value} {ts : List Ty} {Q : Value → Shared → Prop}
theorem in_repsF (F : Fr g L s.heap m) (hl : s.heap.IsList a vs.toArray) (r : Reps g vs ts) (hb : Rep g b t) (hu : A.units ≤ 1200) (h : Q (.bool (decide (t ∈ ts))) s) :
    wpAny (model prog w) A (compareOp .In (.ref b) (.ref a)) Q E s :=
  in_reps hl (r.keeps F.keep) (hb.keeps F.keep) (by have : cLine = 9900 := rfl; omega) h
theorem nin_repsF (F : Fr g L s.heap m) (hl : s.heap.IsList a vs.toArray) (r : Reps g vs ts) (hb : Rep g b t) (hu : A.units ≤ 1200) (h : Q (.bool (!decide (t ∈ ts))) s) :
    wpAny (model prog w) A (compareOp .NotIn (.ref b) (.ref a)) Q E s := by
  refine SeqAt.notIn_list_reads (isList_reads hl (r.keeps F.keep)) (hb.keeps F.keep).reads (canLayAll _) t.canLay ?_ (by rw [any_is]; exact h)
  have := Nat.min_le_left (PyData.depthAll (ts.map Ty.data)) t.data.depth
  have := depthAll ts
  have : cLine = 9900 := rfl
  omega
end
theorem Ty.kind_int (t : Ty) : (t.kind == ("int" : Str)) = t.isInt := by
  cases t with
  | v n => rcases varName_cases n with e | e <;> simp only [Ty.kind, Ty.isInt, e] <;> decide
  | _ => decide
theorem kind_v (n : Nat) : ((varName n) == ("intvar" : Str)) = decide (n % 2 = 1) := by
  unfold varName
  by_cases q : n % 2 = 1
  · rw [if_pos q, decide_eq_true q]; decide
  · rw [if_neg q, decide_eq_false q]; decide


theorem valueAt_all {la : Addr} {tv : Value} {num : Bool} : valueAt (kvsOf la tv num) ("all" : Str) = some (.ref la) := by unfold kvsOf; rfl
theorem valueAt_type {la : Addr} {tv : Value} {num : Bool} : valueAt (kvsOf la tv num) ("type" : Str) = some tv := by unfold kvsOf; rfl
theorem valueAt_number {la : Addr} {tv : Value} {num : Bool} : valueAt (kvsOf la tv num) ("number" : Str) = some (.bool num) := by unfold kvsOf; rfl
theorem rowsS14_1 : True := by
  k_with "subscriptTail" => (k_here; (with_reducible show wpAny _ _ (subscriptTail _ _ (Value.ref _) (Value.str _ _)) _ _ _); k_dflt (refine item_dictB (by exact DictOf.keeps (by assumption) (Fr.keep (by assumption))) (by first | exact valueAt_all | exact valueAt_type | exact valueAt_number) ?_; k_whole))
  k_with "compareOp In ref ref" => (k_here; k_dflt (refine in_repsF (by k_asm) (by is_list) (by assumption) (by assumption) (by walk_at "mine le") ?_; k_whole))
  k_with "eval Dict" => (k_here; k_dflt (refine kdn_str (by rfl) (by k_asm) (by first | k_asm | exact News.nil) (by exact TopRead.nolimit (by k_asm)) (by rfl) (by rfl) (by exact List.cons_ne_nil _ _) (by walk_at "mine le") ?_); intro _ _ _ _ _ l1 _ _; (try k_lt l1))
  k_with "mine homeNew" => (
    (with_reducible rename Fr _ _ _ _ => F1); (with_reducible rename News _ _ _ _ => N1); (rename Obj.IsDictOf _ _ _ => D1)
    refine ⟨_, _, rfl, F1.keep, .inr ⟨fun G' hG' => ?_, _, _, rfl, (N1 _ (.tail _ (.head _))).2.2, (N1 _ (.head _)).2.2, ?_, ⟨_, (N1 _ (.tail _ (.head _))).1, ?_⟩, (N1 _ (.head _)).1⟩⟩
    · obtain ⟨j, hj⟩ := List.getElem?_of_mem hG'
      exact hP j G' (by have := (List.getElem?_eq_some_iff.mp hj).1; simpa using this) hj
    · exact Nat.ne_of_lt (by assumption)
    · first | exact D1 | (rw [qn] at D1; exact D1))
  trivial
theorem putG {m₀ : Str → Option Value} {x : Str} {v : Value} {u : Option Value} : (fun y => if y = x then some v else (fun y => if y = x then u else m₀ y) y) = (fun y => if y = x then some v else m₀ y) := by
  funext y
  by_cases q : y = x <;> simp [q]
/-- the first group that holds a type, or a new one -/
def HomeEnd (prog : Program) (w : World) (s : Shared) (Gs : List GV) (a : Addr) (t : Ty) (v : Value) (s' : Shared) : Prop :=
  ∃ h' tk', s' = { s with heap := h', toks := tk' } ∧ s.heap.StaysIn h' ∧
    ((∃ (i : Nat) (G : GV), Gs[i]? = some G ∧ t ∈ G.ts ∧ v = .ref G.d) ∨ ((∀ G ∈ Gs, t ∉ G.ts) ∧ ∃ D la, v = .ref D ∧ s.heap.get? D = none ∧ s.heap.get? la = none ∧ D ≠ la ∧ (∃ oD, h'.get? D = some oD ∧ oD.IsDictOf (PySem.strKind prog w) (kvsOf la (.ref a) t.isInt)) ∧ h'.get? la = some (W.listOf #[] 0)))
theorem home_spec {prog : Program} {w : World} {mg mb : Str → Option Value} {s : Shared} (G : G0 w mg mb s.heap) {aG a : Addr} {Gs : List GV} {t : Ty}
    (hG : s.heap.IsList aG (Gs.map fun G => Value.ref G.d).toArray) (hA : ∀ G ∈ Gs, GAt prog w s.heap G) (ha : Rep s.heap a t) {E : Value → Shared → Prop} :
    wpAny (model prog w) (AR 550) (PySem.call (.ref 198) [.ref aG, .ref a]) (HomeEnd prog w s Gs a t) E s := by
  refine wpAny_call ?_
  have KX := G.X
  have T := G.T
  refine' enter0 G.X G.T.nolimit ?ho ?hcd ?hroom ?hbind ?hloc ?_ ?c1 ?c2 ?c3 ?c4
  walk_at "mine enter"
  intro L h₁ F N
  refine wpAny_execs_cons ?_
  refine wpAny_For ?_
  k_steps
  refine For_one (fun i n => n = [] ∧ ∀ (j : Nat) (G : GV), j < i → Gs[j]? = some G → t ∉ G.ts) rfl rfl rfl hG F N ⟨rfl, fun j _ h => absurd h (Nat.not_lt_zero _)⟩ ?_ ?_ ?_
  · rintro i _ ⟨rfl, _⟩; rfl
  · rintro i v _ h tk oi hv ⟨rfl, hP⟩ F₁ N₁ _
    obtain ⟨G, hGi, rfl⟩ : ∃ G, Gs[i]? = some G ∧ Value.ref G.d = v := by simpa using hv
    obtain ⟨D1, D2, D3, D4⟩ := hA G (List.mem_of_getElem? hGi)
    by_cases q : t ∈ G.ts
    · have qd : decide (t ∈ G.ts) = true := decide_eq_true q
      k_steps
      exact ⟨_, _, rfl, F₁.keep, .inl ⟨i, G, hGi, q, rfl⟩⟩
    · have qd : decide (t ∈ G.ts) = false := decide_eq_false q
      k_steps
      refine ⟨_, _, _, _, rfl, F₁, N₁, rfl, fun j G' hj hg => ?_⟩
      rcases Nat.lt_succ_iff_lt_or_eq.mp hj with hj | rfl
      · exact hP j G' hj hg
      · rw [hGi] at hg; cases hg; exact q
  · rintro u _ h tk ⟨rfl, hP⟩ F₁ N₁
    clear F N
    obtain ⟨l, el, xl⟩ := id ha
    cases t with
    | v n =>
      obtain ⟨tk1, u1, rfl⟩ := xl
      have qn : ((varName n) == ("int" : Str)) = false := by rcases varName_cases n with e | e <;> rw [e] <;> decide
      k_steps
      walk_at "mine homeNew"
    | bool =>
      obtain ⟨tk1, rfl⟩ := xl
      have qn : True := trivial
      k_steps
      walk_at "mine homeNew"
    | _ =>
      obtain ⟨tk1, u1, rfl⟩ := xl
      have qn : True := trivial
      k_steps
      walk_at "mine homeNew"

section
variable {prog : Program} {w : World} {mg mb : Str → Option Value} {A : Around} {s : Shared} {g : Heap} {L aG a : Addr} {m : Str → Option Value} {news : List (Addr × Obj)} {Gs : List GV} {t : Ty} {Q E : Value → Shared → Prop}
theorem news_two {g h h' : Heap} {L a b : Addr} {o p : Obj} {m : Str → Option Value} {news : List (Addr × Obj)} (F : Fr g L h m) (N : News g L h news) (k : h.StaysIn h') (e : h'.get? a = some o) (hn : h.get? a = none) (e' : h'.get? b = some p) (hn' : h.get? b = none) : News g L h' ((a, o) :: (b, p) :: news) := by
  intro q hq
  rcases List.mem_cons.mp hq with rfl | hq
  · exact news_more F N k e hn _ (.head _)
  · exact news_more F N k e' hn' _ hq
theorem home_call (F : Fr g L s.heap m) (N : News g L s.heap news) (G : G0 w mg mb g) (hG : g.IsList aG (Gs.map fun G => Value.ref G.d).toArray) (hA : ∀ G ∈ Gs, GAt prog w g G) (ha : Rep g a t)
    (hh : A.handled = none) (hd : A.depth ≤ 550) (hu : A.units ≤ 550)
    (k1 : ∀ (i : Nat) (G : GV) h' tk', Gs[i]? = some G → t ∈ G.ts → Fr g L h' m → News g L h' news → Q (.ref G.d) { s with heap := h', toks := tk' })
    (k2 : ∀ D la oD h' tk', (∀ G ∈ Gs, t ∉ G.ts) → Fr g L h' m → News g L h' ((D, oD) :: (la, W.listOf #[] 0) :: news) → oD.IsDictOf (PySem.strKind prog w) (kvsOf la (.ref a) t.isInt) → D ≠ la → AllNe D news → AllNe la news → Q (.ref D) { s with heap := h', toks := tk' }) :
    wpAny (model prog w) A (PySem.call (.ref 198) [.ref aG, .ref a]) Q E s := by
  refine lift (wpAny_mono (home_spec (G.keeps F.keep) (Fr.lst F hG) (fun G' hG' => (hA G' hG').keeps F.keep) (ha.keeps F.keep)) (fun v s' hv => ?_) fun _ _ e => e) hh hd hu
  obtain ⟨h', tk', rfl, st, ⟨i, G', hi, ht, rfl⟩ | ⟨hno, D, la, rfl, hD, hla, hne, ⟨oD, eD, dD⟩, el⟩⟩ := hv
  · exact k1 i G' h' tk' hi ht (fr_grow F st) (news_grow N st)
  · exact k2 D la oD h' tk' hno (fr_grow F st) (news_two F N st eD hD el hla) dD hne (allNe_of N hD) (allNe_of N hla)
end
end PartS14
section PartS15
theorem rowsS15_0 : True := by
  k_with_none
  k_with "mine enter" => (
    (case ho => k_is); (case hcd => k_is); (case hroom => exact Nat.le_of_ble_eq_true rfl)
    (case hbind => first | exact binds_K (by k_in) rfl (by k_is) rfl rfl rfl | exact BindsTo.of_eq rfl)
    (case hloc => exact locs rfl)
    (case c1 => decide); (case c2 => rfl); (case c3 => rfl); (case c4 => rfl))
  k_with "mine enterC" => (
    (case ho => k_is); (case hcd => k_is); (case hroom => exact Nat.le_of_ble_eq_true rfl)
    (case hbind => first | exact binds_K (by k_in) rfl (by k_is) rfl rfl rfl | exact BindsTo.of_eq rfl)
    (case hkind => exact rfl); (case hnd => decide +kernel)
    (case c2 => rfl); (case c3 => rfl); (case c4 => rfl))
  k_with "mine le" => (exact Nat.le_of_ble_eq_true rfl)
  k_with "subscriptTail" => (k_here; (with_reducible show wpAny _ _ (subscriptTail _ _ (Value.ref _) (Value.int _ _)) _ _ _); k_dflt (refine item_tupleT (by is_tup) (by decide) (by decide) (by rfl) (by rfl) ?_; k_whole))
  k_with "k_inst" => (exact InstAt.keepsB (by assumption) (Fr.keep (by assumption)))
  k_with "mine around" => ((case hh => rfl); (case hd => exact Nat.le_of_ble_eq_true rfl); (case hu => exact Nat.le_of_ble_eq_true rfl))
  trivial
section
variable {prog : Program} {w : World} {mg mb : Str → Option Value} {A : Around} {s : Shared} {g g₀ : Heap} {L : Addr} {m : Str → Option Value} {news : List (Addr × Obj)} {aF aK aN a b : Addr} {its : List Value} {n₁ n₂ ep : Nat} {σ : Nat → Option Ty} {t₁ t₂ r₁ r₂ : Ty} {o : Option (Nat × Ty)} {Q E : Value → Shared → Prop} {gf : Obj → List (Addr × Obj)}
/-- what unify leaves of the table of unknowns -/
def Turned (g₀ : Heap) (o : Option (Nat × Ty)) (its its' : List Value) : Prop := match o with
  | none => its' = its
  | some (k, t) => ∃ ad, Rep g₀ ad t ∧ its' = its.set k (.ref ad)
theorem unify_call (F : Fr g L s.heap m) (N : News g L s.heap news) (U : UpdF aK (W.listOf its.toArray ep) news gf) (st : g₀.StaysIn g) (G : G0 w mg mb g₀) (I : InfAt g₀ aF aK aN) (Kn : Known g₀ its σ) (ha : Rep g₀ a t₁) (hb : Rep g₀ b t₂) (hr₁ : RootN σ n₁ t₁ r₁) (hr₂ : RootN σ n₂ t₂ r₂) (ho : unifyTo r₁ r₂ = some o)
    (hh : A.handled = none) (hd : A.depth ≤ 700) (hu : A.units ≤ 700)
    (hQ : ∀ h' tk' ep' its', Turned g₀ o its its' → Fr g L h' m → News g L h' (gf (W.listOf its'.toArray ep')) → Q .none { s with heap := h', toks := tk' }) :
    wpAny (model prog w) A (PySem.call (.ref 142) [.ref aF, .ref a, .ref b]) Q E s := by
  obtain ⟨pre, post, e, _, _, _⟩ := U.split
  have z := N (aK, W.listOf its.toArray ep) (by rw [e]; exact List.mem_append.mpr (.inr (.head _)))
  have hn : g₀.get? aK = none := by
    cases q : g₀.get? aK with
    | none => rfl
    | some o => have := z.2.2; rw [st _ _ q] at this; cases this
  refine lift (unify_spec (fun b o e => F.keep b o (st b o e)) G I z.1 hn Kn ha hb hr₁ hr₂ ho fun h' tk' ep' its' t1 t2 e' kk => ?_) hh hd hu
  obtain ⟨F', N'⟩ := turn_one F N U e' kk
  refine hQ h' tk' ep' its' ?_ F' N'
  cases o with
  | none => exact t1 rfl
  | some p => exact t2 _ _ rfl
end
theorem rowsS15_1 : True := by
  k_with "call ref" => (k_here; (with_reducible show wpAny _ _ (PySem.call (Value.ref 142) _) _ _ _); k_dflt (refine unify_call (by k_asm) (by k_asm) (by k_updF) (by first | assumption | exact fun b o e => e) (by assumption) (by assumption) (by assumption) (by assumption) (by assumption) (by assumption) (by assumption) (by assumption) (by rfl) (by walk_at "mine le") (by walk_at "mine le") ?_; k_whole); intro _ _ _ _ _ _ _)
  trivial
theorem made_yes {prog : Program} {w : World} {mg mb : Str → Option Value} {s : Shared} {g₀ : Heap} (st : g₀.StaysIn s.heap) (G : G0 w mg mb g₀) {aF aK aN a b : Addr} {its : List Value} {ep n₁ n₂ : Nat} {σ : Nat → Option Ty} {t₁ t₂ r₁ r₂ : Ty} {o : Option (Nat × Ty)}
    (I : InfAt g₀ aF aK aN) (hK : s.heap.get? aK = some (W.listOf its.toArray ep)) (hKn : g₀.get? aK = none) (Kn : Known g₀ its σ) (ha : Rep g₀ a t₁) (hb : Rep g₀ b t₂) (hr₁ : RootN σ n₁ t₁ r₁) (hr₂ : RootN σ n₂ t₂ r₂) (ho : unifyTo r₁ r₂ = some o) {Q E : Value → Shared → Prop}
    (hQ : ∀ h' tk' ep' its', Turned g₀ o its its' → h'.get? aK = some (W.listOf its'.toArray ep') → (∀ b o, b ≠ aK → s.heap.get? b = some o → h'.get? b = some o) → Q (.bool true) { s with heap := h', toks := tk' }) :
    wpAny (model prog w) (AR 650) (PySem.call (.ref 210) [.ref aF, .ref a, .ref b]) Q E s := by
  refine wpAny_call ?_
  have KX := G.X
  refine' enter [(aK, W.listOf its.toArray ep)] G.X st ?hm G.T.nolimit ?ho ?hcd ?hroom ?hbind ?hloc ?_ ?c1 ?c2 ?c3 ?c4
  case hm => intro p hp; rcases List.mem_singleton.mp hp with rfl; exact ⟨hK, hKn⟩
  walk_at "mine enter"
  intro g L h₁ stg gd gu F N KX'
  have T := G.T.keeps stg
  have I' := I.keeps stg
  clear KX
  obtain ⟨dF, e1, e2, t1, t2, I'⟩ := I'
  have fin : ∀ h' : Heap, (∀ c o, g.get? c = some o → h'.get? c = some o) → ∀ b o, b ≠ aK → s.heap.get? b = some o → h'.get? b = some o :=
    fun h' k b o hb e => k b o (gu b o e (by simpa using hb))
  k_steps
  (with_reducible rename Fr _ _ _ _ => F1); (with_reducible rename News _ _ _ _ => N1); (rename Turned _ _ _ _ => TT)
  refine' hQ _ _ _ _ TT (News.get N1 ?M) (fin _ F1.keep)
  case M => k_mem
end PartS15
section PartS16
theorem append_P {prog : Program} {w : World} {A : Around} {s : Shared} {g : Heap} {L D : Addr} {m : Str → Option Value} {news news' : List (Addr × Obj)} {vs : List Value} {n : Nat} {x : Value} {Q E : Value → Shared → Prop} (F : Fr g L s.heap m) (N : News g L s.heap news) (U : Upd D (W.listOf vs.toArray n) (W.listOf (vs ++ [x]).toArray (n + 1)) news news')
    (hz : vs.length ≤ 100) (h : ∀ h', Fr g L h' m → News g L h' news' → Q .none { s with heap := h' }) : wpAny (model prog w) A (call (.builtin "list.append") [.ref D, x]) Q E s := by
  refine append_K F N (its := vs.toArray) (n := n) ?_ h (by rw [List.size_toArray, sizeLine_eq]; omega)
  rw [List.push_toArray]; exact U
theorem len_mine {prog : Program} {w : World} {A : Around} {E : Value → Shared → Prop} {s : Shared} {l : Addr} {vs : List Value} {Q : Value → Shared → Prop} (hl : s.heap.IsList l vs.toArray) (hz : vs.length < 1000) (h : Q (.int (vs.length : Int) (s.toks + 1)) { s with toks := s.toks + 1 + 1 }) :
    wpAny (model prog w) A (call (.builtin "len") [.ref l]) Q E s := by
  have := len_list (prog := prog) (w := w) (A := A) (E := E) (Q := Q) hl (by rw [List.size_toArray]; omega) (by rw [List.size_toArray]; exact h)
  exact this
theorem rowsS16_0 : True := by
  k_with_none
  k_with "mine enter" => (
    (case ho => k_is); (case hcd => k_is); (case hroom => exact Nat.le_of_ble_eq_true rfl)
    (case hbind => first | exact binds_K (by k_in) rfl (by k_is) rfl rfl rfl | exact BindsTo.of_eq rfl)
    (case hloc => exact locs rfl)
    (case c1 => decide); (case c2 => rfl); (case c3 => rfl); (case c4 => rfl))
  k_with "k_inst" => (exact InstAt.keepsB (by assumption) (Fr.keep (by assumption)))
  k_with "call builtin:len" => (k_here; (with_reducible show wpAny _ _ (call (Value.builtin "len") [Value.ref _]) _ _ _); k_dflt (refine len_mine (by is_list) (by first | omega | (simp only [List.length_append, List.length_singleton]; omega)) ?_; k_whole))
  k_with "call builtin:list.append" => (k_here; (with_reducible show wpAny _ _ (call (Value.builtin _) [Value.ref _, _]) _ _ _); k_dflt (refine append_P (by k_asm) (by k_asm) (by k_upd) (by omega) ?_; k_whole); intro _ _ _)
  trivial
/-- the table of unknowns -/
abbrev kn (aK aN : Addr) (e1 e2 : Int) (t1 t2 : Tok) : Obj := dictOf [⟨e1, .str "known" t1, .ref aK⟩, ⟨e2, .str "is_number" t2, .ref aN⟩] 2
def nK (k : Nat) : List Value := List.replicate k .none
def nN (k : Nat) : List Value := (List.range k).map fun i => .bool (i % 2 == 1)
theorem nK_len (k : Nat) : (nK k).length = k := List.length_replicate
theorem nN_len (k : Nat) : (nN k).length = k := by simp [nN]
theorem nK_succ (k : Nat) : nK (k + 1) = nK k ++ [.none] := List.replicate_succ'
theorem nN_succ (k : Nat) : nN (k + 1) = nN k ++ [.bool (k % 2 == 1)] := by simp [nN, List.range_succ]
/-- a ledger that bears the table with the unknowns made so far -/
structure FB (x dx aK aN : Addr) (e1 e2 : Int) (t1 t2 : Tok) (as : List Addr) (news : List (Addr × Obj)) : Prop where
  inst : (x, instObj 152 dx) ∈ news
  dict : (dx, kn aK aN e1 e2 t1 t2) ∈ news
  isK : ∃ n, (aK, W.listOf (nK as.length).toArray n) ∈ news
  isN : ∃ n, (aN, W.listOf (nN as.length).toArray n) ∈ news
  tup : ∀ i a, as[i]? = some a → ∃ t u n, (a, ({ cls := .type "tuple", data := .seq [.str (varName i) t, .int (i : Int) u].toArray n } : Obj)) ∈ news
theorem FB.more {x dx aK aN : Addr} {e1 e2 : Int} {t1 t2 : Tok} {as : List Addr} {news : List (Addr × Obj)} {p : Addr × Obj} (B : FB x dx aK aN e1 e2 t1 t2 as news) : FB x dx aK aN e1 e2 t1 t2 as (p :: news) :=
  ⟨.tail _ B.inst, .tail _ B.dict, B.isK.imp fun _ h => .tail _ h, B.isN.imp fun _ h => .tail _ h, fun i a e => let ⟨t, u, n, h⟩ := B.tup i a e; ⟨t, u, n, .tail _ h⟩⟩
section
variable {prog : Program} {w : World} {mg mb : Str → Option Value} {A : Around} {s : Shared} {g : Heap} {L x dx aK aN : Addr} {e1 e2 : Int} {t1 t2 : Tok} {as : List Addr} {m : Str → Option Value} {news : List (Addr × Obj)} {Q E : Value → Shared → Prop}
theorem FB.instAt {h : Heap} (N : News g L h news) (B : FB x dx aK aN e1 e2 t1 t2 as news) : InstAt h x (instObj 152 dx) 152 (some (kn aK aN e1 e2 t1 t2)) := ⟨(N _ B.inst).1, rfl, rfl, (N _ B.dict).1⟩
theorem FB.apart {h : Heap} (N : News g L h news) (B : FB x dx aK aN e1 e2 t1 t2 as news) {c : Addr} {o : Obj} (hc : (c, o) ∈ news) (hne : ∀ l n, o ≠ W.listOf l n) : c ≠ aK ∧ c ≠ aN := by
  obtain ⟨nk, hK⟩ := B.isK
  obtain ⟨nn, hN⟩ := B.isN
  have z : h.get? c = some o := (N _ hc).1
  have zK : h.get? aK = some _ := (N _ hK).1
  have zN : h.get? aN = some _ := (N _ hN).1
  exact ⟨fun q => by rw [q, zK] at z; exact hne _ _ (Option.some.inj z).symm, fun q => by rw [q, zN] at z; exact hne _ _ (Option.some.inj z).symm⟩
theorem FB.ine (l : Array Value) (n : Nat) : instObj 152 dx ≠ W.listOf l n := fun e => by
  have := congrArg Obj.cls e
  simp at this
theorem FB.dne (l : Array Value) (n : Nat) : kn aK aN e1 e2 t1 t2 ≠ W.listOf l n := fun e => by
  have := congrArg Obj.cls e
  simp at this
theorem FB.inst2 {h g2 : Heap} (N : News g L h news) (B : FB x dx aK aN e1 e2 t1 t2 as news) (gu : ∀ c o, h.get? c = some o → c ∉ [aK, aN] → g2.get? c = some o) : InstAt g2 x (instObj 152 dx) 152 (some (kn aK aN e1 e2 t1 t2)) :=
  have h1 := B.apart N B.inst FB.ine
  have h2 := B.apart N B.dict FB.dne
  ⟨gu _ _ (N _ B.inst).1 (by simp [h1.1, h1.2]), rfl, rfl, gu _ _ (N _ B.dict).1 (by simp [h2.1, h2.2])⟩
/-- what a call of fresh leaves -/
theorem FB.turn {h' : Heap} {b : Addr} {t u : Tok} {n n1 n2 : Nat} (hF : Fr g L s.heap m) (N : News g L s.heap news) (B : FB x dx aK aN e1 e2 t1 t2 as news) (eb : h'.get? b = some { cls := .type "tuple", data := .seq [.str (varName as.length) t, .int (as.length : Int) u].toArray n }) (nb : s.heap.get? b = none)
    (eK : h'.get? aK = some (W.listOf (nK (as.length + 1)).toArray n1)) (eN : h'.get? aN = some (W.listOf (nN (as.length + 1)).toArray n2)) (k : ∀ c o, c ≠ aK → c ≠ aN → s.heap.get? c = some o → h'.get? c = some o) :
    Fr g L h' m ∧ ∃ news', News g L h' news' ∧ FB x dx aK aN e1 e2 t1 t2 (as ++ [b]) news' := by
  obtain ⟨nk, hK⟩ := B.isK
  obtain ⟨nn, hN⟩ := B.isN
  have zK : s.heap.get? aK = some (W.listOf (nK as.length).toArray nk) ∧ aK ≠ L ∧ g.get? aK = none := N _ hK
  have zN : s.heap.get? aN = some (W.listOf (nN as.length).toArray nn) ∧ aN ≠ L ∧ g.get? aN = none := N _ hN
  have apart : ∀ {c : Addr} {o : Obj}, (c, o) ∈ news → (∀ l n, o ≠ W.listOf l n) → c ≠ aK ∧ c ≠ aN := fun hc hne => B.apart N hc hne
  have out : ∀ {c : Addr} {o : Obj}, (c, o) ∈ news → (∀ l n, o ≠ W.listOf l n) → h'.get? c = some o := fun {c o} hc hne =>
    k c o (apart hc hne).1 (apart hc hne).2 (N _ hc).1
  have kg : ∀ c o, g.get? c = some o → h'.get? c = some o := fun c o e =>
    k c o (fun q => by rw [q] at e; rw [zK.2.2] at e; cases e) (fun q => by rw [q] at e; rw [zN.2.2] at e; cases e) (hF.keep c o e)
  have gb : g.get? b = none := by
    cases e : g.get? b with
    | none => rfl
    | some o => rw [hF.keep _ _ e] at nb; cases nb
  obtain ⟨oL, es, epp, hL, r⟩ := hF.ns
  have bL : b ≠ L := fun q => by rw [← q, nb] at hL; cases hL
  have inew : ∀ {c : Addr} {o : Obj}, (c, o) ∈ news → (∀ l n, o ≠ W.listOf l n) → h'.get? c = some o ∧ c ≠ L ∧ g.get? c = none := fun hc hne => ⟨out hc hne, (N _ hc).2⟩
  have tupne : ∀ (l : Array Value) (n : Nat) (l' : Array Value) (n' : Nat), ({ cls := .type "tuple", data := .seq l n } : Obj) ≠ W.listOf l' n' := fun _ _ _ _ e => by
    have := congrArg Obj.cls e
    exact absurd this (by simp)
  have hin := inew B.inst FB.ine
  have hdi := inew B.dict FB.dne
  refine ⟨⟨⟨oL, es, epp, k _ _ (fun q => zK.2.1 q.symm) (fun q => zN.2.1 q.symm) hL, r⟩, kg, hF.above⟩,
    (b, { cls := .type "tuple", data := .seq [.str (varName as.length) t, .int (as.length : Int) u].toArray n }) :: (x, instObj 152 dx) :: (dx, kn aK aN e1 e2 t1 t2) :: (aK, W.listOf (nK (as.length + 1)).toArray n1) :: (aN, W.listOf (nN (as.length + 1)).toArray n2) ::
      news.filter (fun p => p.1 ≠ aK ∧ p.1 ≠ aN), ?_, ?_⟩
  · intro p hp
    rcases List.mem_cons.mp hp with rfl | hp
    · exact ⟨eb, bL, gb⟩
    rcases List.mem_cons.mp hp with rfl | hp
    · exact hin
    rcases List.mem_cons.mp hp with rfl | hp
    · exact hdi
    rcases List.mem_cons.mp hp with rfl | hp
    · exact ⟨eK, zK.2⟩
    rcases List.mem_cons.mp hp with rfl | hp
    · exact ⟨eN, zN.2⟩
    obtain ⟨hp, q⟩ := List.mem_filter.mp hp
    have q := of_decide_eq_true q
    exact ⟨k _ _ q.1 q.2 (N _ hp).1, (N _ hp).2⟩
  · refine ⟨.tail _ (.head _), .tail _ (.tail _ (.head _)), ⟨n1, ?_⟩, ⟨n2, ?_⟩, fun i a e => ?_⟩
    · rw [List.length_append]; exact .tail _ (.tail _ (.tail _ (.head _)))
    · rw [List.length_append]; exact .tail _ (.tail _ (.tail _ (.tail _ (.head _))))
    · by_cases hi : i < as.length
      · rw [List.getElem?_append_left hi] at e
        obtain ⟨t, u, n, h⟩ := B.tup i a e
        exact ⟨t, u, n, .tail _ (.tail _ (.tail _ (.tail _ (.tail _ (List.mem_filter.mpr ⟨h, decide_eq_true (apart h (tupne _ _))⟩)))))⟩
      · rw [List.getElem?_append_right (by omega)] at e
        have hi' : i = as.length := by
          have := (List.getElem?_eq_some_iff.mp e).1
          simp at this; omega
        subst hi'
        simp at e
        subst e
        exact ⟨_, _, _, .head _⟩
theorem tup_is {h : Heap} {b : Addr} {v : Str} {t u : Tok} {i : Int} {n k : Nat} (e : h.get? b = some { cls := .type "tuple", data := .seq [.str v t, .int i u].toArray n }) (hv : v = varName k) (hi : i = (k : Int)) :
    h.get? b = some { cls := .type "tuple", data := .seq [.str (varName k) t, .int (k : Int) u].toArray n } := by rw [← hv, ← hi]; exact e
/-- what fresh has made, told to its caller -/
theorem FB.back {g2 h' : Heap} {L2 b : Addr} {m2 : Str → Option Value} {v : Str} {t u : Tok} {i : Int} {n n1 n2 : Nat} {vK vN : List Value} (F : Fr g L s.heap m) (N : News g L s.heap news) (B : FB x dx aK aN e1 e2 t1 t2 as news)
    (gu : ∀ c o, s.heap.get? c = some o → c ∉ [aK, aN] → g2.get? c = some o) (F1 : Fr g2 L2 h' m2) (N1 : News g2 L2 h' [(b, { cls := .type "tuple", data := .seq [.str v t, .int i u].toArray n }), (aK, W.listOf vK.toArray n1), (aN, W.listOf vN.toArray n2)])
    (l1 : @LT.lt Nat _ aK b ∧ @LT.lt Nat _ aN b) (hv : v = varName as.length) (hi : i = (as.length : Int)) (hK : vK = nK (as.length + 1)) (hN : vN = nN (as.length + 1)) :
    Fr g L h' m ∧ ∃ news', News g L h' news' ∧ FB x dx aK aN e1 e2 t1 t2 (as ++ [b]) news' := by
  subst hK hN
  refine B.turn F N (tup_is (N1 _ (.head _)).1 hv hi) ?_ (N1 _ (.tail _ (.head _))).1 (N1 _ (.tail _ (.tail _ (.head _)))).1 fun c o c1 c2 e => F1.keep c o (gu c o e (by simp [c1, c2]))
  cases e : s.heap.get? b with
  | none => rfl
  | some o =>
    have z := gu b o e fun q => by
      simp only [List.mem_cons, List.not_mem_nil, or_false] at q
      exact q.elim (fun q => Nat.ne_of_lt l1.1 q.symm) fun q => Nat.ne_of_lt l1.2 q.symm
    have y : g2.get? b = none := (N1 _ (.head _)).2.2
    rw [y] at z; cases z
theorem fresh_call (F : Fr g L s.heap m) (N : News g L s.heap news) (G : G0 w mg mb g) (B : FB x dx aK aN e1 e2 t1 t2 as news) (he : as.length % 2 = 0) (hl : as.length < 6) (hne : @Ne Nat aK aN)
    (hh : A.handled = none) (hd : A.depth ≤ 720) (hu : A.units ≤ 720)
    (k : ∀ b h' tk' news', Fr g L h' m → News g L h' news' → FB x dx aK aN e1 e2 t1 t2 (as ++ [b]) news' → Q (.ref b) { s with heap := h', toks := tk' }) :
    wpAny (model prog w) A (PySem.call (.ref 95) [.ref x]) Q E s := by
  refine lift (d := 720) ?_ hh hd hu
  obtain ⟨n1, hK⟩ := B.isK
  obtain ⟨n2, hN⟩ := B.isN
  refine wpAny_call ?_
  have KX := G.X
  refine' enter [(aK, W.listOf (nK as.length).toArray n1), (aN, W.listOf (nN as.length).toArray n2)] G.X F.keep ?hm G.T.nolimit ?ho ?hcd ?hroom ?hbind ?hloc ?_ ?c1 ?c2 ?c3 ?c4
  case hm =>
    intro p hp
    rcases List.mem_cons.mp hp with rfl | hp
    · exact ⟨(N _ hK).1, (N _ hK).2.2⟩
    · rcases List.mem_singleton.mp hp with rfl; exact ⟨(N _ hN).1, (N _ hN).2.2⟩
  walk_at "mine enter"
  intro g2 L2 h3 stg gd gu F2 N2 KX2
  have T := G.T.keeps stg
  have I2 : InstAt g2 x (instObj 152 dx) 152 (some (kn aK aN e1 e2 t1 t2)) := B.inst2 N gu
  have lK := nK_len as.length
  have lN := nN_len as.length
  clear KX
  k_steps
  (with_reducible rename Fr _ _ _ _ => F1); (with_reducible rename News _ _ _ _ => N1)
  obtain ⟨F3, news', N3, B3⟩ := B.back F N gu F1 N1 (by assumption) (by unfold varName; rw [he]; rfl) (by rw [List.length_append, lK]; simp) (nK_succ _).symm (by rw [nN_succ, he]; rfl)
  exact k _ _ _ _ F3 N3 B3
theorem freshI_call (F : Fr g L s.heap m) (N : News g L s.heap news) (G : G0 w mg mb g) (B : FB x dx aK aN e1 e2 t1 t2 as news) (he : as.length % 2 = 1) (hl : as.length < 6) (hne : @Ne Nat aK aN)
    (hh : A.handled = none) (hd : A.depth ≤ 720) (hu : A.units ≤ 720)
    (k : ∀ b h' tk' news', Fr g L h' m → News g L h' news' → FB x dx aK aN e1 e2 t1 t2 (as ++ [b]) news' → Q (.ref b) { s with heap := h', toks := tk' }) :
    wpAny (model prog w) A (PySem.call (.ref 102) [.ref x]) Q E s := by
  refine lift (d := 720) ?_ hh hd hu
  obtain ⟨n1, hK⟩ := B.isK
  obtain ⟨n2, hN⟩ := B.isN
  refine wpAny_call ?_
  have KX := G.X
  refine' enter [(aK, W.listOf (nK as.length).toArray n1), (aN, W.listOf (nN as.length).toArray n2)] G.X F.keep ?hm G.T.nolimit ?ho ?hcd ?hroom ?hbind ?hloc ?_ ?c1 ?c2 ?c3 ?c4
  case hm =>
    intro p hp
    rcases List.mem_cons.mp hp with rfl | hp
    · exact ⟨(N _ hK).1, (N _ hK).2.2⟩
    · rcases List.mem_singleton.mp hp with rfl; exact ⟨(N _ hN).1, (N _ hN).2.2⟩
  walk_at "mine enter"
  intro g2 L2 h3 stg gd gu F2 N2 KX2
  have T := G.T.keeps stg
  have I2 : InstAt g2 x (instObj 152 dx) 152 (some (kn aK aN e1 e2 t1 t2)) := B.inst2 N gu
  have lK := nK_len as.length
  have lN := nN_len as.length
  clear KX
  k_steps
  (with_reducible rename Fr _ _ _ _ => F1); (with_reducible rename News _ _ _ _ => N1)
  obtain ⟨F3, news', N3, B3⟩ := B.back F N gu F1 N1 (by assumption) (by unfold varName; rw [he]; rfl) (by rw [List.length_append, lK]; simp) (nK_succ _).symm (by rw [nN_succ, he]; rfl)
  exact k _ _ _ _ F3 N3 B3
theorem back {g₀ h' g h4 : Heap} {L₀ L2 : Addr} {m₀ m2 : Str → Option Value} {muts news news4 : List (Addr × Obj)} (F' : Fr g₀ L₀ h' m₀) (N' : News g₀ L₀ h' (muts ++ news)) (off0 : ∀ p ∈ news, p.1 ∉ muts.map (·.1)) (gu : ∀ b o, h'.get? b = some o → b ∉ muts.map (·.1) → g.get? b = some o) (F4 : Fr g L2 h4 m2) (N4 : News g L2 h4 news4) :
    Fr g₀ L₀ h4 m₀ ∧ News g₀ L₀ h4 (news4 ++ news) := by
  have kk : ∀ b o, b ∉ muts.map (·.1) → h'.get? b = some o → h4.get? b = some o := fun b o hb e => F4.keep b o (gu b o e hb)
  have off : ∀ b o, g₀.get? b = some o → b ∉ muts.map (·.1) := fun b o e hm => by
    obtain ⟨p, hp, rfl⟩ := List.mem_map.mp hm
    rw [(N' p (List.mem_append_left _ hp)).2.2] at e; cases e
  have offL : L₀ ∉ muts.map (·.1) := fun hm => by
    obtain ⟨p, hp, q⟩ := List.mem_map.mp hm
    exact (N' p (List.mem_append_left _ hp)).2.1 q
  obtain ⟨oL, es, ep, eL, r⟩ := F'.ns
  have gL := gu L₀ oL eL offL
  refine ⟨⟨⟨oL, es, ep, kk L₀ oL offL eL, r⟩, fun b o e => kk b o (off b o e) (F'.keep b o e), F'.above⟩, fun p hp => ?_⟩
  rcases List.mem_append.mp hp with hp | hp
  · refine ⟨(N4 p hp).1, fun q => ?_, ?_⟩
    · have := (N4 p hp).2.2; rw [q, gL] at this; cases this
    · cases e : g₀.get? p.1 with
      | none => rfl
      | some o => have := gu _ o (F'.keep _ _ e) (off _ o e); rw [(N4 p hp).2.2] at this; cases this
  · have z := N' p (List.mem_append_right _ hp)
    exact ⟨kk _ _ (off0 p hp) z.1, z.2⟩
theorem infer_call (F : Fr g L s.heap m) (N : News g L s.heap news) (G : G0 w mg mb g) (hh : A.handled = none) (hd : A.depth ≤ 720) (hu : A.units ≤ 720)
    (k : ∀ (x dx aK aN : Addr) (e1 e2 : Int) (t1 t2 : Tok) h' tk' news', @Ne Nat aK aN → Fr g L h' m → News g L h' news' → FB x dx aK aN e1 e2 t1 t2 [] news' → Q (.ref x) { s with heap := h', toks := tk' }) :
    wpAny (model prog w) A (PySem.call (.ref 152) []) Q E s := by
  refine lift (d := 720) ?_ hh hd hu
  refine call_cls F G.X N (by k_is) (by k_is) (by k_is) fun x dx h' F' N' l1 l2 => ?_
  have KX := G.X
  refine' enter [(x, instObj 152 dx), (dx, dictOf [] 0)] G.X F'.keep ?hm G.T.nolimit ?ho ?hcd ?hroom ?hbind ?hloc ?_ ?c1 ?c2 ?c3 ?c4
  case hm =>
    intro p hp
    rcases List.mem_cons.mp hp with rfl | hp
    · exact ⟨(N' _ (.head _)).1, (N' _ (.head _)).2.2⟩
    · rcases List.mem_singleton.mp hp with rfl; exact ⟨(N' _ (.tail _ (.head _))).1, (N' _ (.tail _ (.head _))).2.2⟩
  walk_at "mine enter"
  intro g2 L2 h3 stg gd gu F2 N2 KX2
  have T := G.T.keeps stg
  clear KX
  have l2' : @LT.lt Nat _ dx x := l2
  k_steps
  (with_reducible rename Fr _ _ _ _ => F1); (with_reducible rename News _ _ _ _ => N1)
  rename_i aN _ l3 _
  obtain ⟨F3, N3⟩ := back (muts := [(x, instObj 152 dx), (dx, dictOf [] 0)]) F' N' (fun p hp q => by
    have z := l1 p hp
    simp only [List.map_cons, List.map_nil, List.mem_cons, List.not_mem_nil, or_false] at q
    exact q.elim (fun q => by rw [q] at z; exact Nat.lt_asymm z l2') fun q => Nat.ne_of_lt z q) gu F1 N1
  exact ⟨rfl, k _ _ _ _ _ _ _ _ _ _ _ (Nat.ne_of_lt l3.1) F3 N3 ⟨.tail _ (.tail _ (.head _)), .tail _ (.tail _ (.tail _ (.head _))), ⟨_, .tail _ (.head _)⟩, ⟨_, .head _⟩, fun i a e => by simp at e⟩⟩
end
/-! the table of unknowns as it is begun -/
structure BegunAt (g : Heap) (T aF aK aN aS : Addr) (vs : List Value) : Prop where
  tup : IsTup g T [Value.ref aF, Value.ref aS].toArray
  inf : InfAt g aF aK aN
  isn : g.IsList aN [Value.bool false, .bool true, .bool false, .bool true, .bool false, .bool true].toArray
  some_ : ∃ n, g.get? aS = some (W.listOf vs.toArray n)
  reps : Reps g vs [.v 0, .v 1, .v 2, .v 3, .v 4, .v 5]
def noneK : List Value := [.none, .none, .none, .none, .none, .none]
def Begun (s : Shared) (v : Value) (s' : Shared) : Prop := ∃ T aF aK aN aS vs ep, v = .ref T ∧ Keeps s s' ∧ (∀ S : List Addr, (∀ d ∈ S, d = aK ∨ s.heap.get? d ≠ none) → BegunAt (hideAll s'.heap S) T aF aK aN aS vs) ∧
  s'.heap.get? aK = some (W.listOf noneK.toArray ep) ∧ s.heap.get? aK = none ∧ aS ≠ aK
theorem Begun.made {s : Shared} {L T aS a0 a1 a2 a3 a4 a5 x dx aK aN : Addr} {e1 e2 : Int} {t1 t2 : Tok} {h : Heap} {tk n1 n2 : Nat} {m : Str → Option Value} {news : List (Addr × Obj)} (F : Fr s.heap L h m)
    (N : News s.heap L h ((T, { cls := .type "tuple", data := .seq [Value.ref x, .ref aS].toArray n1 }) :: (aS, W.listOf [Value.ref a0, .ref a1, .ref a2, .ref a3, .ref a4, .ref a5].toArray n2) :: news))
    (B : FB x dx aK aN e1 e2 t1 t2 [a0, a1, a2, a3, a4, a5] news) (hne : @Ne Nat aK aN) : Begun s (.ref T) ⟨h, s.gens, s.drawn, tk, s.os⟩ := by
  have N' : News s.heap L h news := fun p hp => N p (.tail _ (.tail _ hp))
  obtain ⟨nk, hK⟩ := B.isK
  obtain ⟨nn, hN⟩ := B.isN
  have zT := N _ (.head _)
  have zS := N _ (.tail _ (.head _))
  have eK : h.get? aK = some (W.listOf (nK 6).toArray nk) := (N' _ hK).1
  have SK : aS ≠ aK := fun q => by
    have z : h.get? aS = some _ := zS.1
    rw [q, eK] at z
    have := congrArg Obj.data (Option.some.inj z)
    simp [W.listOf, nK] at this
  refine ⟨T, x, aK, aN, aS, [.ref a0, .ref a1, .ref a2, .ref a3, .ref a4, .ref a5], nk, rfl, ⟨h, tk, rfl, F.keep⟩, fun S hS => ?_, eK, (N' _ hK).2.2, SK⟩
  have get : ∀ {a : Addr} {o : Obj}, h.get? a = some o → s.heap.get? a = none → a ≠ aK → (hideAll h S).get? a = some o := fun {a o} e1 e2 ne =>
    hideAll_get _ e1 fun hm => (hS a hm).elim ne fun q => q e2
  have tupne : ∀ (l : Array Value) (n : Nat) (l' : Array Value) (n' : Nat), ({ cls := .type "tuple", data := .seq l n } : Obj) ≠ W.listOf l' n' := fun _ _ _ _ e => by
    have := congrArg Obj.cls e
    exact absurd this (by simp)
  have TK : T ≠ aK := fun q => by
    have z : h.get? T = some _ := zT.1
    rw [q, eK] at z
    exact tupne _ _ _ _ (Option.some.inj z).symm
  have xK := (B.apart N' B.inst FB.ine).1
  have dK := (B.apart N' B.dict FB.dne).1
  have tp : ∀ i a, [a0, a1, a2, a3, a4, a5][i]? = some a → Rep (hideAll h S) a (.v i) := fun i a e => by
    obtain ⟨t, u, n, hm⟩ := B.tup i a e
    exact ⟨_, ⟨_, get (N' _ hm).1 (N' _ hm).2.2 (B.apart N' hm (tupne _ _)).1, rfl, _, rfl⟩, t, u, rfl⟩
  have e6 : nN 6 = [Value.bool false, .bool true, .bool false, .bool true, .bool false, .bool true] := rfl
  have hN6 : (aN, W.listOf (nN 6).toArray nn) ∈ news := hN
  rw [e6] at hN6
  refine ⟨⟨_, get zT.1 zT.2.2 TK, rfl, _, rfl⟩, ⟨dx, e1, e2, t1, t2, get (N' _ B.inst).1 (N' _ B.inst).2.2 xK, rfl, rfl, get (N' _ B.dict).1 (N' _ B.dict).2.2 dK⟩, ⟨_, get (N' _ hN6).1 (N' _ hN6).2.2 (fun q => hne q.symm), rfl, _, rfl⟩, ⟨_, get zS.1 zS.2.2 SK⟩, ?_⟩
  exact .cons (tp 0 _ rfl) (.cons (tp 1 _ rfl) (.cons (tp 2 _ rfl) (.cons (tp 3 _ rfl) (.cons (tp 4 _ rfl) (.cons (tp 5 _ rfl) .nil)))))
theorem rowsS16_1 : True := by
  k_with "k_inst" => (exact FB.instAt (by assumption) (by assumption))
  k_with "call ref" => (k_here; (with_reducible show wpAny _ _ (PySem.call (Value.ref 152) _) _ _ _); k_dflt (refine infer_call (by k_asm) (by first | k_asm | exact News.nil) (by assumption) (by rfl) (by walk_at "mine le") (by walk_at "mine le") ?_; k_whole); intro _ _ _ _ _ _ _ _ _ _ _ _ _ _ _)
  k_with "call ref" => (k_here; (with_reducible show wpAny _ _ (PySem.call (Value.ref 95) _) _ _ _); k_dflt (refine fresh_call (by k_asm) (by k_asm) (by assumption) (by assumption) (by simp) (by simp) (by assumption) (by rfl) (by walk_at "mine le") (by walk_at "mine le") ?_; k_whole); intro _ _ _ _ _ _ _)
  k_with "call ref" => (k_here; (with_reducible show wpAny _ _ (PySem.call (Value.ref 102) _) _ _ _); k_dflt (refine freshI_call (by k_asm) (by k_asm) (by assumption) (by assumption) (by simp) (by simp) (by assumption) (by rfl) (by walk_at "mine le") (by walk_at "mine le") ?_; k_whole); intro _ _ _ _ _ _ _)
  k_with "mine le" => (exact Nat.le_of_ble_eq_true rfl)
  trivial
theorem begun_run {prog : Program} {w : World} {mg mb : Str → Option Value} {s : Shared} (G : G0 w mg mb s.heap) {E : Value → Shared → Prop} :
  wpAny (model prog w) (AR 700) (PySem.call (.ref 191) []) (Begun s) E s := by
  refine wpAny_call ?_
  have KX := G.X
  have T := G.T
  refine' enter0 G.X G.T.nolimit ?ho ?hcd ?hroom ?hbind ?hloc ?_ ?c1 ?c2 ?c3 ?c4
  walk_at "mine enter"
  intro L h₁ F N
  k_steps
  (with_reducible rename Fr _ _ _ _ => F1); (with_reducible rename News _ _ _ _ => N1); (with_reducible rename FB _ _ _ _ _ _ _ _ _ _ => B1)
  exact Begun.made F1 N1 B1 (by assumption)
end PartS16
section PartS17
theorem rowsS17_0 : True := by
  k_with_none
  k_with "mine enter" => (
    (case ho => k_is); (case hcd => k_is); (case hroom => exact Nat.le_of_ble_eq_true rfl)
    (case hbind => first | exact binds_K (by k_in) rfl (by k_is) rfl rfl rfl | exact BindsTo.of_eq rfl)
    (case hloc => exact locs rfl)
    (case c1 => decide); (case c2 => rfl); (case c3 => rfl); (case c4 => rfl))
  k_with "mine enterC" => (
    (case ho => k_is); (case hcd => k_is); (case hroom => exact Nat.le_of_ble_eq_true rfl)
    (case hbind => first | exact binds_K (by k_in) rfl (by k_is) rfl rfl rfl | exact BindsTo.of_eq rfl)
    (case hkind => exact rfl); (case hnd => decide +kernel)
    (case c2 => rfl); (case c3 => rfl); (case c4 => rfl))
  k_with "mine le" => (exact Nat.le_of_ble_eq_true rfl)
  k_with "subscriptTail" => (k_here; (with_reducible show wpAny _ _ (subscriptTail _ _ (Value.ref _) (Value.int _ _)) _ _ _); k_dflt (refine item_tupleT (by is_tup) (by decide) (by decide) (by rfl) (by rfl) ?_; k_whole))
  k_with "k_inst" => (exact InstAt.keepsB (by assumption) (Fr.keep (by assumption)))
  k_with "mine around" => ((case hh => rfl); (case hd => exact Nat.le_of_ble_eq_true rfl); (case hu => exact Nat.le_of_ble_eq_true rfl))
  trivial
theorem known_spec {prog : Program} {w : World} {mg mb : Str → Option Value} {s : Shared} (G : G0 w mg mb s.heap) {Q E : Value → Shared → Prop}
    (hQ : ∀ b vs n h' tk', s.heap.StaysIn h' → h'.get? b = some (W.listOf vs.toArray n) → s.heap.get? b = none → (∀ h₂ : Heap, (∀ c o, h'.get? c = some o → s.heap.get? c = none → h₂.get? c = some o) → Reps h₂ vs [.u8, .i32, .bool, .par]) → Q (.ref b) { s with heap := h', toks := tk' }) :
    wpAny (model prog w) (AR 700) (PySem.call (.ref 184) []) Q E s := by
  refine wpAny_call ?_
  have KX := G.X
  have T := G.T
  refine' enter0 G.X G.T.nolimit ?ho ?hcd ?hroom ?hbind ?hloc ?_ ?c1 ?c2 ?c3 ?c4
  walk_at "mine enter"
  intro L h₁ F N
  clear G
  k_steps
  (with_reducible rename Fr _ _ _ _ => F1); (with_reducible rename News _ _ _ _ => N1)
  have n0 := N1 _ List.mem_cons_self
  refine hQ _ _ _ _ _ F1.keep n0.1 n0.2.2 fun h₂ k => ?_
  have n1 := N1 _ (.tail _ List.mem_cons_self)
  have n2 := N1 _ (.tail _ (.tail _ List.mem_cons_self))
  have n3 := N1 _ (.tail _ (.tail _ (.tail _ List.mem_cons_self)))
  have n4 := N1 _ (.tail _ (.tail _ (.tail _ (.tail _ List.mem_cons_self))))
  exact .cons ⟨_, ⟨_, k _ _ n4.1 n4.2.2, rfl, _, rfl⟩, _, _, rfl⟩ (.cons ⟨_, ⟨_, k _ _ n3.1 n3.2.2, rfl, _, rfl⟩, _, _, rfl⟩ (.cons ⟨_, ⟨_, k _ _ n2.1 n2.2.2, rfl, _, rfl⟩, _, rfl⟩ (.cons ⟨_, ⟨_, k _ _ n1.1 n1.2.2, rfl, _, rfl⟩, _, _, rfl⟩ .nil)))
section
variable {prog : Program} {w : World} {mg mb : Str → Option Value} {A : Around} {s : Shared} {g g₀ : Heap} {L : Addr} {m : Str → Option Value} {news : List (Addr × Obj)} {aS : Addr} {x y top : Int} {t1 t2 t3 : Tok} {n : Nat} {Q E : Value → Shared → Prop} {gf : Obj → List (Addr × Obj)}
theorem take_call (F : Fr g L s.heap m) (N : News g L s.heap news) (G : G0 w mg mb g) (U : UpdF aS (lst [.int x t1, .int y t2] n) news gf) (h0 : 0 < top) (h1 : top < 100) (hy0 : 0 ≤ y) (hy1 : y < 2147483647)
    (hh : A.handled = none) (hd : A.depth ≤ 800) (hu : A.units ≤ 800)
    (k : ∀ d u x' t1' y' t2' n' h' tk', 0 ≤ d → d < top → 0 ≤ y' → y' < 2147483647 → Fr g L h' m → News g L h' (gf (lst [.int x' t1', .int y' t2'] n')) → Q (.int d u) { s with heap := h', toks := tk' }) :
    wpAny (model prog w) A (PySem.call (.ref 170) [.ref aS, .int top t3]) Q E s := by
  obtain ⟨pre, post, e, _, _, _⟩ := U.split
  have z := N (aS, lst [.int x t1, .int y t2] n) (by rw [e]; exact List.mem_append.mpr (.inr (.head _)))
  refine lift (take_spec G F.keep z.1 z.2.2 h0 h1 hy0 hy1 fun d u x' t1' y' t2' n' h' tk' a1 a2 a3 a4 e' kk => ?_) hh hd hu
  obtain ⟨F', N'⟩ := turn_one F N U e' kk
  exact k d u x' t1' y' t2' n' h' tk' a1 a2 a3 a4 F' N'
end
theorem rowsS17_1 : True := by
  k_with "call ref" => (k_here; (with_reducible show wpAny _ _ (PySem.call (Value.ref 170) _) _ _ _); k_dflt (refine take_call (by k_asm) (by k_asm) (by assumption) (by k_updF) (by omega) (by omega) (by omega) (by omega) (by rfl) (by walk_at "mine le") (by walk_at "mine le") ?_; k_whole); intro _ _ _ _ _ _ _ _ _ _ _ _ _ _ _)
  trivial
theorem rowsS17_2 : True := by
  k_with "call builtin:len" => (k_here; (with_reducible show wpAny _ _ (call (Value.builtin "len") [Value.ref _]) _ _ _); k_dflt (refine len_mine (by is_list) (by omega) ?_; k_whole))
  trivial
theorem one_spec {prog : Program} {w : World} {mg mb : Str → Option Value} {s : Shared} {b₀ : Heap} (G : G0 w mg mb b₀) {aS aT : Addr} {x y : Int} {t1 t2 : Tok} {n : Nat} {vs : List Value}
    (st : b₀.StaysIn s.heap) (ha : s.heap.get? aS = some (lst [.int x t1, .int y t2] n)) (hn : b₀.get? aS = none) (hy0 : 0 ≤ y) (hy1 : y < 2147483647) (hT : s.heap.IsList aT vs.toArray) (hne : aT ≠ aS) (hl : 0 < vs.length) (hl2 : vs.length < 100)
    {Q : Value → Shared → Prop} {E : Value → Shared → Prop}
    (hQ : ∀ (i : Nat) v x' t1' y' t2' n' h' tk', vs[i]? = some v → 0 ≤ y' → y' < 2147483647 → h'.get? aS = some (lst [.int x' t1', .int y' t2'] n') → (∀ b o, b ≠ aS → s.heap.get? b = some o → h'.get? b = some o) → Q v { s with heap := h', toks := tk' }) :
  wpAny (model prog w) (AR 700) (PySem.call (.ref 177) [.ref aS, .ref aT]) Q E s := by
  refine wpAny_call ?_
  have KX := G.X
  refine' enter [(aS, lst [.int x t1, .int y t2] n)] G.X st ?hm G.T.nolimit ?ho ?hcd ?hroom ?hbind ?hloc ?_ ?c1 ?c2 ?c3 ?c4
  case hm => intro p hp; rcases List.mem_singleton.mp hp with rfl; exact ⟨ha, hn⟩
  walk_at "mine enter"
  intro g L h₁ stg gd gu F N KX'
  have hlI : (0 : Int) < (vs.length : Int) := by omega
  have T := G.T.keeps stg
  have G' := G.keeps stg
  have hT' : g.IsList aT vs.toArray := hT.at fun o e => gu _ _ e (by simpa using hne)
  clear KX G st stg
  k_steps
  rename_i d' _ _ _ _ _ _ _ _ hd0 hd1 hy0' hy1' F1 N1
  have hdl : d'.toNat < vs.length := by omega
  refine item_listB (Fr.lst F1 hT') hd0 (by omega) (List.getElem?_eq_getElem hdl) ?_ (by with_unfolding_all rfl)
  exact hQ _ _ _ _ _ _ _ _ _ (List.getElem?_eq_getElem hdl) hy0' hy1' (N1 _ List.mem_cons_self).1 (fun b o hb e => F1.keep b o (gu b o e (by simpa using hb)))
theorem pool_spec {prog : Program} {w : World} {mg mb : Str → Option Value} {s : Shared} (G : G0 w mg mb s.heap) {a : Addr} {vs : List Value} {ns : List Int} {t0 : Tok} (hI : IntsAre vs ns) (hlen : vs.length ≤ 63) (hL : s.heap.IsList a vs.toArray)
    {Q E : Value → Shared → Prop}
    (hQ : ∀ b x t1 y t2 n h' tk', s.heap.StaysIn h' → 0 ≤ y → y < 2147483647 → h'.get? b = some (lst [.int x t1, .int y t2] n) → s.heap.get? b = none → Q (.ref b) { s with heap := h', toks := tk' }) :
    wpAny (model prog w) (AR 700) (PySem.call (.ref 163) [.ref a, .int 0 t0]) Q E s := by
  refine wpAny_call ?_
  have KX := G.X
  have T := G.T
  refine' enter0 G.X G.T.nolimit ?ho ?hcd ?hroom ?hbind ?hloc ?_ ?c1 ?c2 ?c3 ?c4
  walk_at "mine enter"
  intro L h₁ F N
  clear G
  k_steps
  all_goals
    (with_reducible rename Fr _ _ _ _ => F1); (with_reducible rename News _ _ _ _ => N1)
    have n0 := N1 _ List.mem_cons_self
    exact hQ _ _ _ _ _ _ _ _ F1.keep (fmod_lo _ (by decide)) (fmod_hi _ (by decide)) n0.1 n0.2.2
end PartS17
section PartS18
theorem rowsS18_0 : True := by
  k_with_none
  k_with "mine enter" => (
    (case ho => k_is); (case hcd => k_is); (case hroom => exact Nat.le_of_ble_eq_true rfl)
    (case hbind => first | exact binds_K (by k_in) rfl (by k_is) rfl rfl rfl | exact BindsTo.of_eq rfl)
    (case hloc => exact locs rfl)
    (case c1 => decide); (case c2 => rfl); (case c3 => rfl); (case c4 => rfl))
  k_with "mine enterC" => (
    (case ho => k_is); (case hcd => k_is); (case hroom => exact Nat.le_of_ble_eq_true rfl)
    (case hbind => first | exact binds_K (by k_in) rfl (by k_is) rfl rfl rfl | exact BindsTo.of_eq rfl)
    (case hkind => exact rfl); (case hnd => decide +kernel)
    (case c2 => rfl); (case c3 => rfl); (case c4 => rfl))
  k_with "mine le" => (exact Nat.le_of_ble_eq_true rfl)
  k_with "subscriptTail" => (k_here; (with_reducible show wpAny _ _ (subscriptTail _ _ (Value.ref _) (Value.int _ _)) _ _ _); k_dflt (refine item_tupleT (by is_tup) (by decide) (by decide) (by rfl) (by rfl) ?_; k_whole))
  k_with "k_inst" => (exact InstAt.keepsB (by assumption) (Fr.keep (by assumption)))
  k_with "mine around" => ((case hh => rfl); (case hd => exact Nat.le_of_ble_eq_true rfl); (case hu => exact Nat.le_of_ble_eq_true rfl))
  trivial
/-! comprehensions over lists of any length -/
section
variable {prog : Program} {w : World} {A : Around} {h₀ : Heap} {L : Addr} {m : Str → Option Value} {env : Env} {ct elt : PySem.Expr} {x : Str} {scope : Scope} {cl : List (Str × Addr)} {s : Shared} {S : List (Addr × Obj) → Prop} {Fin : List Value → List (Addr × Obj) → Prop} {news : List (Addr × Obj)}
theorem restU {vs : List Value} (R : Value → Value → Prop)
    (turn : ∀ v I oI C oC D m₂ ys h tk (E' : Value → Shared → Prop), v ∈ vs → LCg.NsObj oC m₂ → m₂ x = some v → Fr h₀ L h m → News h₀ L h ((I, oI) :: (C, oC) :: (D, LCg.lst ys) :: news) → LCg.Off3 I C D news → ((@Ne Nat I C) ∧ (@Ne Nat I D) ∧ (@Ne Nat C D)) → S news →
      wpAny (model prog w) A (eval elt (compEnvC scope cl C env)) (LCg.CompEnd h₀ L m { s with heap := h, toks := tk } I oI C oC D (LCg.lst ys) S (fun y news' => news' = news ∧ R v y)) E' { s with heap := h, toks := tk })
    (hS : S news) (fin : ∀ ys, Paired R vs ys → Fin ys news) : LCg.CompRest prog w A h₀ L m env elt x scope cl s S (fun i v => vs.toArray[i]? = some v) Fin vs.toArray.size 0 [] news := by
  have key : ∀ (j i : Nat) (ys : List Value), i + j = vs.length → Paired R (vs.take i) ys → LCg.CompRest prog w A h₀ L m env elt x scope cl s S (fun i v => vs.toArray[i]? = some v) Fin j i ys news := by
    intro j
    induction j with
    | zero =>
      intro i ys hi hy
      have e : i = vs.length := by omega
      subst e
      rw [List.take_length] at hy
      exact LCg.CompRest.zero (fin ys hy)
    | succ j ih =>
      intro i ys hi hy
      refine LCg.CompRest.succ ?_
      intro v I oI C oC D m₂ h tk E' hv hC hx F N off ne
      have hv' : vs[i]? = some v := by simpa using hv
      refine wpAny_mono (turn v I oI C oC D m₂ ys h tk E' (List.mem_of_getElem? hv') hC hx F N off ne hS) (fun y s₂ hq => ?_) fun _ _ e => e
      obtain ⟨h', tk', nw, e, F', N', off', hS', hn, hr⟩ := hq
      subst hn
      refine ⟨h', tk', _, e, F', N', off', hS', ih (i + 1) _ (by omega) ?_⟩
      rw [List.take_add_one, hv']
      exact hy.snoc hr
  have := key vs.length 0 [] (by omega) (by simp only [List.take_zero]; exact .nil)
  simpa using this
theorem restT {vs : List Value} (p : Value → Bool) (R : Value → Value → Prop)
    (turn : ∀ v I oI C oC D m₂ ys h tk (E' : Value → Shared → Prop), v ∈ vs → LCg.NsObj oC m₂ → m₂ x = some v → Fr h₀ L h m → News h₀ L h ((I, oI) :: (C, oC) :: (D, LCg.lst ys) :: news) → LCg.Off3 I C D news → ((@Ne Nat I C) ∧ (@Ne Nat I D) ∧ (@Ne Nat C D)) → S news →
      wpAny (model prog w) A (isTrue ct (compEnvC scope cl C env) (eval ct (compEnvC scope cl C env))) (fun b s' => if b = true then wpAny (model prog w) A (eval elt (compEnvC scope cl C env)) (LCg.CompEnd h₀ L m { s with heap := h, toks := tk } I oI C oC D (LCg.lst ys) S (fun y news' => news' = news ∧ p v = true ∧ R v y)) E' s'
        else LCg.CompEnd h₀ L m { s with heap := h, toks := tk } I oI C oC D (LCg.lst ys) S (fun _ news' => news' = news ∧ p v = false) Value.none s') E' { s with heap := h, toks := tk })
    (hS : S news) (fin : ∀ ys, Paired R (vs.filter p) ys → Fin ys news) : LCt.CompRestT prog w A h₀ L m env ct elt x scope cl s S (fun i v => vs.toArray[i]? = some v) Fin vs.toArray.size 0 [] news := by
  have key : ∀ (j i : Nat) (ys : List Value), i + j = vs.length → Paired R ((vs.take i).filter p) ys → LCt.CompRestT prog w A h₀ L m env ct elt x scope cl s S (fun i v => vs.toArray[i]? = some v) Fin j i ys news := by
    intro j
    induction j with
    | zero =>
      intro i ys hi hy
      have e : i = vs.length := by omega
      subst e
      rw [List.take_length] at hy
      exact LCt.CompRestT.zero (fin ys hy)
    | succ j ih =>
      intro i ys hi hy
      refine LCt.CompRestT.succ ?_
      intro v I oI C oC D m₂ h tk E' hv hC hx F N off ne
      have hv' : vs[i]? = some v := by simpa using hv
      refine wpAny_mono (turn v I oI C oC D m₂ ys h tk E' (List.mem_of_getElem? hv') hC hx F N off ne hS) (fun b s₂ hq => ?_) fun _ _ e => e
      cases b with
      | true =>
        simp only [if_true] at hq ⊢
        refine wpAny_mono hq (fun y s₃ hr => ?_) fun _ _ e => e
        obtain ⟨h', tk', nw, e, F', N', off', hS', hn, hp, hr⟩ := hr
        subst hn
        refine ⟨h', tk', _, e, F', N', off', hS', ih (i + 1) _ (by omega) ?_⟩
        rw [List.take_add_one, hv', List.filter_append]
        simpa [hp] using hy.snoc hr
      | false =>
        simp only [Bool.false_eq_true, if_false] at hq ⊢
        obtain ⟨h', tk', nw, e, F', N', off', hS', hn, hp⟩ := hq
        subst hn
        refine ⟨h', tk', _, e, F', N', off', hS', ih (i + 1) _ (by omega) ?_⟩
        rw [List.take_add_one, hv', List.filter_append]
        simpa [hp] using hy
  have := key vs.length 0 [] (by omega) (by simp only [List.take_zero]; exact .nil)
  simpa using this
/-- a turn's end -/
theorem cend {g h' : Heap} {m : Str → Option Value} {s₁ : Shared} {I C D : Addr} {oI oC oD : Obj} {all news : List (Addr × Obj)} {S : List (Addr × Obj) → Prop} {P : Value → Prop} {y : Value} {tk : Nat}
    (F : Fr g L h' m) (N : News g L h' all) (sub : ∀ p ∈ (I, oI) :: (C, oC) :: (D, oD) :: news, p ∈ all) (off : LCg.Off3 I C D news) (hS : S news) (r : P y) :
    LCg.CompEnd g L m s₁ I oI C oC D oD S (fun y news' => news' = news ∧ P y) y { s₁ with heap := h', toks := tk } :=
  ⟨h', tk, news, rfl, F, fun p hp => N p (sub p hp), off, hS, rfl, r⟩
end
theorem sub_tail {α : Type} {imm news : List α} {x : α} (h : ∀ p ∈ imm, p ∈ news) : ∀ p ∈ imm, p ∈ x :: news := fun p hp => .tail _ (h p hp)
theorem sub_nil {α : Type} {news : List α} : ∀ p ∈ ([] : List α), p ∈ news := fun _ h => nomatch h
theorem sub_self {α : Type} {news : List α} : ∀ p ∈ news, p ∈ news := fun _ h => h
/-! what stands in the base or in a tail of the ledger -/
def DIn (prog : Program) (w : World) (g : Heap) (imm : List (Addr × Obj)) (d : Addr) (kvs : List (Str × Value)) : Prop := ∀ L h m news, Fr g L h m → News g L h news → (∀ p ∈ imm, p ∈ news) → h.DictOf (PySem.strKind prog w) d kvs
def LIn (g : Heap) (imm : List (Addr × Obj)) (a : Addr) (vs : List Value) : Prop := ∀ L h m news, Fr g L h m → News g L h news → (∀ p ∈ imm, p ∈ news) → h.IsList a vs.toArray
/-- the home of a type: a group, or one laid anew -/
def Home2 (g : Heap) (Gs : List GV) (a : Addr) (t : Ty) (G : GV) : Prop := (G ∈ Gs ∧ t ∈ G.ts) ∨ ((∀ G' ∈ Gs, t ∉ G'.ts) ∧ G.vs = [] ∧ G.ts = [] ∧ G.tv = some (a, t) ∧ G.num = t.isInt ∧ g.get? G.d = none)
section
variable {prog : Program} {w : World} {mg mb : Str → Option Value} {A : Around} {s : Shared} {g : Heap} {L aG a : Addr} {m : Str → Option Value} {news : List (Addr × Obj)} {Gs : List GV} {t : Ty} {Q E : Value → Shared → Prop}
theorem sep_new {g h h' : Heap} {L x : Addr} {news : List (Addr × Obj)} (N : News g L h news) (hx : h.get? x = none) : ∀ p ∈ news, x ≠ p.1 := fun p hp e => by
  have := (N p hp).1; rw [← e, hx] at this; cases this
theorem home_two (F : Fr g L s.heap m) (N : News g L s.heap news) (G : G0 w mg mb g) (hG : g.IsList aG (Gs.map fun G => Value.ref G.d).toArray) (hA : ∀ G ∈ Gs, GAt prog w g G) (ha : Rep g a t)
    (hh : A.handled = none) (hd : A.depth ≤ 550) (hu : A.units ≤ 550)
    (k : ∀ (G : GV) imm h' tk', Home2 g Gs a t G → DIn prog w g imm G.d (kvsOf G.la G.typ G.num) → LIn g imm G.la G.vs → Reps g G.vs G.ts → (∀ x T, G.tv = some (x, T) → Rep g x T) → (∀ p ∈ news, ∀ q ∈ imm, q.1 ≠ p.1) →
      Fr g L h' m → News g L h' (news ++ imm) → Q (.ref G.d) { s with heap := h', toks := tk' }) :
    wpAny (model prog w) A (PySem.call (.ref 198) [.ref aG, .ref a]) Q E s := by
  refine lift (wpAny_mono (home_spec (G.keeps F.keep) (Fr.lst F hG) (fun G' hG' => (hA G' hG').keeps F.keep) (ha.keeps F.keep)) (fun v s' hv => ?_) fun _ _ e => e) hh hd hu
  obtain ⟨h', tk', rfl, st, ⟨i, G', hi, ht, rfl⟩ | ⟨hno, D, la, rfl, hD, hla, hne, ⟨oD, eD, dD⟩, el⟩⟩ := hv
  · have hm := List.mem_of_getElem? hi
    have x := hA G' hm
    exact k G' [] h' tk' (.inl ⟨hm, ht⟩) (fun L' h m' _ F' _ _ => DictOf.keeps x.dict F'.keep) (fun L' h m' _ F' _ _ => Fr.lst F' x.list) x.reps x.type (fun _ _ _ h => nomatch h) (fr_grow F st) (by rw [List.append_nil]; exact news_grow N st)
  · refine k ⟨D, la, [], [], some (a, t), t.isInt⟩ [(D, oD), (la, W.listOf #[] 0)] h' tk' (.inr ⟨hno, rfl, rfl, rfl, rfl, ?_⟩) (fun L' h m' nw F' N' sub => Heap.dictOf_iff.mpr ⟨oD, (N' _ (sub _ (.head _))).1, dD⟩) (fun L' h m' nw F' N' sub => ⟨_, (N' _ (sub _ (.tail _ (.head _)))).1, rfl, _, rfl⟩) .nil
      (fun x T e => by cases e; exact ha) (fun p hp q hq => ?_) (fr_grow F st) (fun p hp => ?_)
    · show g.get? D = none
      cases e : g.get? D with
      | none => rfl
      | some o => rw [F.keep _ _ e] at hD; cases hD
    · rcases List.mem_cons.mp hq with rfl | hq
      · exact sep_new (h' := h') N hD p hp
      · rcases List.mem_singleton.mp hq with rfl; exact sep_new (h' := h') N hla p hp
    · have N2 := news_two F N st eD hD el hla
      rcases List.mem_append.mp hp with hp | hp
      · exact N2 p (.tail _ (.tail _ hp))
      · rcases List.mem_cons.mp hp with rfl | hp
        · exact N2 _ (.head _)
        · rcases List.mem_singleton.mp hp with rfl; exact N2 _ (.tail _ (.head _))
theorem home_one (F : Fr g L s.heap m) (N : News g L s.heap news) (G : G0 w mg mb g) (hG : g.IsList aG (Gs.map fun G => Value.ref G.d).toArray) (hA : ∀ G ∈ Gs, GAt prog w g G) (ha : Rep g a t) (hex : ∃ G ∈ Gs, t ∈ G.ts)
    (hh : A.handled = none) (hd : A.depth ≤ 550) (hu : A.units ≤ 550)
    (k : ∀ (G : GV) h' tk', G ∈ Gs → t ∈ G.ts → Fr g L h' m → News g L h' news → Q (.ref G.d) { s with heap := h', toks := tk' }) :
    wpAny (model prog w) A (PySem.call (.ref 198) [.ref aG, .ref a]) Q E s := by
  refine home_two F N G hG hA ha hh hd hu fun G' imm h' tk' h2 _ _ _ _ _ F' N' => ?_
  rcases h2 with ⟨h1, h2⟩ | ⟨h1, _⟩
  · exact k G' h' tk' h1 h2 F' (fun p hp => N' p (List.mem_append.mpr (.inl hp)))
  · obtain ⟨G'', hm, ht⟩ := hex
    exact absurd ht (h1 G'' hm)
end
/-- the type of two groups made one; none where they are not made one -/
def joinTv (a b : Option (Addr × Ty)) (n : Bool) : Option (Option (Addr × Ty)) := match a, b with
  | some p, some q => if p.2 = q.2 then (if n && !p.2.isInt then none else some (some p)) else none
  | some p, none => if n && !p.2.isInt then none else some (some p)
  | none, some q => if n && !q.2.isInt then none else some (some q)
  | none, none => some none
end PartS18
section PartS19a
def DLt (d : Addr) (news : List (Addr × Obj)) : Prop := ∀ p ∈ news, p.1 < d
theorem dlt_of {d : Addr} {l : List (Addr × Obj)} (h : ∀ p ∈ l, p.1 < d) : DLt d l := h
theorem dlt_ne {d : Addr} {l : List (Addr × Obj)} (h : DLt d l) : ∀ p ∈ l, p.1 ≠ d := fun p hp => Nat.ne_of_lt (h p hp)
theorem ite_no {a b : Prop} [Decidable (false = true)] (h : b) : if (false = true) then a else b := by rw [if_neg Bool.false_ne_true]; exact h
theorem ite_yes {a b : Prop} [Decidable (true = true)] (h : a) : if (true = true) then a else b := by rw [if_pos rfl]; exact h
theorem dictOf_obj {K : Type} [DecidableEq K] {prog : Program} {w : World} {knd : KeyKind prog w K} {h : Heap} {d : Addr} {kvs : List (K × Value)} (D : h.DictOf knd d kvs) : ∃ o, h.get? d = some o ∧ o.cls ≠ .type "tuple" := by
  obtain ⟨o, ho, es, ep, he, _⟩ := Heap.dictOf_iff.mp D
  refine ⟨o, ho, fun e => ?_⟩; rw [he.1] at e; exact absurd (Value.type.inj e) (by decide)
theorem Reps.append {h : Heap} {vs us : List Value} {ts rs : List Ty} (r : Reps h vs ts) (q : Reps h us rs) : Reps h (vs ++ us) (ts ++ rs) := by
  induction r with
  | nil => exact q
  | cons e _ ih => exact .cons e ih
section
variable {prog : Program} {w : World} {A : Around} {E : Value → Shared → Prop} {s : Shared} {g : Heap} {L a b d1 d2 : Addr} {m : Str → Option Value} {news i1 i2 : List (Addr × Obj)} {k1 k2 : List (Str × Value)} {vs us : List Value} {ts rs : List Ty} {t r : Ty} {Q : Value → Shared → Prop}
theorem is_no (F : Fr g L s.heap m) (N : News g L s.heap news) (D1 : DIn prog w g i1 d1 k1) (s1 : ∀ p ∈ i1, p ∈ news) (D2 : DIn prog w g i2 d2 k2) (s2 : ∀ p ∈ i2, p ∈ news) (hne : ¬ d1 = d2) (h : Q (.bool false) s) :
    wpAny (model prog w) A (compareOp .Is (.ref d1) (.ref d2)) Q E s := by
  obtain ⟨o1, e1, n1⟩ := dictOf_obj (D1 _ _ _ _ F N s1)
  obtain ⟨o2, e2, n2⟩ := dictOf_obj (D2 _ _ _ _ F N s2)
  exact wpAny_is_ref_other hne e1 e2 n1 h
theorem isNot_yes (F : Fr g L s.heap m) (N : News g L s.heap news) (D1 : DIn prog w g i1 d1 k1) (s1 : ∀ p ∈ i1, p ∈ news) (D2 : DIn prog w g i2 d2 k2) (s2 : ∀ p ∈ i2, p ∈ news) (hne : ¬ d1 = d2) (h : Q (.bool true) s) :
    wpAny (model prog w) A (compareOp .IsNot (.ref d1) (.ref d2)) Q E s := by
  obtain ⟨o1, e1, n1⟩ := dictOf_obj (D1 _ _ _ _ F N s1)
  obtain ⟨o2, e2, n2⟩ := dictOf_obj (D2 _ _ _ _ F N s2)
  exact wpAny_isNot_ref_other hne e1 e2 n1 h
theorem item_D {value slice : PySem.Expr} {k : Str} {u : Tok} {v : Value} (F : Fr g L s.heap m) (N : News g L s.heap news) (D : DIn prog w g i1 d1 k1) (s1 : ∀ p ∈ i1, p ∈ news) (hl : valueAt k1 k = some v) (h : Q v { s with toks := s.toks + 1 })
    (hs : subscripted slice false (.ref d1) (.str k u) = operate [.ref d1, .str k u] (getItem (.ref d1) (.str k u)) := by with_unfolding_all rfl) (hg : ∀ r, letTemporaryGo value (.ref d1) r = pure () := by intro _; with_unfolding_all rfl) :
    wpAny (model prog w) A (subscriptTail value slice (.ref d1) (.str k u)) Q E s :=
  item_dictB (D _ _ _ _ F N s1) hl h hs hg
theorem add_mine (F : Fr g L s.heap m) (N : News g L s.heap news) (h1 : s.heap.IsList a vs.toArray) (h2 : s.heap.IsList b us.toArray) (hz : vs.length + us.length ≤ 100)
    (h : ∀ D h', Fr g L h' m → News g L h' ((D, W.listOf (vs ++ us).toArray 0) :: news) → (∀ p ∈ news, p.1 < D) → Q (.ref D) { s with heap := h' }) : wpAny (model prog w) A (binaryOp .Add (.ref a) (.ref b)) Q E s := by
  refine add_arrays F N h1 h2 (fun h' F' N' => ?_) (by rw [sizeLine_eq]; simp only [List.size_toArray]; omega)
  exact h _ h' F' (by simpa [W.listOf] using N') (fun p hp => Heap.lt_size (N p hp).1)
theorem eq_nil (F : Fr g L s.heap m) (hl : s.heap.IsList a vs.toArray) (r : Reps g vs ts) (hl' : s.heap.IsList b ([] : List Value).toArray) (hn : 0 < vs.length) (hu : A.units ≤ 1200) (h : Q (.bool false) s) : wpAny (model prog w) A (compareOp .Eq (.ref a) (.ref b)) Q E s := by
  refine eq_reps hl (r.keeps F.keep) hl' .nil (by have : cLine = 9900 := rfl; omega) ?_
  rw [decide_eq_false (by rintro rfl; have := r.length; simp at this; rw [this] at hn; exact Nat.lt_irrefl _ hn)]; exact h
theorem ne_nil (F : Fr g L s.heap m) (hl : s.heap.IsList a vs.toArray) (r : Reps g vs ts) (hl' : s.heap.IsList b ([] : List Value).toArray) (hn : 0 < vs.length) (hu : A.units ≤ 1200) (h : Q (.bool true) s) : wpAny (model prog w) A (compareOp .NotEq (.ref a) (.ref b)) Q E s := by
  refine ne_reps hl (r.keeps F.keep) hl' .nil (by have : cLine = 9900 := rfl; omega) ?_
  rw [decide_eq_false (by rintro rfl; have := r.length; simp at this; rw [this] at hn; exact Nat.lt_irrefl _ hn)]; exact h
theorem ne_nils (hl : s.heap.IsList a ([] : List Value).toArray) (hl' : s.heap.IsList b ([] : List Value).toArray) (hu : A.units ≤ 1200) (h : Q (.bool false) s) : wpAny (model prog w) A (compareOp .NotEq (.ref a) (.ref b)) Q E s := by
  refine ne_reps hl .nil hl' .nil (by have : cLine = 9900 := rfl; omega) ?_
  rw [decide_eq_true rfl]; exact h
theorem ne_rep_yes (F : Fr g L s.heap m) (ha : Rep g a t) (hb : Rep g b r) (hne : ¬ t = r) (hu : A.units ≤ 1200) (h : Q (.bool true) s) : wpAny (model prog w) A (compareOp .NotEq (.ref a) (.ref b)) Q E s := by
  refine ne_rep (ha.keeps F.keep) (hb.keeps F.keep) (by have : cLine = 9900 := rfl; omega) ?_
  rw [decide_eq_false hne]; exact h
theorem ne_rep_no (F : Fr g L s.heap m) (ha : Rep g a t) (hb : Rep g b t) (hu : A.units ≤ 1200) (h : Q (.bool false) s) : wpAny (model prog w) A (compareOp .NotEq (.ref a) (.ref b)) Q E s := by
  refine ne_rep (ha.keeps F.keep) (hb.keeps F.keep) (by have : cLine = 9900 := rfl; omega) ?_
  rw [decide_eq_true rfl]; exact h
theorem ne_kind_i {u v : Tok} (e : t.isInt = true) (h : Q (.bool false) s) : wpAny (model prog w) A (compareOp .NotEq (.str t.kind u) (.str "int" v)) Q E s := by
  refine PyProof.Rows.ne_str ?_; show Q (.bool (!(t.kind == ("int" : Str)))) s; rw [t.kind_int, e]; exact h
theorem ne_kind_n {u v : Tok} (e : t.isInt = false) (h : Q (.bool true) s) : wpAny (model prog w) A (compareOp .NotEq (.str t.kind u) (.str "int" v)) Q E s := by
  refine PyProof.Rows.ne_str ?_; show Q (.bool (!(t.kind == ("int" : Str)))) s; rw [t.kind_int, e]; exact h
end
def bothG (G1 G2 : GV) (tv : Option (Addr × Ty)) (D la : Addr) : GV := ⟨D, la, G1.vs ++ G2.vs, G1.ts ++ G2.ts, tv, G1.num || G2.num⟩
def joinGs (Gs : List GV) (G1 G2 B : GV) : List GV := Gs.filter (fun G => !decide (G.d = G1.d) && !decide (G.d = G2.d)) ++ [B]
def Joined (prog : Program) (w : World) (h h' : Heap) (aG : Addr) (Gs : List GV) (G1 G2 : GV) (v : Value) : Prop :=
  (G1.d = G2.d ∧ v = .ref aG) ∨ (G1.d ≠ G2.d ∧ joinTv G1.tv G2.tv (G1.num || G2.num) = none ∧ v = .none) ∨
  (G1.d ≠ G2.d ∧ ∃ tv D la aG', joinTv G1.tv G2.tv (G1.num || G2.num) = some tv ∧ v = .ref aG' ∧ h.get? D = none ∧ h.get? la = none ∧ h.get? aG' = none ∧ h'.IsList aG' ((joinGs Gs G1 G2 (bothG G1 G2 tv D la)).map fun G => Value.ref G.d).toArray ∧ GAt prog w h' (bothG G1 G2 tv D la))
theorem jnn {n : Bool} : joinTv none none n = some none := rfl
theorem jsn_f {p : Addr × Ty} : joinTv (some p) none false = some (some p) := rfl
theorem jsn_i {p : Addr × Ty} (e : p.2.isInt = true) : joinTv (some p) none true = some (some p) := by simp [joinTv, e]
theorem jsn_n {p : Addr × Ty} (e : p.2.isInt = false) : joinTv (some p) none true = none := by simp [joinTv, e]
theorem jns_f {p : Addr × Ty} : joinTv none (some p) false = some (some p) := rfl
theorem jns_i {p : Addr × Ty} (e : p.2.isInt = true) : joinTv none (some p) true = some (some p) := by simp [joinTv, e]
theorem jns_n {p : Addr × Ty} (e : p.2.isInt = false) : joinTv none (some p) true = none := by simp [joinTv, e]
theorem jss_d {a b : Addr} {t r : Ty} {n : Bool} (e : ¬ t = r) : joinTv (some (a, t)) (some (b, r)) n = none := by simp [joinTv, e]
theorem jss_f {a b : Addr} {t : Ty} : joinTv (some (a, t)) (some (b, t)) false = some (some (a, t)) := by simp [joinTv]
theorem jss_i {a b : Addr} {t : Ty} (e : t.isInt = true) : joinTv (some (a, t)) (some (b, t)) true = some (some (a, t)) := by simp [joinTv, e]
theorem jss_n {a b : Addr} {t : Ty} (e : t.isInt = false) : joinTv (some (a, t)) (some (b, t)) true = none := by simp [joinTv, e]
def keepP (d1 d2 : Addr) : Value → Bool
  | .ref d => !decide (d = d1) && !decide (d = d2)
  | _ => false
theorem paired_eq {vs ys : List Value} (h : Paired (fun v y => y = v) vs ys) : ys = vs := by
  induction h with
  | nil => rfl
  | cons e _ ih => rw [e, ih]
theorem filter_keep {Gs : List GV} {d1 d2 : Addr} : (Gs.map fun G => Value.ref G.d).filter (keepP d1 d2) = (Gs.filter fun G => !decide (G.d = d1) && !decide (G.d = d2)).map fun G => Value.ref G.d := by
  induction Gs with
  | nil => rfl
  | cons G Gs ih =>
    by_cases q1 : G.d = d1
    · simp [keepP, q1, ih]
    · by_cases q2 : G.d = d2
      · simp [keepP, q2, ih]
      · simp [keepP, q1, q2, ih]
theorem item_list0 {prog : Program} {w : World} {A : Around} {s : Shared} {E : Value → Shared → Prop} {value slice : PySem.Expr} {g : Heap} {L l : Addr} {news : List (Addr × Obj)} {v : Value} {r : List Value} {u : Tok} {Q : Value → Shared → Prop}
    (N : News g L s.heap news) (m : (l, LCg.lst (v :: r)) ∈ news) (h : Q v s)
    (hs : subscripted slice false (.ref l) (.int 0 u) = operate [.ref l, .int 0 u] (getItem (.ref l) (.int 0 u))) : wpAny (model prog w) A (subscriptTail value slice (.ref l) (.int 0 u)) Q E s :=
  item_listB (vs := v :: r) (v := v) ⟨_, (N _ m).1, rfl, _, rfl⟩ (by decide) (by decide) rfl h hs
theorem typ_none {G : GV} (e : G.tv = none) : G.typ = .none := by unfold GV.typ; rw [e]
theorem typ_some {G : GV} {x : Addr} {t : Ty} (e : G.tv = some (x, t)) : G.typ = .ref x := by unfold GV.typ; rw [e]
def Stop (P : Prop) : Prop := P
theorem stop {P : Prop} (h : Stop P) : P := h
theorem news4 {g h : Heap} {L : Addr} {news imm : List (Addr × Obj)} {p q r : Addr × Obj} (N : News g L h news) (m1 : p ∈ news) (m2 : q ∈ news) (m3 : r ∈ news) (s : ∀ x ∈ imm, x ∈ news) : News g L h (p :: q :: r :: imm) := by
  intro x hx
  rcases List.mem_cons.mp hx with rfl | hx
  · exact N _ m1
  · rcases List.mem_cons.mp hx with rfl | hx
    · exact N _ m2
    · rcases List.mem_cons.mp hx with rfl | hx
      · exact N _ m3
      · exact N _ (s _ hx)
end PartS19a
section PartP1
/-! the plain law: what the groups say is what the table of unknowns says -/
def rtT (rt : Nat → Ty) : Ty → Ty
  | .v i => rt i
  | t => t
def TyOk (t : Ty) : Prop := ∀ i, t = .v i → i < 6
def Roots (σ : Nat → Option Ty) (rt : Nat → Ty) : Prop := ∀ i, i < 6 → ∃ n, RootN σ n (.v i) (rt i)
theorem Roots.of {σ : Nat → Option Ty} {rt : Nat → Ty} (R : Roots σ rt) {t : Ty} (ok : TyOk t) : ∃ n, RootN σ n t (rtT rt t) := by
  cases t with
  | v i => exact R i (ok i rfl)
  | _ => exact ⟨0, .base (fun i e => nomatch e)⟩
theorem Roots.begun : Roots (fun _ => none) Ty.v := fun _ hi => ⟨0, .stop hi rfl⟩
def updS (σ : Nat → Option Ty) (k : Nat) (x : Ty) : Nat → Option Ty := fun i => if i = k then some x else σ i
def updR (rt : Nat → Ty) (k : Nat) (x : Ty) : Nat → Ty := fun i => if rt i = .v k then x else rt i
theorem IsRoot.rootAny {σ : Nat → Option Ty} {t : Ty} (h : IsRoot σ t) (n : Nat) : RootN σ n t t := by
  cases t with
  | v j => exact .stop (h j rfl).1 (h j rfl).2
  | _ => exact .base (fun i e => nomatch e)
theorem IsRoot.upd {σ : Nat → Option Ty} {x : Ty} {k : Nat} (h : IsRoot σ x) (hne : x ≠ .v k) : IsRoot (updS σ k x) x := by
  intro j e
  refine ⟨(h j e).1, ?_⟩
  have : j ≠ k := fun q => hne (q ▸ e)
  simp only [updS, this, if_false]
  exact (h j e).2
theorem RootN.upd {σ : Nat → Option Ty} {n k : Nat} {t r x : Ty} (h : RootN σ n t r) (hk : σ k = none) (hk6 : k < 6) (hx : IsRoot σ x) (hne : x ≠ .v k) : RootN (updS σ k x) (n + 1) t (if r = .v k then x else r) := by
  induction h with
  | @stop n i hi hs =>
    by_cases q : i = k
    · subst q
      rw [if_pos rfl]
      exact .step hi (by simp [updS]) ((hx.upd hne).rootAny n)
    · rw [if_neg (fun e => q (Ty.v.inj e))]
      exact .stop hi (by simp only [updS, q, if_false]; exact hs)
  | @step n i t r hi hs _ ih =>
    have q : i ≠ k := fun e => by rw [e, hk] at hs; cases hs
    exact .step hi (by simp only [updS, q, if_false]; exact hs) ih
  | base hb =>
    rw [if_neg (hb k)]
    exact .base hb
theorem Roots.upd {σ : Nat → Option Ty} {rt : Nat → Ty} {k : Nat} {x : Ty} (R : Roots σ rt) (hk : σ k = none) (hk6 : k < 6) (hx : IsRoot σ x) (hne : x ≠ .v k) : Roots (updS σ k x) (updR rt k x) := fun i hi =>
  let ⟨n, h⟩ := R i hi; ⟨n + 1, h.upd hk hk6 hx hne⟩
def Ty.num : Ty → Bool
  | .v n => decide (n % 2 = 1)
  | t => t.isInt
/-- what is known of a group's root -/
def GR (rt : Nat → Ty) (G : GV) (r : Ty) : Prop :=
  (∀ i, Ty.v i ∈ G.ts → rt i = r) ∧ (∀ x T, G.tv = some (x, T) → r = T ∧ (∀ j, T ≠ .v j) ∧ (G.num = true → T.isInt = true)) ∧ (G.tv = none → r ∈ G.ts ∧ (∃ k, r = .v k) ∧ G.num = r.num)
structure Inv (rt : Nat → Ty) (Gs : List GV) : Prop where
  mem : ∀ G ∈ Gs, ∀ t ∈ G.ts, ∃ i, i < 6 ∧ t = .v i
  cover : ∀ i, i < 6 → ∃ G ∈ Gs, Ty.v i ∈ G.ts
  inj : ∀ G ∈ Gs, ∀ G' ∈ Gs, G.d = G'.d → G = G'
  disj : ∀ G ∈ Gs, ∀ G' ∈ Gs, ∀ t, t ∈ G.ts → t ∈ G'.ts → G = G'
  root : ∀ G ∈ Gs, ∃ r, GR rt G r
  ne : ∀ G ∈ Gs, G.ts ≠ []
  nd : ∀ G ∈ Gs, G.ts.Nodup
  len : Gs.length ≤ 6
theorem nodup_len : ∀ (l m : List Ty), l.Nodup → (∀ t ∈ l, t ∈ m) → l.length ≤ m.length := by
  intro l
  induction l with
  | nil => intro m _ _; exact Nat.zero_le _
  | cons a l ih =>
    intro m hn hs
    have ha := hs a (.head _)
    have hn' := List.nodup_cons.mp hn
    have := ih (m.erase a) hn'.2 (fun t ht => (List.mem_erase_of_ne (fun (e : t = a) => hn'.1 (e ▸ ht))).mpr (hs t (.tail _ ht)))
    rw [List.length_erase_of_mem ha] at this
    have : 0 < m.length := List.length_pos_of_mem ha
    simp only [List.length_cons]; omega
theorem Inv.small {rt : Nat → Ty} {Gs : List GV} (I : Inv rt Gs) {G : GV} (hG : G ∈ Gs) : G.ts.length ≤ 6 :=
  nodup_len G.ts [.v 0, .v 1, .v 2, .v 3, .v 4, .v 5] (I.nd G hG) fun t ht => by
    obtain ⟨i, hi, rfl⟩ := I.mem G hG t ht
    have : i = 0 ∨ i = 1 ∨ i = 2 ∨ i = 3 ∨ i = 4 ∨ i = 5 := by omega
    rcases this with rfl | rfl | rfl | rfl | rfl | rfl <;> simp
theorem bindTo_some {i k : Nat} {t x : Ty} (h : bindTo i t = some (k, x)) : ((k = i ∧ x = t) ∨ (x = .v i ∧ t = .v k)) ∧ (k % 2 = 1 → x.num = true) := by
  cases t with
  | v j =>
    simp only [bindTo] at h
    split at h
    · cases h; exact ⟨.inr ⟨rfl, rfl⟩, fun e => by simp only [Ty.num]; exact decide_eq_true (by omega)⟩
    · cases h; exact ⟨.inl ⟨rfl, rfl⟩, fun e => by simp only [Ty.num]; exact decide_eq_true (by omega)⟩
  | u8 => simp only [bindTo] at h; cases h; exact ⟨.inl ⟨rfl, rfl⟩, fun _ => rfl⟩
  | i32 => simp only [bindTo] at h; cases h; exact ⟨.inl ⟨rfl, rfl⟩, fun _ => rfl⟩
  | bool =>
    simp only [bindTo] at h
    split at h
    · cases h
    · cases h; exact ⟨.inl ⟨rfl, rfl⟩, fun e => absurd e (by assumption)⟩
  | par =>
    simp only [bindTo] at h
    split at h
    · cases h
    · cases h; exact ⟨.inl ⟨rfl, rfl⟩, fun e => absurd e (by assumption)⟩
theorem unifyTo_some {r₁ r₂ x : Ty} {k : Nat} (h : unifyTo r₁ r₂ = some (some (k, x))) : r₁ ≠ r₂ ∧ ((r₁ = .v k ∧ r₂ = x) ∨ (r₂ = .v k ∧ r₁ = x)) ∧ (k % 2 = 1 → x.num = true) := by
  unfold unifyTo at h
  by_cases hne : r₁ = r₂
  · rw [if_pos hne] at h; cases h
  rw [if_neg hne] at h
  refine ⟨hne, ?_⟩
  have right : ∀ j t, (bindTo j t).map some = some (some (k, x)) → ((k = j ∧ x = t) ∨ (x = .v j ∧ t = .v k)) ∧ (k % 2 = 1 → x.num = true) := fun j t h => by
    obtain ⟨p, hp, e⟩ := Option.map_eq_some_iff.mp h
    cases e
    exact bindTo_some hp
  cases r₁ with
  | v i =>
    obtain ⟨⟨rfl, rfl⟩ | ⟨rfl, rfl⟩, hz⟩ := right i r₂ h
    · exact ⟨.inl ⟨rfl, rfl⟩, hz⟩
    · exact ⟨.inr ⟨rfl, rfl⟩, hz⟩
  | _ =>
    cases r₂ with
    | v j =>
      obtain ⟨⟨rfl, rfl⟩ | ⟨_, e⟩, hz⟩ := right j _ h
      · exact ⟨.inr ⟨rfl, rfl⟩, hz⟩
      · cases e
    | _ => cases h
def rootO (r : Ty) : Option (Nat × Ty) → Ty
  | none => r
  | some (_, x) => x
def rtO (rt : Nat → Ty) : Option (Nat × Ty) → Nat → Ty
  | none => rt
  | some (k, x) => updR rt k x
def sgO (σ : Nat → Option Ty) : Option (Nat × Ty) → Nat → Option Ty
  | none => σ
  | some (k, x) => updS σ k x
/-- what a join of two groups gives, beside what unify gives -/
theorem join_both {rt : Nat → Ty} {G1 G2 : GV} {r₁ r₂ : Ty} (h1 : GR rt G1 r₁) (h2 : GR rt G2 r₂) (hne : ∀ k, r₁ = .v k → r₁ ≠ r₂) :
    (joinTv G1.tv G2.tv (G1.num || G2.num) = none ∧ unifyTo r₁ r₂ = none) ∨
    ∃ tv o, joinTv G1.tv G2.tv (G1.num || G2.num) = some tv ∧ unifyTo r₁ r₂ = some o ∧
      (∀ x T, tv = some (x, T) → rootO r₁ o = T ∧ (∀ j, T ≠ .v j) ∧ ((G1.num || G2.num) = true → T.isInt = true)) ∧
      (tv = none → (rootO r₁ o = r₁ ∨ rootO r₁ o = r₂) ∧ r₁ ∈ G1.ts ∧ r₂ ∈ G2.ts ∧ (∃ k, rootO r₁ o = .v k) ∧ (G1.num || G2.num) = (rootO r₁ o).num) ∧
      (o = none → r₁ = r₂) := by
  obtain ⟨d1, la1, vs1, ts1, tv1, n1⟩ := G1
  obtain ⟨d2, la2, vs2, ts2, tv2, n2⟩ := G2
  obtain ⟨-, a1, b1⟩ := h1
  obtain ⟨-, a2, b2⟩ := h2
  dsimp only at a1 b1 a2 b2 ⊢
  cases tv1 with
  | some p =>
    obtain ⟨x1, T1⟩ := p
    obtain ⟨rfl, k1, m1⟩ := a1 _ _ rfl
    cases tv2 with
    | some q =>
      obtain ⟨x2, T2⟩ := q
      obtain ⟨rfl, k2, m2⟩ := a2 _ _ rfl
      by_cases e : r₁ = r₂
      · subst e
        have hi : (n1 || n2) = true → r₁.isInt = true := fun h => by
          rcases Bool.or_eq_true_iff.mp h with h | h
          · exact m1 h
          · exact m2 h
        refine .inr ⟨some (x1, r₁), none, ?_, by simp [unifyTo], ?_, (fun e => nomatch e), fun _ => rfl⟩
        · unfold joinTv
          simp only [if_true]
          rw [if_neg]
          intro hh
          simp only [Bool.and_eq_true, Bool.not_eq_true'] at hh
          rw [hi hh.1] at hh; exact absurd hh.2 (by decide)
        · intro x T e; cases e; exact ⟨rfl, k1, hi⟩
      · refine .inl ⟨by simp [joinTv, e], ?_⟩
        unfold unifyTo
        rw [if_neg e]
        cases r₁ with
        | v j => exact absurd rfl (k1 j)
        | _ => cases r₂ with
          | v j => exact absurd rfl (k2 j)
          | _ => rfl
    | none =>
      obtain ⟨hm, ⟨k, rfl⟩, rfl⟩ := b2 rfl
      have e : r₁ ≠ .v k := k1 k
      have hu : unifyTo r₁ (.v k) = (bindTo k r₁).map some := by
        unfold unifyTo
        rw [if_neg e]
        cases r₁ with
        | v j => exact absurd rfl (k1 j)
        | _ => rfl
      rw [hu]
      by_cases q : ((n1 || (Ty.v k).num) && !r₁.isInt) = true
      · refine .inl ⟨by unfold joinTv; exact if_pos q, ?_⟩
        simp only [Bool.and_eq_true, Bool.not_eq_true', Bool.or_eq_true] at q
        rcases q.1 with h | h
        · rw [m1 h] at q; exact absurd q.2 (by decide)
        · have hk : k % 2 = 1 := of_decide_eq_true h
          cases r₁ with
          | v j => exact absurd rfl (k1 j)
          | u8 => exact absurd q.2 (by decide)
          | i32 => exact absurd q.2 (by decide)
          | bool => simp [bindTo, hk]
          | par => simp [bindTo, hk]
      · have hb : bindTo k r₁ = some (k, r₁) := by
          cases r₁ with
          | v j => exact absurd rfl (k1 j)
          | u8 => rfl
          | i32 => rfl
          | bool =>
            have : ¬ k % 2 = 1 := fun hk => q (by simp [Ty.num, Ty.isInt, hk])
            simp [bindTo, this]
          | par =>
            have : ¬ k % 2 = 1 := fun hk => q (by simp [Ty.num, Ty.isInt, hk])
            simp [bindTo, this]
        refine .inr ⟨some (x1, r₁), some (k, r₁), by unfold joinTv; exact if_neg q, by rw [hb]; rfl, ?_, (fun e => nomatch e), fun e => nomatch e⟩
        intro x T e; cases e
        refine ⟨rfl, k1, fun h => ?_⟩
        cases hi : r₁.isInt with
        | true => rfl
        | false => exact absurd (by rw [h, hi]; rfl) q
  | none =>
    obtain ⟨hm1, ⟨k, rfl⟩, rfl⟩ := b1 rfl
    cases tv2 with
    | some q =>
      obtain ⟨x2, T2⟩ := q
      obtain ⟨rfl, k2, m2⟩ := a2 _ _ rfl
      have e : Ty.v k ≠ r₂ := fun e => k2 k e.symm
      have hu : unifyTo (.v k) r₂ = (bindTo k r₂).map some := by
        unfold unifyTo
        rw [if_neg e]
      rw [hu]
      by_cases q : (((Ty.v k).num || n2) && !r₂.isInt) = true
      · refine .inl ⟨by unfold joinTv; exact if_pos q, ?_⟩
        simp only [Bool.and_eq_true, Bool.not_eq_true', Bool.or_eq_true] at q
        rcases q.1 with h | h
        · have hk : k % 2 = 1 := of_decide_eq_true h
          cases r₂ with
          | v j => exact absurd rfl (k2 j)
          | u8 => exact absurd q.2 (by decide)
          | i32 => exact absurd q.2 (by decide)
          | bool => simp [bindTo, hk]
          | par => simp [bindTo, hk]
        · rw [m2 h] at q; exact absurd q.2 (by decide)
      · have hb : bindTo k r₂ = some (k, r₂) := by
          cases r₂ with
          | v j => exact absurd rfl (k2 j)
          | u8 => rfl
          | i32 => rfl
          | bool =>
            have : ¬ k % 2 = 1 := fun hk => q (by simp [Ty.num, Ty.isInt, hk])
            simp [bindTo, this]
          | par =>
            have : ¬ k % 2 = 1 := fun hk => q (by simp [Ty.num, Ty.isInt, hk])
            simp [bindTo, this]
        refine .inr ⟨some (x2, r₂), some (k, r₂), by unfold joinTv; exact if_neg q, by rw [hb]; rfl, ?_, (fun e => nomatch e), fun e => nomatch e⟩
        intro x T e; cases e
        refine ⟨rfl, k2, fun h => ?_⟩
        cases hi : r₂.isInt with
        | true => rfl
        | false => exact absurd (by rw [h, hi]; rfl) q
    | none =>
      obtain ⟨hm2, ⟨j, rfl⟩, rfl⟩ := b2 rfl
      have e : Ty.v k ≠ .v j := hne k rfl
      have hu : unifyTo (.v k) (.v j) = (bindTo k (.v j)).map some := by
        unfold unifyTo
        rw [if_neg e]
      rw [hu]
      by_cases q : k % 2 = 1 ∧ j % 2 ≠ 1
      · refine .inr ⟨none, some (j, .v k), rfl, by simp only [bindTo]; rw [if_pos q]; rfl, (fun _ _ e => nomatch e), fun _ => ⟨.inl rfl, hm1, hm2, ⟨k, rfl⟩, ?_⟩, fun e => nomatch e⟩
        simp [rootO, Ty.num, q.1]
      · refine .inr ⟨none, some (k, .v j), rfl, by simp only [bindTo]; rw [if_neg q]; rfl, (fun _ _ e => nomatch e), fun _ => ⟨.inr rfl, hm1, hm2, ⟨j, rfl⟩, ?_⟩, fun e => nomatch e⟩
        simp only [rootO, Ty.num]
        by_cases hk : k % 2 = 1
        · have hj : j % 2 = 1 := Decidable.of_not_not fun hj => q ⟨hk, hj⟩
          simp [hk, hj]
        · simp [hk]
theorem GR.upd {rt : Nat → Ty} {G : GV} {r : Ty} {k : Nat} {x : Ty} (h : GR rt G r) (hne : r ≠ .v k) : GR (updR rt k x) G r :=
  ⟨fun i hi => by unfold updR; rw [h.1 i hi, if_neg hne], h.2⟩
theorem GR.ext {rt rt' : Nat → Ty} {G : GV} {r : Ty} (h : GR rt G r) (e : ∀ i, Ty.v i ∈ G.ts → rt' i = rt i) : GR rt' G r :=
  ⟨fun i hi => (e i hi).trans (h.1 i hi), h.2⟩
/-- a group's known root is no unknown; an unknown root stands in the group -/
theorem GR.var {rt : Nat → Ty} {G : GV} {r : Ty} {k : Nat} (h : GR rt G r) (e : r = .v k) : Ty.v k ∈ G.ts := by
  cases q : G.tv with
  | none => exact e ▸ (h.2.2 q).1
  | some p => obtain ⟨x, T⟩ := p; obtain ⟨rfl, n, _⟩ := h.2.1 x T q; exact absurd e (n k)
theorem Inv.start {Gs : List GV} (hlen : Gs.length = 6) (h : ∀ i, i < 6 → ∃ G, Gs[i]? = some G ∧ G.ts = [.v i] ∧ G.tv = none ∧ G.num = (Ty.v i).num) (inj : ∀ G ∈ Gs, ∀ G' ∈ Gs, G.d = G'.d → G = G') : Inv Ty.v Gs := by
  have at_ : ∀ G ∈ Gs, ∃ i, i < 6 ∧ Gs[i]? = some G ∧ G.ts = [.v i] ∧ G.tv = none ∧ G.num = (Ty.v i).num := fun G hG => by
    obtain ⟨i, hi⟩ := List.getElem?_of_mem hG
    have hl : i < 6 := hlen ▸ (List.getElem?_eq_some_iff.mp hi).1
    obtain ⟨G', h1, h2⟩ := h i hl
    rw [hi] at h1; cases h1
    exact ⟨i, hl, hi, h2⟩
  refine ⟨fun G hG t ht => ?_, fun i hi => ?_, inj, fun G hG G' hG' t ht ht' => ?_, fun G hG => ?_, fun G hG => ?_, fun G hG => ?_, Nat.le_of_eq hlen⟩
  · obtain ⟨i, hi, _, e, _⟩ := at_ G hG
    rw [e] at ht; exact ⟨i, hi, List.mem_singleton.mp ht⟩
  · obtain ⟨G, h1, e, _⟩ := h i hi
    exact ⟨G, List.mem_of_getElem? h1, by rw [e]; exact .head _⟩
  · obtain ⟨i, hi, q, e, _⟩ := at_ G hG
    obtain ⟨i', hi', q', e', _⟩ := at_ G' hG'
    rw [e] at ht; rw [e'] at ht'
    have := (List.mem_singleton.mp ht).symm.trans (List.mem_singleton.mp ht')
    cases this
    rw [q] at q'; exact Option.some.inj q'
  · obtain ⟨i, hi, q, e, e2, e3⟩ := at_ G hG
    refine ⟨.v i, fun j hj => ?_, fun x T q => (by rw [e2] at q; cases q), fun _ => ⟨by rw [e]; exact .head _, ⟨i, rfl⟩, e3⟩⟩
    rw [e] at hj; exact List.mem_singleton.mp hj
  · obtain ⟨i, hi, q, e, _⟩ := at_ G hG
    rw [e]; exact List.cons_ne_nil _ _
  · obtain ⟨i, hi, q, e, _⟩ := at_ G hG
    rw [e]; exact List.nodup_cons.mpr ⟨List.not_mem_nil, List.nodup_nil⟩
theorem mem_join {Gs : List GV} {G1 G2 B G : GV} : G ∈ joinGs Gs G1 G2 B ↔ (G ∈ Gs ∧ G.d ≠ G1.d ∧ G.d ≠ G2.d) ∨ G = B := by
  simp [joinGs, List.mem_append, List.mem_filter]
/-- two groups made one -/
theorem Inv.join {rt : Nat → Ty} {Gs : List GV} (I : Inv rt Gs) {g : Heap} {a D la : Addr} {i : Nat} {r : Ty} {G1 G2 : GV} (h1 : G1 ∈ Gs) (hi : Ty.v i ∈ G1.ts) (h2 : Home2 g Gs a r G2) (hr : TyOk r) (hd : G1.d ≠ G2.d)
    (hD : ∀ G ∈ Gs, G.d ≠ D) (hg : ∀ G ∈ Gs, g.get? G.d ≠ none) :
    (joinTv G1.tv G2.tv (G1.num || G2.num) = none ∧ unifyTo (rt i) (rtT rt r) = none) ∨
    ∃ tv o, joinTv G1.tv G2.tv (G1.num || G2.num) = some tv ∧ unifyTo (rt i) (rtT rt r) = some o ∧ Inv (rtO rt o) (joinGs Gs G1 G2 (bothG G1 G2 tv D la)) := by
  obtain ⟨r₁, g1⟩ := I.root G1 h1
  have e1 : rt i = r₁ := g1.1 i hi
  obtain ⟨r₂, g2, e2, m2, d2, n2⟩ : ∃ r₂, GR rt G2 r₂ ∧ rtT rt r = r₂ ∧ (∀ t ∈ G2.ts, ∃ j, j < 6 ∧ t = .v j) ∧ (∀ G ∈ Gs, ∀ t, t ∈ G.ts → t ∈ G2.ts → G = G2) ∧ G2.ts.Nodup := by
    rcases h2 with ⟨hm, ht⟩ | ⟨hno, hv, hts, htv, hnum, _⟩
    · obtain ⟨r₂, g2⟩ := I.root G2 hm
      obtain ⟨j, hj, rfl⟩ := I.mem G2 hm r ht
      exact ⟨r₂, g2, g2.1 j ht, I.mem G2 hm, fun G hG t a b => I.disj G hG G2 hm t a b, I.nd G2 hm⟩
    · have hnv : ∀ j, r ≠ .v j := fun j e => by
        obtain ⟨G, hG, hm⟩ := I.cover j (hr j e)
        exact hno G hG (e ▸ hm)
      refine ⟨r, ⟨fun j hj => (by rw [hts] at hj; cases hj), fun x T q => ?_, fun q => (by rw [htv] at q; cases q)⟩, ?_, fun t ht => (by rw [hts] at ht; cases ht), fun G _ t _ ht => (by rw [hts] at ht; cases ht), by rw [hts]; exact List.nodup_nil⟩
      · rw [htv] at q; cases q
        exact ⟨rfl, hnv, fun e => hnum ▸ e⟩
      · cases r with
        | v j => exact absurd rfl (hnv j)
        | _ => rfl
  rw [e1, e2]
  have h12 : ∀ t, t ∈ G1.ts → t ∈ G2.ts → False := fun t a b => hd (congrArg GV.d (d2 G1 h1 t a b))
  have hne : ∀ k, r₁ = .v k → r₁ ≠ r₂ := fun k e e' => h12 (.v k) (g1.var e) (g2.var (e'.symm.trans e))
  rcases join_both g1 g2 hne with h | ⟨tv, o, ht, hu, p1, p2, p3⟩
  · exact .inl h
  refine .inr ⟨tv, o, ht, hu, ?_⟩
  -- the other groups keep their roots
  have other : ∀ G ∈ Gs, G.d ≠ G1.d → G.d ≠ G2.d → ∀ r, GR rt G r → GR (rtO rt o) G r := fun G hG q1 q2 r gr => by
    cases o with
    | none => exact gr
    | some p =>
      obtain ⟨k, x⟩ := p
      refine gr.upd fun e => ?_
      have hk := gr.var e
      obtain ⟨_, ⟨a1, _⟩ | ⟨a1, _⟩, _⟩ := unifyTo_some hu
      · exact q1 (congrArg GV.d (I.disj G hG G1 h1 _ hk (g1.var a1)))
      · exact q2 (congrArg GV.d (d2 G hG _ hk (g2.var a1)))
  have both : ∀ j, Ty.v j ∈ G1.ts ++ G2.ts → rtO rt o j = rootO r₁ o := fun j hj => by
    have : rt j = r₁ ∨ rt j = r₂ := by
      rcases List.mem_append.mp hj with hj | hj
      · exact .inl (g1.1 j hj)
      · exact .inr (g2.1 j hj)
    cases o with
    | none =>
      have := p3 rfl
      show rt j = r₁
      subst this; exact this.elim id id
    | some p =>
      obtain ⟨k, x⟩ := p
      show (if rt j = .v k then x else rt j) = x
      obtain ⟨_, ⟨rfl, rfl⟩ | ⟨rfl, rfl⟩, _⟩ := unifyTo_some hu
      · rcases this with q | q <;> rw [q]
        · rw [if_pos rfl]
        · split <;> rfl
      · rcases this with q | q <;> rw [q]
        · split <;> rfl
        · rw [if_pos rfl]
  have hts : (bothG G1 G2 tv D la).ts = G1.ts ++ G2.ts := rfl
  have lt : (joinGs Gs G1 G2 (bothG G1 G2 tv D la)).length ≤ Gs.length := by
    unfold joinGs
    rw [List.length_append, List.length_singleton]
    have : (Gs.filter fun G => !decide (G.d = G1.d) && !decide (G.d = G2.d)).length < Gs.length :=
      List.length_filter_lt_length_iff_exists.mpr ⟨G1, h1, by simp⟩
    omega
  refine ⟨fun G hG t ht => ?_, fun j hj => ?_, fun G hG G' hG' e => ?_, fun G hG G' hG' t ht ht' => ?_, fun G hG => ?_, fun G hG => ?_, fun G hG => ?_, Nat.le_trans lt I.len⟩
  · rcases mem_join.mp hG with ⟨hG, _⟩ | rfl
    · exact I.mem G hG t ht
    · rcases List.mem_append.mp ht with ht | ht
      · exact I.mem G1 h1 t ht
      · exact m2 t ht
  · obtain ⟨G, hG, hm⟩ := I.cover j hj
    by_cases q1 : G.d = G1.d
    · have := I.inj G hG G1 h1 q1; subst this
      exact ⟨_, mem_join.mpr (.inr rfl), List.mem_append.mpr (.inl hm)⟩
    · by_cases q2 : G.d = G2.d
      · rcases h2 with ⟨hm2, _⟩ | ⟨_, _, _, _, _, hn⟩
        · have := I.inj G hG G2 hm2 q2; subst this
          exact ⟨_, mem_join.mpr (.inr rfl), List.mem_append.mpr (.inr hm)⟩
        · exact absurd (q2 ▸ hn) (hg G hG)
      · exact ⟨G, mem_join.mpr (.inl ⟨hG, q1, q2⟩), hm⟩
  · rcases mem_join.mp hG with ⟨hG, _⟩ | rfl
    · rcases mem_join.mp hG' with ⟨hG', _⟩ | rfl
      · exact I.inj G hG G' hG' e
      · exact absurd e (hD G hG)
    · rcases mem_join.mp hG' with ⟨hG', _⟩ | rfl
      · exact absurd e.symm (hD G' hG')
      · rfl
  · have sep : ∀ G ∈ Gs, G.d ≠ G1.d → G.d ≠ G2.d → ∀ t, t ∈ G.ts → t ∈ G1.ts ++ G2.ts → False := fun G hG q1 q2 t a b => by
      rcases List.mem_append.mp b with b | b
      · exact q1 (congrArg GV.d (I.disj G hG G1 h1 t a b))
      · exact q2 (congrArg GV.d (d2 G hG t a b))
    rcases mem_join.mp hG with ⟨hG, q1, q2⟩ | rfl
    · rcases mem_join.mp hG' with ⟨hG', _⟩ | rfl
      · exact I.disj G hG G' hG' t ht ht'
      · exact (sep G hG q1 q2 t ht ht').elim
    · rcases mem_join.mp hG' with ⟨hG', q1, q2⟩ | rfl
      · exact (sep G' hG' q1 q2 t ht' ht).elim
      · rfl
  · rcases mem_join.mp hG with ⟨hG, q1, q2⟩ | rfl
    · obtain ⟨r, gr⟩ := I.root G hG
      exact ⟨r, other G hG q1 q2 r gr⟩
    · exact ⟨rootO r₁ o, both, fun x T q => p1 x T q, fun q => by
        obtain ⟨a1, a2, a3, a4, a5⟩ := p2 q
        refine ⟨?_, a4, a5⟩
        rcases a1 with e | e <;> rw [e]
        · exact List.mem_append.mpr (.inl a2)
        · exact List.mem_append.mpr (.inr a3)⟩
  · rcases mem_join.mp hG with ⟨hG, _⟩ | rfl
    · exact I.ne G hG
    · rw [hts]; intro e; exact I.ne G1 h1 (List.append_eq_nil_iff.mp e).1
  · rcases mem_join.mp hG with ⟨hG, _⟩ | rfl
    · exact I.nd G hG
    · rw [hts]; exact List.nodup_append.mpr ⟨I.nd G1 h1, n2, fun a ha b hb e => h12 a ha (e ▸ hb)⟩
/-- a thing's home is its own: nothing is to be made one -/
theorem Inv.same {rt : Nat → Ty} {Gs : List GV} (I : Inv rt Gs) {g : Heap} {a : Addr} {i : Nat} {r : Ty} {G1 G2 : GV} (h1 : G1 ∈ Gs) (hi : Ty.v i ∈ G1.ts) (h2 : Home2 g Gs a r G2) (hd : G1.d = G2.d) (hg : ∀ G ∈ Gs, g.get? G.d ≠ none) :
    unifyTo (rt i) (rtT rt r) = some none := by
  rcases h2 with ⟨hm, ht⟩ | ⟨_, _, _, _, _, hn⟩
  · have := I.inj G1 h1 G2 hm hd; subst this
    obtain ⟨j, hj, rfl⟩ := I.mem G1 hm r ht
    obtain ⟨r₁, g1⟩ := I.root G1 h1
    have : rt i = rtT rt (.v j) := (g1.1 i hi).trans (g1.1 j ht).symm
    rw [this]; simp [unifyTo]
  · exact absurd (hd ▸ hn) (hg G1 h1)
end PartP1
section PartP2
theorem Known.set {h : Heap} {its : List Value} {σ : Nat → Option Ty} {k : Nat} {x : Ty} {ad : Addr} (K : Known h its σ) (hk : k < 6) (R : Rep h ad x) : Known h (its.set k (.ref ad)) (updS σ k x) := by
  refine ⟨by rw [List.length_set]; exact K.1, fun i hi => ?_⟩
  by_cases q : i = k
  · subst q
    refine ⟨.ref ad, by rw [List.getElem?_set_self (by rw [K.1]; exact hi)], ?_⟩
    simp only [updS, if_true]; exact ⟨ad, rfl, R⟩
  · obtain ⟨v, e1, e2⟩ := K.2 i hi
    refine ⟨v, by rw [List.getElem?_set_ne (fun e => q e.symm)]; exact e1, ?_⟩
    simp only [updS, q, if_false]; exact e2
/-- what unify leaves is told by the plain law -/
theorem turned {h : Heap} {its its' : List Value} {σ : Nat → Option Ty} {rt : Nat → Ty} {r₁ r₂ : Ty} {o : Option (Nat × Ty)} (K : Known h its σ) (R : Roots σ rt) (h1 : IsRoot σ r₁) (h2 : IsRoot σ r₂) (ho : unifyTo r₁ r₂ = some o)
    (T : match o with | none => its' = its | some (k, t) => ∃ ad, Rep h ad t ∧ its' = its.set k (.ref ad)) : Known h its' (sgO σ o) ∧ Roots (sgO σ o) (rtO rt o) := by
  cases o with
  | none => dsimp only at T; subst T; exact ⟨K, R⟩
  | some p =>
    obtain ⟨k, x⟩ := p
    obtain ⟨ad, ra, rfl⟩ := T
    obtain ⟨hne, ⟨rfl, rfl⟩ | ⟨rfl, rfl⟩, _⟩ := unifyTo_some ho
    · exact ⟨K.set (h1 k rfl).1 ra, R.upd (h1 k rfl).2 (h1 k rfl).1 h2 (fun e => hne e.symm)⟩
    · exact ⟨K.set (h2 k rfl).1 ra, R.upd (h2 k rfl).2 (h2 k rfl).1 h1 hne⟩
/-- pairs that have one root keep one -/
theorem one_keeps {rt : Nat → Ty} {o : Option (Nat × Ty)} {t r : Ty} (e : rtT rt t = rtT rt r) : rtT (rtO rt o) t = rtT (rtO rt o) r := by
  cases o with
  | none => exact e
  | some p =>
    obtain ⟨k, x⟩ := p
    show rtT (updR rt k x) t = rtT (updR rt k x) r
    have key : ∀ t, rtT (updR rt k x) t = if rtT rt t = .v k then x else rtT rt t := fun t => by
      cases t with
      | v i => rfl
      | _ => simp [rtT]
    rw [key, key, e]
theorem one_made {rt : Nat → Ty} {o : Option (Nat × Ty)} {t r : Ty} (ho : unifyTo (rtT rt t) (rtT rt r) = some o) : rtT (rtO rt o) t = rtT (rtO rt o) r := by
  have key : ∀ k x t, rtT (updR rt k x) t = if rtT rt t = .v k then x else rtT rt t := fun k x t => by
    cases t with
    | v i => rfl
    | _ => simp [rtT]
  cases o with
  | none =>
    show rtT rt t = rtT rt r
    by_cases e : rtT rt t = rtT rt r
    · exact e
    · exfalso
      unfold unifyTo at ho
      rw [if_neg e] at ho
      cases q : rtT rt t with
      | v i => rw [q] at ho; dsimp only at ho; obtain ⟨_, _, h⟩ := Option.map_eq_some_iff.mp ho; cases h
      | _ =>
        rw [q] at ho; dsimp only at ho
        cases q2 : rtT rt r with
        | v j => rw [q2] at ho; dsimp only at ho; obtain ⟨_, _, h⟩ := Option.map_eq_some_iff.mp ho; cases h
        | _ => rw [q2] at ho; cases ho
  | some p =>
    obtain ⟨k, x⟩ := p
    show rtT (updR rt k x) t = rtT (updR rt k x) r
    rw [key, key]
    obtain ⟨hne, ⟨e1, e2⟩ | ⟨e1, e2⟩, _⟩ := unifyTo_some ho
    · rw [if_pos e1, e2]; split <;> rfl
    · rw [if_pos e1, e2]; split <;> rfl
end PartP2
section PartS19
theorem rowsS19_0 : True := by
  k_with_none
  k_with "mine enter" => (
    (case ho => k_is); (case hcd => k_is); (case hroom => exact Nat.le_of_ble_eq_true rfl)
    (case hbind => first | exact binds_K (by k_in) rfl (by k_is) rfl rfl rfl | exact BindsTo.of_eq rfl)
    (case hloc => exact locs rfl)
    (case c1 => decide); (case c2 => rfl); (case c3 => rfl); (case c4 => rfl))
  k_with "mine enterC" => (
    (case ho => k_is); (case hcd => k_is); (case hroom => exact Nat.le_of_ble_eq_true rfl)
    (case hbind => first | exact binds_K (by k_in) rfl (by k_is) rfl rfl rfl | exact BindsTo.of_eq rfl)
    (case hkind => exact rfl); (case hnd => decide +kernel)
    (case c2 => rfl); (case c3 => rfl); (case c4 => rfl))
  k_with "mine le" => (exact Nat.le_of_ble_eq_true rfl)
  k_with "subscriptTail" => (k_here; (with_reducible show wpAny _ _ (subscriptTail _ _ (Value.ref _) (Value.int _ _)) _ _ _); k_dflt (refine item_tupleT (by is_tup) (by decide) (by decide) (by rfl) (by rfl) ?_; k_whole))
  k_with "k_inst" => (exact InstAt.keepsB (by assumption) (Fr.keep (by assumption)))
  k_with "mine around" => ((case hh => rfl); (case hd => exact Nat.le_of_ble_eq_true rfl); (case hu => exact Nat.le_of_ble_eq_true rfl))
  trivial
theorem is_eq {M : Model} {A : Around} {a b : Addr} {Q E : Value → Shared → Prop} {s : Shared} (e : a = b) (h : Q (.bool true) s) : wpAny M A (compareOp .Is (.ref a) (.ref b)) Q E s := by subst e; exact wpAny_is_ref_self h
theorem isNot_eq {M : Model} {A : Around} {a b : Addr} {Q E : Value → Shared → Prop} {s : Shared} (e : a = b) (h : Q (.bool false) s) : wpAny M A (compareOp .IsNot (.ref a) (.ref b)) Q E s := by subst e; exact wpAny_isNot_ref_self h
theorem ne_kind {prog : Program} {w : World} {A : Around} {t : Ty} {u v : Tok} {Q E : Value → Shared → Prop} {s : Shared} (h : Q (.bool (!t.isInt)) s) : wpAny (model prog w) A (compareOp .NotEq (.str t.kind u) (.str "int" v)) Q E s := by
  refine PyProof.Rows.ne_str ?_; show Q (.bool (!(t.kind == ("int" : Str)))) s; rw [t.kind_int]; exact h
theorem joined_fin {prog : Program} {w : World} {s : Shared} {h' : Heap} {L aG aG' dD la : Addr} {m : Str → Option Value} {news : List (Addr × Obj)} {Gs : List GV} {G1 G2 : GV} {tv : Option (Addr × Ty)} {tvv : Value} {num : Bool} {oB : Obj} {n n' : Nat}
    (F : Fr s.heap L h' m) (N : News s.heap L h' news) (hd : ¬ G1.d = G2.d) (j : joinTv G1.tv G2.tv (G1.num || G2.num) = some tv) (hn : num = (G1.num || G2.num)) (ht : tvv = match tv with | none => .none | some (x, _) => .ref x)
    (R1 : Reps s.heap G1.vs G1.ts) (R2 : Reps s.heap G2.vs G2.ts) (T : ∀ x t, tv = some (x, t) → Rep s.heap x t)
    (m1 : (aG', ({ cls := .type "list", data := .seq (((Gs.filter fun (G : GV) => !decide (G.d = G1.d) && !decide (G.d = G2.d)).map fun (G : GV) => Value.ref G.d) ++ [Value.ref dD]).toArray n } : Obj)) ∈ news) (m2 : (dD, oB) ∈ news) (dB : oB.IsDictOf (PySem.strKind prog w) (kvsOf la tvv num))
    (m3 : (la, W.listOf (G1.vs ++ G2.vs).toArray n') ∈ news) : Joined prog w s.heap h' aG Gs G1 G2 (.ref aG') := by
  have x1 := N _ m1
  have x2 := N _ m2
  have x3 := N _ m3
  subst hn
  refine .inr (.inr ⟨hd, tv, dD, la, aG', j, rfl, x2.2.2, x3.2.2, x1.2.2, ⟨_, x1.1, rfl, n, ?_⟩, ⟨Heap.dictOf_iff.mpr ⟨oB, x2.1, ?_⟩, ⟨_, x3.1, rfl, n', rfl⟩, (R1.append R2).keeps F.keep, fun x t e => (T x t e).keeps F.keep⟩⟩)
  · simp [joinGs, bothG]
  · cases tv with
    | none => subst ht; exact dB
    | some p => subst ht; exact dB
theorem rowsS19_1 : True := by
  k_with "mine sub" => (first | assumption | exact sub_self | exact sub_nil | (refine sub_tail ?_; walk_at "mine sub"))
  k_with "k_all" => (first | assumption | exact dlt_ne (by assumption))
  k_with "call ref" => (k_here; (with_reducible show wpAny _ _ (PySem.call (Value.ref 198) _) _ _ _); k_dflt (refine home_two (by k_asm) (by k_asm) (by assumption) (by assumption) (by assumption) (by assumption) (by rfl) (by walk_at "mine le") (by walk_at "mine le") ?_; k_whole); intro _ _ _ _ _ _ _ _ _ _ _ N'; (try simp only [List.cons_append, List.nil_append] at N'))
  k_with "call ref" => (k_here; (with_reducible show wpAny _ _ (PySem.call (Value.ref 198) _) _ _ _); k_dflt (refine home_one (by k_asm) (by k_asm) (by assumption) (by assumption) (by assumption) (by assumption) (by assumption) (by rfl) (by walk_at "mine le") (by walk_at "mine le") ?_; k_whole); intro _ _ _ _ _ _ _)
  k_with "compareOp Is ref ref" => (k_here; (with_reducible show wpAny _ _ (compareOp CmpOp.Is (Value.ref _) (Value.ref _)) _ _ _); first | (refine is_eq (by assumption) ?_) | (refine is_no (by k_asm) (by k_asm) (by assumption) (by walk_at "mine sub") (by assumption) (by walk_at "mine sub") (by assumption) ?_; k_whole))
  k_with "compareOp IsNot ref ref" => (k_here; (with_reducible show wpAny _ _ (compareOp CmpOp.IsNot (Value.ref _) (Value.ref _)) _ _ _); first | (refine isNot_eq (by assumption) ?_) | (refine isNot_yes (by k_asm) (by k_asm) (by assumption) (by walk_at "mine sub") (by assumption) (by walk_at "mine sub") (by assumption) ?_; k_whole))
  k_with "subscriptTail" => (k_here; (with_reducible show wpAny _ _ (subscriptTail _ _ (Value.ref _) (Value.str _ _)) _ _ _); k_dflt (refine item_D (by k_asm) (by k_asm) (by assumption) (by walk_at "mine sub") (by first | with_reducible exact valueAt_all | with_reducible exact valueAt_type | with_reducible exact valueAt_number | exact valueAt_all | exact valueAt_type | exact valueAt_number) ?_; k_whole))
  k_with "mine list" => (first | (refine (by with_reducible assumption : LIn _ _ _ _) _ _ _ _ (by k_asm) (by k_asm) (by walk_at "mine sub")) | is_list)
  k_with "binaryOp Add ref ref" => (k_here; (with_reducible show wpAny _ _ (binaryOp Operator.Add (Value.ref _) (Value.ref _)) _ _ _); k_dflt (refine add_mine (by k_asm) (by k_asm) (by is_list) (by is_list) (by simp only [List.length_cons, List.length_nil]; omega) ?_; k_whole); intro _ _ _ _ l1; (try k_lt l1))
  k_with "binaryOp Add ref ref" => (k_here; (with_reducible show wpAny _ _ (binaryOp Operator.Add (Value.ref (GV.la _)) (Value.ref (GV.la _))) _ _ _); k_dflt (refine add_mine (by k_asm) (by k_asm) (by walk_at "mine list") (by walk_at "mine list") (by omega) ?_; k_whole); intro _ _ _ _ l1; (try k_lt l1))
  k_with "mine reps" => (first | with_reducible assumption | exact Reps.append (by with_reducible assumption) (by with_reducible assumption) | exact .nil)
  k_with "compareOp Eq ref ref" => (k_here; (with_reducible show wpAny _ _ (compareOp CmpOp.Eq (Value.ref _) (Value.ref _)) _ _ _); k_dflt (refine eq_nil (by k_asm) (by is_list) (by walk_at "mine reps") (by is_list) (by with_reducible assumption) (by walk_at "mine le") ?_; k_whole))
  k_with "compareOp NotEq ref ref" => (k_here; (with_reducible show wpAny _ _ (compareOp CmpOp.NotEq (Value.ref _) (Value.ref _)) _ _ _); k_dflt (first
    | (refine ne_rep_no (by k_asm) (by with_reducible assumption) (by with_reducible assumption) (by walk_at "mine le") ?_; k_whole)
    | (refine ne_rep_yes (by k_asm) (by with_reducible assumption) (by with_reducible assumption) (by with_reducible assumption) (by walk_at "mine le") ?_; k_whole)
    | (refine ne_nils (by is_list) (by is_list) (by walk_at "mine le") ?_; k_whole)
    | (refine ne_nil (by k_asm) (by is_list) (by first | with_reducible assumption | exact .cons (by with_reducible assumption) .nil | exact .cons (by with_reducible assumption) (.cons (by with_reducible assumption) .nil)) (by is_list) (by exact Nat.zero_lt_succ _) (by walk_at "mine le") ?_; k_whole)))
  k_with "compareOp NotEq str str" => (k_here; (with_reducible show wpAny _ _ (compareOp CmpOp.NotEq (Value.str (Ty.kind _) _) (Value.str _ _)) _ _ _); k_dflt (refine' ne_kind ?_))
  k_with "subscriptTail" => (k_here; (with_reducible show wpAny _ _ (subscriptTail _ _ (Value.ref _) (Value.int 0 _)) _ _ _); k_dflt (refine item_kind (by k_asm) (by assumption) ?_ (by with_unfolding_all rfl); k_whole); intro _)
  k_with "ite" => (first | refine ite_no ?_ | refine ite_yes ?_)
  k_with "eval Dict" => (k_here; k_dflt (refine kdn_str (by rfl) (by k_asm) (by first | k_asm | exact News.nil) (by exact TopRead.nolimit (by k_asm)) (by rfl) (by rfl) (by exact List.cons_ne_nil _ _) (by walk_at "mine le") ?_); intro _ _ _ _ _ lD _ _; have lM := dlt_of lD; (try k_lt lD))
  k_with "CompEnd" => (refine LCg.CompEnd.intro (by k_asm) (by k_asm) _ (fun _ h => h) (by assumption) (by first | assumption | lcg_src) ?_)
  k_with "eval ListComp" => (k_here; k_dflt (refine LCt.ListComp_T (by k_asm) (by with_unfolding_all rfl) (by decide) (by rfl) (by decide) (by rfl) ?_ (by intro _; rfl); k_whole))
  trivial
theorem made3 {prog : Program} {w : World} {s : Shared} {g : Heap} {L d la : Addr} {o : Obj} {m : Str → Option Value} {news : List (Addr × Obj)} {gf : Obj → List (Addr × Obj)} {tv : Value} {num : Bool} {u1 u2 u3 : Tok} {Q : Value → Shared → Prop}
    (F : Fr g L s.heap m) (N : News g L s.heap news) (U : UpdF d o news gf) (hd : o.IsDictOf (PySem.strKind prog w) [])
    (h : ∀ h' o', Fr g L h' m → News g L h' (gf o') → o'.IsDictOf (PySem.strKind prog w) (kvsOf la tv num) → Q (.ref d) { s with heap := h', toks := s.toks + 3 }) :
    KdnMade prog w (PySem.strKind prog w) d Q [(.str "all" u1, .ref la), (.str "type" u2, tv), (.str "number" u3, .bool num)] s :=
  kdn_made_str F N U hd rfl (by show (["all", "type", "number"] : List Str).Nodup; decide) h
theorem item_list1 {prog : Program} {w : World} {A : Around} {s : Shared} {E : Value → Shared → Prop} {value slice : PySem.Expr} {g : Heap} {L l : Addr} {news : List (Addr × Obj)} {v0 v : Value} {r : List Value} {u : Tok} {Q : Value → Shared → Prop}
    (N : News g L s.heap news) (m : (l, LCg.lst (v0 :: v :: r)) ∈ news) (h : Q v s)
    (hs : subscripted slice false (.ref l) (.int 1 u) = operate [.ref l, .int 1 u] (getItem (.ref l) (.int 1 u))) : wpAny (model prog w) A (subscriptTail value slice (.ref l) (.int 1 u)) Q E s :=
  item_listB (vs := v0 :: v :: r) (v := v) ⟨_, (N _ m).1, rfl, _, rfl⟩ (by decide) (by decide) rfl h hs
theorem rowsS19_2 : True := by
  k_with "KdnMade" => (refine made3 (by k_asm) (by k_asm) (by k_updF) (by k_asm) ?_; intro _ _ _ N' _; (try dsimp only at N'))
  k_with "mine go" => (k_steps; (all_goals (try (walk_at "CompEnd"; k_steps))); (all_goals (try (walk_at "CompEnd"; k_steps))))
  k_with "subscriptTail" => (k_here; (with_reducible show wpAny _ _ (subscriptTail (PySem.Expr.Name _ _) _ (Value.ref _) (Value.int 0 _)) _ _ _); k_dflt (refine item_list0 (by k_asm) (by k_mem) ?_ (by with_unfolding_all rfl)))
  k_with "subscriptTail Name Constant ref int" => (k_here; (with_reducible show wpAny _ _ (subscriptTail (PySem.Expr.Name _ _) _ (Value.ref _) (Value.int 0 _)) _ _ _); k_dflt (refine item_list0 (by k_asm) (by k_mem) ?_ (by with_unfolding_all rfl)))
  k_with "subscriptTail Name Constant ref int" => (k_here; (with_reducible show wpAny _ _ (subscriptTail (PySem.Expr.Name _ _) _ (Value.ref _) (Value.int 1 _)) _ _ _); k_dflt (refine item_list1 (by k_asm) (by k_mem) ?_ (by with_unfolding_all rfl)))
  trivial
theorem orL {a b : Bool} (h : a = true) : a = (a || b) := by rw [h]; rfl
theorem orR {a b : Bool} (h : a = false) : b = (a || b) := by rw [h]; rfl
theorem orT1 {a b : Bool} (h : a = true) : (a || b) = true := by rw [h]; rfl
theorem orT2 {a b : Bool} (h : b = true) : (a || b) = true := by rw [h]; exact Bool.or_true a
theorem orF {a b : Bool} (h : a = false) (k : b = false) : (a || b) = false := by rw [h, k]; rfl
theorem rowsS19_3 : True := by
  k_with "mine or" => (first | exact orT1 (by assumption) | exact orT2 (by assumption) | exact orF (by assumption) (by assumption))
  trivial
theorem execs_append (pre post : List Stmt) (env : Env) : execs (pre ++ post) env = execs pre env >>= fun fl => match fl with | .next => execs post env | f => pure f := by
  induction pre with
  | nil => rfl
  | cons a l ih =>
    show execs (a :: (l ++ post)) env = execs (a :: l) env >>= _
    rw [execs_cons, execs_cons, bind_assoc]
    congr 1
    funext fl
    cases fl <;> first | exact ih | rfl
/-- what stands when the two homes' types are told; what is handed back ahead of it -/
def JMid (prog : Program) (w : World) (s : Shared) (L : Addr) (Gs : List GV) (t : Ty) (b : Addr) (r : Ty) (aG : Addr) (m₀ : Str → Option Value) (fl : Flow) (s' : Shared) : Prop := match fl with
  | .next => ∃ (G1 G2 : GV) (imm : List (Addr × Obj)) (aT : Addr) (tvs : List Value) (tv : Option (Addr × Ty)) (num : Bool) (ot oh : Obj) (h : Heap) (tk : Nat), s' = { s with heap := h, toks := tk } ∧
      G1 ∈ Gs ∧ t ∈ G1.ts ∧ Home2 s.heap Gs b r G2 ∧ ¬ G1.d = G2.d ∧ (DIn prog w s.heap imm G2.d (kvsOf G2.la G2.typ G2.num) ∧ LIn s.heap imm G2.la G2.vs ∧ Reps s.heap G2.vs G2.ts) ∧
      Fr s.heap L h (fun y => if y = Str.ofString "is_number" then some (.bool num) else if y = Str.ofString "types" then some (.ref aT) else m₀ y) ∧
      News s.heap L h ((aT, LCg.lst tvs) :: (L + 1 + 1, ot) :: (L + 1, oh) :: imm) ∧ ot.data = .cell (some (.ref G2.d)) ∧ oh.data = .cell (some (.ref G1.d)) ∧
      joinTv G1.tv G2.tv (G1.num || G2.num) = some tv ∧ num = (G1.num || G2.num) ∧ ((tvs = [] ∧ tv = none) ∨ (∃ x T r ts, tvs = .ref x :: r ∧ Reps s.heap (.ref x :: r) ts ∧ tv = some (x, T) ∧ Rep s.heap x T))
  | .ret v => ∃ (G1 G2 : GV) (h : Heap) (tk : Nat), s' = { s with heap := h, toks := tk } ∧ G1 ∈ Gs ∧ t ∈ G1.ts ∧ Home2 s.heap Gs b r G2 ∧ s.heap.StaysIn h ∧ Joined prog w s.heap h aG Gs G1 G2 v
  | _ => False
section
variable {prog : Program} {w : World} {s : Shared} {L : Addr} {Gs : List GV} {t : Ty} {b : Addr} {r : Ty} {aG : Addr} {m₀ : Str → Option Value} {G1 G2 : GV} {imm : List (Addr × Obj)} {aT : Addr} {tvs : List Value} {tv : Option (Addr × Ty)} {num : Bool} {ot oh : Obj} {h : Heap} {tk : Nat} {v : Value}
theorem JMid.back (h1 : G1 ∈ Gs) (h2 : t ∈ G1.ts) (h3 : Home2 s.heap Gs b r G2) (st : s.heap.StaysIn h) (j : Joined prog w s.heap h aG Gs G1 G2 v) : JMid prog w s L Gs t b r aG m₀ (.ret v) { s with heap := h, toks := tk } :=
  ⟨G1, G2, h, tk, rfl, h1, h2, h3, st, j⟩
theorem JMid.on (h1 : G1 ∈ Gs) (h2 : t ∈ G1.ts) (h3 : Home2 s.heap Gs b r G2) (hd : ¬ G1.d = G2.d) (W : DIn prog w s.heap imm G2.d (kvsOf G2.la G2.typ G2.num) ∧ LIn s.heap imm G2.la G2.vs ∧ Reps s.heap G2.vs G2.ts)
    (F : Fr s.heap L h (fun y => if y = Str.ofString "is_number" then some (.bool num) else if y = Str.ofString "types" then some (.ref aT) else m₀ y)) (N : News s.heap L h ((aT, LCg.lst tvs) :: (L + 1 + 1, ot) :: (L + 1, oh) :: imm))
    (dt : ot.data = .cell (some (.ref G2.d))) (dh : oh.data = .cell (some (.ref G1.d))) (j : joinTv G1.tv G2.tv (G1.num || G2.num) = some tv) (hn : num = (G1.num || G2.num)) (ht : (tvs = [] ∧ tv = none) ∨ (∃ x T r ts, tvs = .ref x :: r ∧ Reps s.heap (.ref x :: r) ts ∧ tv = some (x, T) ∧ Rep s.heap x T)) :
    JMid prog w s L Gs t b r aG m₀ .next { s with heap := h, toks := tk } := ⟨G1, G2, imm, aT, tvs, tv, num, ot, oh, h, tk, rfl, h1, h2, h3, hd, W, F, N, dt, dh, j, hn, ht⟩
theorem jsplit {A : Around} {env : Env} {Q : Flow → Shared → Prop} {E : Value → Shared → Prop} {s₁ : Shared} {h₁ : Heap} {pre post : List Stmt} (_ : Fr s.heap L h₁ m₀) (h : wpAny (model prog w) A (execs pre env) (JMid prog w s L Gs t b r aG m₀) E s₁)
    (k : ∀ fl s', JMid prog w s L Gs t b r aG m₀ fl s' → match fl with | .next => wpAny (model prog w) A (execs post env) Q E s' | f => Q f s') : wpAny (model prog w) A (execs (pre ++ post) env) Q E s₁ := by
  rw [execs_append]
  refine wpAny_bind (wpAny_mono h (fun fl s' hm => ?_) fun _ _ e => e)
  have z := k fl s' hm
  cases fl <;> first | exact z | exact wpAny_pure z
end
theorem joined_spec {prog : Program} {w : World} {mg mb : Str → Option Value} {s : Shared} (G : G0 w mg mb s.heap) {aG a b : Addr} {Gs : List GV} {t r : Ty}
    (hG : s.heap.IsList aG (Gs.map fun G => Value.ref G.d).toArray) (hA : ∀ G ∈ Gs, GAt prog w s.heap G) (ha : Rep s.heap a t) (hb : Rep s.heap b r) (hex : ∃ G ∈ Gs, t ∈ G.ts)
    (hz : ∀ G ∈ Gs, G.vs.length ≤ 6) (hz2 : Gs.length ≤ 6) {Q E : Value → Shared → Prop}
    (hQ : ∀ G1 G2 v h' tk', G1 ∈ Gs → t ∈ G1.ts → Home2 s.heap Gs b r G2 → s.heap.StaysIn h' → Joined prog w s.heap h' aG Gs G1 G2 v → Q v { s with heap := h', toks := tk' }) :
    wpAny (model prog w) (AR 540) (PySem.call (.ref 203) [.ref aG, .ref a, .ref b]) Q E s := by
  refine wpAny_call ?_
  have KX := G.X
  have T := G.T
  refine' enter0C G.X G.T.nolimit ?ho ?hcd ?hroom ?hbind ?hkind ?hnd ?_ ?c2 ?c3 ?c4
  walk_at "mine enterC"
  intro L h₁ tk₁ cells F N Y
  k_cells Y
  (show wpAny _ _ (execs ([_, _, _, _, _, _] ++ [_, _]) _) _ _ _)
  refine' jsplit (Gs := Gs) (t := t) (b := b) (r := r) (aG := aG) F ?main ?tail
  case main =>
   k_steps
   rename_i G1 _ _ hG1 hT1 G2 imm _ _ H2 D2 L2 R2 T2 sep _ _ _ _ _ _
   have s1 := sep _ (.head _)
   have s2 := sep _ (.tail _ (.head _))
   have D1 : DIn prog w s.heap [] G1.d (kvsOf G1.la G1.typ G1.num) := fun _ _ _ _ F' _ _ => DictOf.keeps (hA G1 hG1).dict F'.keep
   have L1 : LIn s.heap [] G1.la G1.vs := fun _ _ _ _ F' _ _ => Fr.lst F' (hA G1 hG1).list
   have R1 := (hA G1 hG1).reps
   have T1 := (hA G1 hG1).type
   have z1 := hz G1 hG1
   have p1 : 0 < (G1.vs ++ G2.vs).length := by
     rw [List.length_append, R1.length]
     have := List.length_pos_of_mem hT1
     omega
   have z2 : G2.vs.length ≤ 6 := by
     rcases H2 with ⟨hm, _⟩ | ⟨_, e, _⟩
     · exact hz G2 hm
     · rw [e]; exact Nat.zero_le _
   have W := And.intro D2 (And.intro L2 R2)
   clear sep hQ
   dsimp only
   by_cases hd : G1.d = G2.d
   · k_steps
     (with_reducible rename Fr _ _ _ _ => F1)
     exact JMid.back hG1 hT1 H2 F1.keep (.inl ⟨hd, rfl⟩)
   (with_reducible rename Fr _ _ _ _ => F1); (with_reducible rename News _ _ _ _ => N1)
   cases e1 : G1.tv with
   | none =>
     rw [typ_none e1] at D1
     cases e2 : G2.tv with
     | none =>
       rw [typ_none e2] at D2
       walk_at "mine go"
       all_goals
         (with_reducible rename Fr _ _ _ _ => F2); (with_reducible rename News _ _ _ _ => N2)
         refine JMid.on (tv := none) hG1 hT1 H2 hd W F2 (news4 N2 (by k_mem) (by k_mem) (by k_mem) (by walk_at "mine sub")) (by assumption) (by assumption) ?_ ?_ ?_
         · rw [e1, e2]; exact jnn
         · first | exact orL (by assumption) | exact orR (by assumption)
         · exact .inl ⟨rfl, rfl⟩
     | some p2 =>
       obtain ⟨x2, y2⟩ := p2
       rw [typ_some e2] at D2
       have Y2 := T2 _ _ e2
       walk_at "mine go"
       all_goals
         (with_reducible rename Fr _ _ _ _ => F2); (with_reducible rename News _ _ _ _ => N2)
         first
         | ((with_reducible show JMid _ _ _ _ _ _ _ _ _ _ Flow.next _)
            refine JMid.on (tv := (some (x2, y2))) hG1 hT1 H2 hd W F2 (news4 N2 (by k_mem) (by k_mem) (by k_mem) (by walk_at "mine sub")) (by assumption) (by assumption) ?_ ?_ (.inr ⟨x2, y2, _, _, rfl, .cons Y2 .nil, rfl, Y2⟩)
            (rw [e1, e2]; first | (rw [show (G1.num || G2.num) = true by walk_at "mine or"]; first | exact jns_n (by assumption) | exact jns_i (by assumption)) | (rw [show (G1.num || G2.num) = false by walk_at "mine or"]; exact jns_f)); (first | exact orL (by assumption) | exact orR (by assumption)))
         | (refine JMid.back hG1 hT1 H2 F2.keep (.inr (.inl ⟨hd, ?_, rfl⟩)); (rw [e1, e2]; first | (rw [show (G1.num || G2.num) = true by walk_at "mine or"]; first | exact jns_n (by assumption) | exact jns_i (by assumption)) | (rw [show (G1.num || G2.num) = false by walk_at "mine or"]; exact jns_f)))
   | some p1 =>
     obtain ⟨x1, y1⟩ := p1
     rw [typ_some e1] at D1
     have Y1 := T1 _ _ e1
     cases e2 : G2.tv with
     | none =>
       rw [typ_none e2] at D2
       walk_at "mine go"
       all_goals
         (with_reducible rename Fr _ _ _ _ => F2); (with_reducible rename News _ _ _ _ => N2)
         first
         | ((with_reducible show JMid _ _ _ _ _ _ _ _ _ _ Flow.next _)
            refine JMid.on (tv := (some (x1, y1))) hG1 hT1 H2 hd W F2 (news4 N2 (by k_mem) (by k_mem) (by k_mem) (by walk_at "mine sub")) (by assumption) (by assumption) ?_ ?_ (.inr ⟨x1, y1, _, _, rfl, .cons Y1 .nil, rfl, Y1⟩)
            (rw [e1, e2]; first | (rw [show (G1.num || G2.num) = true by walk_at "mine or"]; first | exact jsn_n (by assumption) | exact jsn_i (by assumption)) | (rw [show (G1.num || G2.num) = false by walk_at "mine or"]; exact jsn_f)); (first | exact orL (by assumption) | exact orR (by assumption)))
         | (refine JMid.back hG1 hT1 H2 F2.keep (.inr (.inl ⟨hd, ?_, rfl⟩)); (rw [e1, e2]; first | (rw [show (G1.num || G2.num) = true by walk_at "mine or"]; first | exact jsn_n (by assumption) | exact jsn_i (by assumption)) | (rw [show (G1.num || G2.num) = false by walk_at "mine or"]; exact jsn_f)))
     | some p2 => 
       obtain ⟨x2, y2⟩ := p2
       rw [typ_some e2] at D2
       have Y2 := T2 _ _ e2
       by_cases ey : y1 = y2
       · subst ey
         walk_at "mine go"
         all_goals
           (with_reducible rename Fr _ _ _ _ => F2); (with_reducible rename News _ _ _ _ => N2)
           first
           | ((with_reducible show JMid _ _ _ _ _ _ _ _ _ _ Flow.next _)
              refine JMid.on (tv := (some (x1, y1))) hG1 hT1 H2 hd W F2 (news4 N2 (by k_mem) (by k_mem) (by k_mem) (by walk_at "mine sub")) (by assumption) (by assumption) ?_ ?_ (.inr ⟨x1, y1, _, _, rfl, .cons Y1 (.cons Y2 .nil), rfl, Y1⟩)
              (rw [e1, e2]; first | (rw [show (G1.num || G2.num) = true by walk_at "mine or"]; first | exact jss_n (by assumption) | exact jss_i (by assumption)) | (rw [show (G1.num || G2.num) = false by walk_at "mine or"]; exact jss_f)); (first | exact orL (by assumption) | exact orR (by assumption)))
           | (refine JMid.back hG1 hT1 H2 F2.keep (.inr (.inl ⟨hd, ?_, rfl⟩)); (rw [e1, e2]; first | (rw [show (G1.num || G2.num) = true by walk_at "mine or"]; first | exact jss_n (by assumption) | exact jss_i (by assumption)) | (rw [show (G1.num || G2.num) = false by walk_at "mine or"]; exact jss_f)))
       · walk_at "mine go"
         (with_reducible rename Fr _ _ _ _ => F2)
         refine JMid.back hG1 hT1 H2 F2.keep (.inr (.inl ⟨hd, ?_, rfl⟩)); (rw [e1, e2]; exact jss_d ey)
  case tail =>
    intro fl s' hm
    cases fl with
    | ret v =>
      obtain ⟨G1, G2, h, tk, rfl, h1, h2, h3, st, j⟩ := hm
      exact hQ G1 G2 v h tk h1 h2 h3 st j
    | brk => exact hm.elim
    | cont => exact hm.elim
    | next =>
    obtain ⟨G1, G2, imm, aT, tvs, tv, num, ot, oh, h, tk, rfl, hG1, hT1, H2, hd, ⟨D2, L2, R2⟩, F2, N2, dt, dh, j, hn, ht⟩ := hm
    have q := hQ G1 G2
    have D1 : DIn prog w s.heap [] G1.d (kvsOf G1.la G1.typ G1.num) := fun _ _ _ _ F' _ _ => DictOf.keeps (hA G1 hG1).dict F'.keep
    have L1 : LIn s.heap [] G1.la G1.vs := fun _ _ _ _ F' _ _ => Fr.lst F' (hA G1 hG1).list
    have R1 := (hA G1 hG1).reps
    have z1 := hz G1 hG1
    have z2 : G2.vs.length ≤ 6 := by
      rcases H2 with ⟨hm, _⟩ | ⟨_, e, _⟩
      · exact hz G2 hm
      · rw [e]; exact Nat.zero_le _
    clear hQ F N
    have TT : ∀ x t, tv = some (x, t) → Rep s.heap x t := by
      rcases ht with ⟨_, rfl⟩ | ⟨x, T0, r, ts0, _, _, rfl, Y⟩
      · exact fun _ _ e => nomatch e
      · exact fun _ _ e => by cases e; exact Y
    rcases ht with ⟨rfl, rfl⟩ | ⟨x, T0, r, ts0, rfl, hr, rfl, Y⟩
    all_goals
      k_steps
      (with_reducible rename Fr _ _ _ _ => F1); (with_reducible rename News _ _ _ _ => N1)
      refine LCt.CompSrcT.base rfl F1 N1 hG (by rw [List.size_toArray, List.length_map, sizeLine_eq]; omega) ?_
      intro g'
      refine restT (keepP G1.d G2.d) (fun v y => y = v) ?_ (.inl hG) ?_
      · intro v I oI C oC D m2 ys h tk E' hv hC hx Fi Ni off ne hS
        clear F1 N1
        obtain ⟨G0, hGm, rfl⟩ := List.mem_map.mp hv
        have D0 : DIn prog w s.heap [] G0.d (kvsOf G0.la G0.typ G0.num) := fun _ _ _ _ F' _ _ => DictOf.keeps (hA G0 hGm).dict F'.keep
        by_cases q1 : G0.d = G1.d
        · k_steps
          all_goals simp [keepP, q1]
        · by_cases q2 : G0.d = G2.d
          · k_steps
            all_goals simp [keepP, q2]
          · k_steps
            all_goals simp [keepP, q1, q2]
      intro ys hy
      obtain rfl := paired_eq hy
      rw [filter_keep]
      have zz : ((Gs.filter fun G => !decide (G.d = G1.d) && !decide (G.d = G2.d)).map fun G => Value.ref G.d).length ≤ 6 := by
        rw [List.length_map]; exact Nat.le_trans (List.length_filter_le _ _) hz2
      clear F1 N1
      k_steps
      (with_reducible rename Fr _ _ _ _ => F1); (with_reducible rename News _ _ _ _ => N1)
      refine q _ _ _ hG1 hT1 H2 F1.keep (joined_fin F1 N1 hd j hn rfl R1 R2 TT (by k_mem) (by k_mem) (by assumption) (by k_mem))
end PartS19
section PartS20
theorem rowsS20_0 : True := by
  k_with_none
  k_with "mine enter" => (
    (case ho => k_is); (case hcd => k_is); (case hroom => exact Nat.le_of_ble_eq_true rfl)
    (case hbind => first | exact binds_K (by k_in) rfl (by k_is) rfl rfl rfl | exact BindsTo.of_eq rfl)
    (case hloc => exact locs rfl)
    (case c1 => decide); (case c2 => rfl); (case c3 => rfl); (case c4 => rfl))
  k_with "mine enterC" => (
    (case ho => k_is); (case hcd => k_is); (case hroom => exact Nat.le_of_ble_eq_true rfl)
    (case hbind => first | exact binds_K (by k_in) rfl (by k_is) rfl rfl rfl | exact BindsTo.of_eq rfl)
    (case hkind => exact rfl); (case hnd => decide +kernel)
    (case c2 => rfl); (case c3 => rfl); (case c4 => rfl))
  k_with "mine le" => (exact Nat.le_of_ble_eq_true rfl)
  k_with "subscriptTail" => (k_here; (with_reducible show wpAny _ _ (subscriptTail _ _ (Value.ref _) (Value.int _ _)) _ _ _); k_dflt (refine item_tupleT (by is_tup) (by decide) (by decide) (by rfl) (by rfl) ?_; k_whole))
  k_with "k_inst" => (exact InstAt.keepsB (by assumption) (Fr.keep (by assumption)))
  k_with "mine around" => ((case hh => rfl); (case hd => exact Nat.le_of_ble_eq_true rfl); (case hu => exact Nat.le_of_ble_eq_true rfl))
  k_with "call ref" => (k_here; (with_reducible show wpAny _ _ (PySem.call (Value.ref 114) _) _ _ _); k_dflt (refine resolved_call (by k_asm) (by k_asm) (by first | assumption | exact fun b o e => e) (by assumption) (by assumption) (by is_list) (by assumption) (by assumption) (by assumption) (by rfl) (by walk_at "mine le") (by walk_at "mine le") ?_; k_whole); intro _ _ _ _ _ _ _)
  k_with "subscriptTail" => (k_here; (with_reducible show wpAny _ _ (subscriptTail _ _ (Value.ref _) (Value.str _ _)) _ _ _); k_dflt (refine item_dictB (by exact DictOf.keeps (by assumption) (Fr.keep (by assumption))) (by first | exact valueAt_all | exact valueAt_type | exact valueAt_number) ?_; k_whole))
  k_with "CompSrc" => (refine stop ?_)
  k_with "CompSrcT" => (refine stop ?_)
  k_with "eval ListComp" => (k_here; (with_reducible show wpAny _ _ (eval (PySem.Expr.ListComp _ [PySem.Comprehension.mk _ _ [] _] _ _) _) _ _ _); k_dflt (refine LCg.ListComp_U (by k_asm) (by with_unfolding_all rfl) (by decide) (by rfl) (by decide) (by rfl) ?_ (by intro _; rfl); k_whole))
  k_with "eval ListComp" => (k_here; (with_reducible show wpAny _ _ (eval (PySem.Expr.ListComp _ [PySem.Comprehension.mk _ _ [_] _] _ _) _) _ _ _); k_dflt (refine LCt.ListComp_T (by k_asm) (by with_unfolding_all rfl) (by decide) (by rfl) (by decide) (by rfl) ?_ (by intro _; rfl); k_whole))
  k_with "CompEnd" => (refine cend (by k_asm) (by k_asm) (by walk_at "mine sub2") (by assumption) (by first | assumption | lcg_src) ?_)
  k_with "mine sub2" => (first | exact sub_self | (refine sub_tail ?_; walk_at "mine sub2"))
  trivial
theorem reps_same {h : Heap} {r : Ty} {vs ys : List Value} (P : Paired (fun _ y => ∃ b, y = .ref b ∧ Rep h b r) vs ys) : Reps h ys (List.replicate vs.length r) := by
  induction P with
  | nil => exact .nil
  | cons e _ ih => obtain ⟨b, rfl, rb⟩ := e; exact .cons rb ih
theorem Reps.mem {h : Heap} {vs : List Value} {ts : List Ty} (r : Reps h vs ts) {v : Value} (hv : v ∈ vs) : ∃ a t, v = .ref a ∧ t ∈ ts ∧ Rep h a t := by
  induction r with
  | nil => cases hv
  | cons e _ ih =>
    rcases List.mem_cons.mp hv with rfl | hv
    · exact ⟨_, _, rfl, .head _, e⟩
    · obtain ⟨a, t, h1, h2, h3⟩ := ih hv; exact ⟨a, t, h1, .tail _ h2, h3⟩
theorem nin_no {prog : Program} {w : World} {A : Around} {E : Value → Shared → Prop} {s : Shared} {g : Heap} {L a b : Addr} {m : Str → Option Value} {t : Ty} {vs : List Value} {ts : List Ty} {Q : Value → Shared → Prop}
    (F : Fr g L s.heap m) (hl : s.heap.IsList a vs.toArray) (r : Reps g vs ts) (hb : Rep g b t) (ht : t ∈ ts) (hu : A.units ≤ 1200) (h : Q (.bool false) s) :
    wpAny (model prog w) A (compareOp .NotIn (.ref b) (.ref a)) Q E s := nin_repsF F hl r hb hu (by rw [decide_eq_true ht]; exact h)
theorem rowsS20_1 : True := by
  k_with "subscriptTail" => (k_here; (with_reducible show wpAny _ _ (subscriptTail (PySem.Expr.Name _ _) _ (Value.ref _) (Value.int 0 _)) _ _ _); k_dflt (refine item_list0 (by k_asm) (by k_mem) ?_ (by with_unfolding_all rfl)))
  k_with "subscriptTail Name Constant ref int" => (k_here; (with_reducible show wpAny _ _ (subscriptTail (PySem.Expr.Name _ _) _ (Value.ref _) (Value.int 0 _)) _ _ _); k_dflt (refine item_list0 (by k_asm) (by k_mem) ?_ (by with_unfolding_all rfl)))
  k_with "compareOp NotEq ref ref" => (k_here; (with_reducible show wpAny _ _ (compareOp CmpOp.NotEq (Value.ref _) (Value.ref _)) _ _ _); k_dflt (first
    | (refine ne_rep_no (by k_asm) (by assumption) (by assumption) (by walk_at "mine le") ?_; k_whole)
    | (refine ne_nils (by is_list) (by is_list) (by walk_at "mine le") ?_; k_whole)))
  k_with "compareOp NotIn ref ref" => (k_here; (with_reducible show wpAny _ _ (compareOp CmpOp.NotIn (Value.ref _) (Value.ref _)) _ _ _); k_dflt (refine nin_no (by k_asm) (by is_list) (by assumption) (by assumption) (by assumption) (by walk_at "mine le") ?_; k_whole))
  trivial
theorem news3 {g h : Heap} {L : Addr} {news : List (Addr × Obj)} {p q r : Addr × Obj} (N : News g L h news) (m1 : p ∈ news) (m2 : q ∈ news) (m3 : r ∈ news) : News g L h [p, q, r] := by
  intro x hx
  rcases List.mem_cons.mp hx with rfl | hx
  · exact N _ m1
  · rcases List.mem_cons.mp hx with rfl | hx
    · exact N _ m2
    · rcases List.mem_singleton.mp hx with rfl
      exact N _ m3
theorem rowsS20_2 : True := by
  k_with "mine told" => (
    (with_reducible rename Fr _ _ _ _ => F1); (with_reducible rename News _ _ _ _ => N1)
    exact ⟨_, _, _, _, rfl, F1, news3 N1 (by k_mem) (by k_mem) (by k_mem), _, o2, _, rfl, hd2, by assumption⟩)
  trivial
/-- what the table of unknowns says of a group's things -/
structure ToldG (σ : Nat → Option Ty) (G : GV) (r : Ty) : Prop where
  mem : ∀ t ∈ G.ts, ∃ n, RootN σ n t r
  ne : G.ts ≠ []
  len : G.ts.length ≤ 6
  known : ∀ x T, G.tv = some (x, T) → r = T
  free : G.tv = none → r ∈ G.ts ∧ ∃ k, r = .v k ∧ G.num = decide (k % 2 = 1)
theorem told_spec {prog : Program} {w : World} {mg mb : Str → Option Value} {s : Shared} (G : G0 w mg mb s.heap) {aF aK aN aG aS : Addr} {its : List Value} {σ : Nat → Option Ty} {Gs : List GV}
    (I : InfAt s.heap aF aK aN) (hK : s.heap.IsList aK its.toArray) (Kn : Known s.heap its σ)
    (hG : s.heap.IsList aG (Gs.map fun G => Value.ref G.d).toArray) (hA : ∀ G ∈ Gs, GAt prog w s.heap G) (hT : ∀ G ∈ Gs, ∃ r, ToldG σ G r) {Q E : Value → Shared → Prop}
    (hQ : ∀ h' tk', s.heap.StaysIn h' → Q (.bool true) { s with heap := h', toks := tk' }) :
    wpAny (model prog w) (AR 600) (PySem.call (.ref 215) [.ref aF, .ref aG, .ref aS]) Q E s := by
  refine wpAny_call ?_
  have KX := G.X
  have T := G.T
  refine' enter0C G.X G.T.nolimit ?ho ?hcd ?hroom ?hbind ?hkind ?hnd ?_ ?c2 ?c3 ?c4
  walk_at "mine enterC"
  intro L h₁ tk₁ cells F N Y
  k_cells Y
  obtain ⟨dF, e1, e2, t1, t2, I'⟩ := id I
  refine wpAny_execs_cons ?_
  refine wpAny_For ?_
  k_steps
  refine For_one (fun i n => ∃ o1 o2 c, n = [(L + 1 + 1, o1), (L + 1, o2)] ∧ o2.data = .cell (some (.ref aF)) ∧ o1.data = .cell c) rfl rfl rfl hG F N ⟨_, _, _, rfl, by assumption, by assumption⟩ ?_ ?_ ?_
  · rintro i _ ⟨o1, o2, c, rfl, _⟩; rfl
  · rintro i v _ h tk oi hv ⟨o1, o2, c, rfl, hd2, hd1⟩ F₁ N₁ off
    clear N F
    obtain ⟨G', hGi, rfl⟩ : ∃ G, Gs[i]? = some G ∧ Value.ref G.d = v := by simpa using hv
    have hm := List.mem_of_getElem? hGi
    obtain ⟨D1, D2, D3, D4⟩ := hA G' hm
    obtain ⟨r, TG⟩ := hT G' hm
    have f1 : @Ne Nat (L + 1 + 1) h₁.objs.size := off _ (.head _)
    have f2 : @Ne Nat (L + 1) h₁.objs.size := off _ (.tail _ (.head _))
    clear off
    have z1 : G'.vs.length ≤ 6 := by rw [D3.length]; exact TG.len
    have z2 : 0 < G'.vs.length := by rw [D3.length]; exact List.length_pos_iff.mpr TG.ne
    k_steps
    refine LCg.CompSrc.base rfl F₁ N₁ D2 (by rw [List.size_toArray, sizeLine_eq]; omega) ?_
    intro g'
    refine restU (fun _ y => ∃ b, y = .ref b ∧ Rep s.heap b r) ?_ (.inl D2) ?_
    · intro v I oI C oC D m2 ys h tk E' hv hC hx Fi Ni off' ne hS
      clear F₁ N₁
      obtain ⟨a, t, rfl, ht, ra⟩ := D3.mem hv
      obtain ⟨n, hr⟩ := TG.mem t ht
      k_steps
      assumption
    intro ys P
    have RS := reps_same P
    have hl := RS.length
    rw [List.length_replicate] at hl
    obtain ⟨y0, yr, rfl⟩ : ∃ y yr, ys = y :: yr := by
      cases ys with
      | nil => rw [List.length_nil] at hl; rw [← hl] at z2; exact absurd z2 (Nat.lt_irrefl _)
      | cons y yr => exact ⟨y, yr, rfl⟩
    obtain ⟨b0, _, rfl, hb0, rb0⟩ := RS.mem (.head _)
    obtain rfl := List.eq_of_mem_replicate hb0
    clear F₁ N₁
    k_steps
    (with_reducible rename Fr _ _ _ _ => F1); (with_reducible rename News _ _ _ _ => N1)
    refine LCt.CompSrcT.ledger rfl F1 N1 (by k_mem) (by rw [List.size_toArray, sizeLine_eq, hl]; omega) ?_
    intro g'
    refine restT (fun _ => false) (fun v y => y = v) ?_ (.inr ⟨_, by k_mem, rfl, _, rfl⟩) ?_
    · intro v I oI C oC D m2 ys h tk E' hv hC hx Fi Ni off' ne hS
      clear F1 N1
      obtain ⟨b, t, rfl, ht, rb⟩ := RS.mem hv
      obtain rfl := List.eq_of_mem_replicate ht
      k_steps
      all_goals (walk_at "CompEnd"; rfl)
    intro ys hy
    rw [List.filter_eq_nil_iff.mpr (fun _ _ => Bool.false_ne_true)] at hy
    obtain rfl : ys = [] := by cases hy; rfl
    clear F1 N1 hy
    cases e : G'.tv with
    | none =>
      rw [typ_none e] at D1
      obtain ⟨hr, k, rfl, hn⟩ := TG.free e
      obtain ⟨l1, el, xl⟩ := id rb0
      obtain ⟨tk1, u1, rfl⟩ := xl
      by_cases q : k % 2 = 1
      · rw [show varName k = "intvar" from if_pos q] at el
        rw [decide_eq_true q] at hn
        rw [hn] at D1
        k_steps
        walk_at "mine told"
      · rw [show varName k = "var" from if_neg q] at el
        rw [decide_eq_false q] at hn
        rw [hn] at D1
        k_steps
        walk_at "mine told"
    | some p =>
      obtain ⟨x, T0⟩ := p
      rw [typ_some e] at D1
      have hx := D4 _ _ e
      obtain rfl := TG.known _ _ e
      k_steps
      walk_at "mine told"
  · rintro u _ h tk ⟨o1, o2, c, rfl, hd2, hd1⟩ F₁ N₁
    clear F N
    k_steps
    (with_reducible rename Fr _ _ _ _ => F1)
    exact hQ _ _ F1.keep
end PartS20
section PartS21a
theorem range_size (n : Nat) : Builtin.Range.rangeSize 0 (n : Int) 1 = (n : Int) := by
  unfold Builtin.Range.rangeSize
  rw [if_pos (by decide)]
  split <;> omega
section
variable {prog : Program} {w : World} {A : Around} {E : Value → Shared → Prop} {s : Shared} {env : Env} {g : Heap} {x : Str} {px : Pos} {body : List Stmt} {Q : Flow → Shared → Prop}
/-- a loop over a range by ones from nought -/
theorem For_range {r : Addr} {n : Nat} {t u v : Tok} {m₀ : Str → Option Value} {news : List (Addr × Obj)} (J : Nat → (Str → Option Value) → List (Addr × Obj) → Prop)
    (hh : A.handled = none) (hx : env.kindOf x = some .local) (hp : (env.scope.kind == .class || (env.scope.kind == .module && env.locals != env.globals)) = false)
    (hr : IsRange s.heap r 0 (n : Int) 1 t u v) (hn : n < 1000) (F : Fr g env.locals s.heap m₀) (N : News g env.locals s.heap news) (hj : J 0 m₀ news)
    (hji : ∀ i m₁ news₁, J i m₁ news₁ → ∀ p ∈ news₁, p.1 ≠ s.heap.objs.size)
    (turn : ∀ i tv m₁ news₁ h tk oi, i < n → J i m₁ news₁ → Fr g env.locals h (fun y => if y = x then some (.int (i : Int) tv) else m₁ y) → News g env.locals h ((s.heap.objs.size, oi) :: news₁) →
      wpAny (model prog w) A (execs body env) (ForStep g env.locals s s.heap.objs.size oi (J (i + 1)) Q) No { s with heap := h, toks := tk })
    (done : ∀ m₁ news₁ h tk, J n m₁ news₁ → Fr g env.locals h m₁ → News g env.locals h news₁ → Q .next { s with heap := h, toks := tk }) :
    wpAny (model prog w) A (pyIter (.ref r)) (fun itv s₂ => codeAny (model prog w) A (.forLoop (.Name x px) itv body [] env) (fun r s' => match r with | .ok f => Q f s' | .error e => cameBackBy (model prog w) A env E e s') s₂) E s := by
  have hb : (n : Int) < 1000 := by omega
  refine wpAny_pyIter_range hr (small_one (by decide) (by decide) (by omega) (by omega)) ?_
  rw [range_size]
  have W := LCg.range_walks (prog := prog) (w := w) (A := A) (I := s.heap.objs.size) hh 0 n
  refine For_walk J W (fun b hb => by simpa using hb) (fun i h st => ⟨_, st⟩) (next_is_new F) (Nat.ne_of_gt F.ns.lt) hx hp ?_ ?_ (F.push _)
    (fun p hp => ⟨Heap.get?_push_of_some _ (N p hp).1, (N p hp).2⟩) hj hji ?_ ?_
  · intro b hb hbi
    exact absurd (List.mem_singleton.mp hb) hbi
  · show IsRangeIter _ _ _ _ _
    simpa using Heap.get?_push_size _ rfl
  · intro i v m₁ news₁ h tk oi hi hv hJ F₁ N₁
    obtain ⟨tv, rfl⟩ := hv
    rw [Int.zero_add] at F₁
    exact turn i tv m₁ news₁ h tk oi hi hJ F₁ N₁
  · intro m₁ news₁ h tk hJ F₁ N₁
    exact done m₁ news₁ h tk hJ F₁ N₁
/-- the same, where one name alone is turned -/
theorem For_range1 {r : Addr} {n : Nat} {t u v : Tok} {m₀ : Str → Option Value} {news : List (Addr × Obj)} (P : Nat → List (Addr × Obj) → Prop)
    (hh : A.handled = none) (hx : env.kindOf x = some .local) (hp : (env.scope.kind == .class || (env.scope.kind == .module && env.locals != env.globals)) = false)
    (hr : IsRange s.heap r 0 (n : Int) 1 t u v) (hn : n < 1000) (F : Fr g env.locals s.heap m₀) (N : News g env.locals s.heap news) (hj : P 0 news)
    (hji : ∀ i news₁, P i news₁ → news₁.map (·.1) = news.map (·.1))
    (turn : ∀ i tv news₁ h tk oi, i < n → P i news₁ → Fr g env.locals h (fun y => if y = x then some (.int (i : Int) tv) else m₀ y) → News g env.locals h ((s.heap.objs.size, oi) :: news₁) → (∀ p ∈ news₁, p.1 ≠ s.heap.objs.size) →
      wpAny (model prog w) A (execs body env) (ForOne g env.locals s x m₀ s.heap.objs.size oi (P (i + 1)) Q) No { s with heap := h, toks := tk })
    (done : ∀ u news₁ h tk, P n news₁ → Fr g env.locals h (fun y => if y = x then u else m₀ y) → News g env.locals h news₁ → Q .next { s with heap := h, toks := tk }) :
    wpAny (model prog w) A (pyIter (.ref r)) (fun itv s₂ => codeAny (model prog w) A (.forLoop (.Name x px) itv body [] env) (fun r s' => match r with | .ok f => Q f s' | .error e => cameBackBy (model prog w) A env E e s') s₂) E s := by
  have off : ∀ i news₁, P i news₁ → ∀ p ∈ news₁, p.1 ≠ s.heap.objs.size := fun i news₁ h p hp => by
    have hm : p.1 ∈ news.map (·.1) := hji _ _ h ▸ List.mem_map_of_mem hp
    obtain ⟨q, hq, e⟩ := List.mem_map.mp hm
    rw [← e]; exact Nat.ne_of_lt (Heap.lt_size (N q hq).1)
  refine For_range (fun i m n => (∃ u, m = fun y => if y = x then u else m₀ y) ∧ P i n) hh hx hp hr hn F N ⟨⟨m₀ x, putU⟩, hj⟩ (fun i _ n h => off i n h.2) ?_ ?_
  · rintro i tv _ news₁ h tk oi hi ⟨⟨u, rfl⟩, hP⟩ F₁ N₁
    rw [putQ] at F₁
    refine wpAny_mono (turn i tv news₁ h tk oi hi hP F₁ N₁ (off _ _ hP)) (fun f s₃ p => ?_) fun _ _ e => e
    cases f with
    | ret v => exact p
    | brk => exact p
    | next => obtain ⟨h', tk', u, news', rfl, F', N', hP'⟩ := p; exact ⟨h', tk', _, news', rfl, F', N', ⟨u, rfl⟩, hP'⟩
    | cont => obtain ⟨h', tk', u, news', rfl, F', N', hP'⟩ := p; exact ⟨h', tk', _, news', rfl, F', N', ⟨u, rfl⟩, hP'⟩
  · rintro _ news₁ h tk ⟨⟨u, rfl⟩, hP⟩ F₁ N₁
    exact done u news₁ h tk hP F₁ N₁
end
end PartS21a
section PartS21
local macro_rules | `(tactic| walk_at "pyIter ref") => `(tactic| k_extra "mine iter")
theorem rowsS21_0 : True := by
  k_with_none
  k_with "mine enter" => (
    (case ho => k_is); (case hcd => k_is); (case hroom => exact Nat.le_of_ble_eq_true rfl)
    (case hbind => first | exact binds_K (by k_in) rfl (by k_is) rfl rfl rfl | exact BindsTo.of_eq rfl)
    (case hloc => exact locs rfl)
    (case c1 => decide); (case c2 => rfl); (case c3 => rfl); (case c4 => rfl))
  k_with "mine enterC" => (
    (case ho => k_is); (case hcd => k_is); (case hroom => exact Nat.le_of_ble_eq_true rfl)
    (case hbind => first | exact binds_K (by k_in) rfl (by k_is) rfl rfl rfl | exact BindsTo.of_eq rfl)
    (case hkind => exact rfl); (case hnd => decide +kernel)
    (case c2 => rfl); (case c3 => rfl); (case c4 => rfl))
  k_with "mine le" => (exact Nat.le_of_ble_eq_true rfl)
  k_with "subscriptTail" => (k_here; (with_reducible show wpAny _ _ (subscriptTail _ _ (Value.ref _) (Value.int _ _)) _ _ _); k_dflt (refine item_tupleT (by is_tup) (by decide) (by decide) (by rfl) (by rfl) ?_; k_whole))
  k_with "k_inst" => (exact InstAt.keepsB (by assumption) (Fr.keep (by assumption)))
  k_with "mine around" => ((case hh => rfl); (case hd => exact Nat.le_of_ble_eq_true rfl); (case hu => exact Nat.le_of_ble_eq_true rfl))
  k_with "call builtin:len" => (k_here; (with_reducible show wpAny _ _ (call (Value.builtin "len") [Value.ref _]) _ _ _); k_dflt (refine len_mine (by is_list) (by omega) ?_; k_whole))
  k_with "mine iter" => (k_here; (with_reducible show wpAny _ _ (pyIter _) _ _ _); refine stop ?_)
  k_with "subscriptTail" => (k_here; (with_reducible show wpAny _ _ (subscriptTail _ _ (Value.ref _) (Value.int _ _)) _ _ _); k_dflt (refine item_listB (by is_list) (by omega) (by omega) (by assumption) ?_ (by with_unfolding_all rfl); k_whole))
  k_with "setItem ref int" => (k_here; (with_reducible show wpAny _ _ (setItem (Value.ref _) (Value.int _ _) (Value.ref _)) _ _ _); k_dflt (refine set_any (by k_asm) (by k_asm) (by k_upd) (by omega) (by omega) (by omega) ?_; k_whole); intro _ _ _)
  trivial
def dfl (i : Nat) (σ : Nat → Option Ty) : Nat → Option Ty := fun j => if j < i ∧ j % 2 = 1 ∧ σ j = none then some .i32 else σ j
def isnL : List Value := [.bool false, .bool true, .bool false, .bool true, .bool false, .bool true]
theorem isn_at {i : Nat} (h : i < 6) : isnL[((i : Nat) : Int).toNat]? = some (.bool (decide (i % 2 = 1))) := by
  have : i = 0 ∨ i = 1 ∨ i = 2 ∨ i = 3 ∨ i = 4 ∨ i = 5 := by omega
  rcases this with rfl | rfl | rfl | rfl | rfl | rfl <;> rfl
theorem dfl_even {i : Nat} {σ : Nat → Option Ty} (h : ¬ (i % 2 = 1 ∧ σ i = none)) : dfl (i + 1) σ = dfl i σ := by
  funext j
  unfold dfl
  by_cases q : j = i
  · subst q
    rw [if_neg (fun e => h e.2), if_neg (fun e => h e.2)]
  · by_cases p : j < i ∧ j % 2 = 1 ∧ σ j = none
    · rw [if_pos p, if_pos ⟨by omega, p.2⟩]
    · rw [if_neg p, if_neg (fun e => p ⟨by omega, e.2⟩)]
theorem dfl_odd {i : Nat} {σ : Nat → Option Ty} (h : i % 2 = 1 ∧ σ i = none) : dfl (i + 1) σ = updS (dfl i σ) i .i32 := by
  funext j
  show (if j < i + 1 ∧ j % 2 = 1 ∧ σ j = none then some Ty.i32 else σ j) = if j = i then some Ty.i32 else if j < i ∧ j % 2 = 1 ∧ σ j = none then some Ty.i32 else σ j
  by_cases q : j = i
  · subst q
    rw [if_pos ⟨by omega, h⟩, if_pos rfl]
  · rw [if_neg q]
    by_cases p : j < i ∧ j % 2 = 1 ∧ σ j = none
    · rw [if_pos p, if_pos ⟨by omega, p.2⟩]
    · rw [if_neg p, if_neg (fun e => p ⟨by omega, e.2⟩)]
theorem dfl_at {i : Nat} {σ : Nat → Option Ty} : dfl i σ i = σ i := by
  unfold dfl; rw [if_neg (fun e => Nat.lt_irrefl _ e.1)]
theorem ints_spec {prog : Program} {w : World} {mg mb : Str → Option Value} {s : Shared} {g₀ : Heap} (st : g₀.StaysIn s.heap) (G : G0 w mg mb g₀) {aF aK aN : Addr} {its : List Value} {ep : Nat} {σ : Nat → Option Ty}
    (I : InfAt g₀ aF aK aN) (hK : s.heap.get? aK = some (W.listOf its.toArray ep)) (hKn : g₀.get? aK = none) (Kn : Known g₀ its σ) (isn : g₀.IsList aN isnL.toArray) {Q E : Value → Shared → Prop}
    (hQ : ∀ h' tk' ep' its', Known g₀ its' (dfl 6 σ) → h'.get? aK = some (W.listOf its'.toArray ep') → (∀ b o, b ≠ aK → s.heap.get? b = some o → h'.get? b = some o) → Q .none { s with heap := h', toks := tk' }) :
    wpAny (model prog w) (AR 750) (PySem.call (.ref 149) [.ref aF]) Q E s := by
  refine wpAny_call ?_
  have KX := G.X
  refine' enter [(aK, W.listOf its.toArray ep)] G.X st ?hm G.T.nolimit ?ho ?hcd ?hroom ?hbind ?hloc ?_ ?c1 ?c2 ?c3 ?c4
  case hm => intro p hp; rcases List.mem_singleton.mp hp with rfl; exact ⟨hK, hKn⟩
  walk_at "mine enter"
  intro g L h₁ stg gd gu F N KX'
  have T := G.T.keeps stg
  have I' := I.keeps stg
  clear KX
  obtain ⟨dF, e1, e2, t1, t2, I'⟩ := I'
  have R74 : Rep g₀ 74 .i32 := ⟨_, ⟨_, G.X _ _ (by k_is), rfl, _, rfl⟩, _, _, rfl⟩
  have hlen := Kn.1
  have isn' : g.IsList aN isnL.toArray := isn.at fun o e => stg _ _ e
  refine wpAny_execs_cons ?_
  refine wpAny_For ?_
  k_steps
  (with_reducible rename Fr _ _ _ _ => F1); (with_reducible rename News _ _ _ _ => N1); (rename IsRange _ _ _ _ _ _ _ _ => hr)
  refine For_range1 (fun i n => ∃ its' ep', n = [(aK, W.listOf its'.toArray ep')] ∧ Known g₀ its' (dfl i σ)) rfl rfl rfl hr (by omega) F1 N1 ⟨its, ep, rfl, Kn⟩ ?_ ?_ ?_
  · rintro i _ ⟨its', ep', rfl, _⟩; rfl
  · rintro i tv _ h tk oi hi ⟨its', ep', rfl, Kn'⟩ F₁ N₁ off
    clear F1 N1
    have f1 : @Ne Nat aK _ := off _ (.head _)
    clear off
    dsimp only at f1
    have hi6 : i < 6 := by omega
    have hv1 := isn_at hi6
    have hlen' := Kn'.1
    by_cases q : i % 2 = 1
    · rw [decide_eq_true q] at hv1
      obtain ⟨v, hv, hv'⟩ := Kn'.2 i hi6
      rw [dfl_at] at hv'
      have hv2 : its'[((i : Nat) : Int).toNat]? = some v := by simpa using hv
      cases e : σ i with
      | none =>
        rw [e] at hv'
        obtain rfl : v = .none := hv'
        k_steps
        (with_reducible rename Fr _ _ _ _ => F2); (with_reducible rename News _ _ _ _ => N2)
        exact ⟨_, _, _, _, rfl, F2, N2, _, _, rfl, dfl_odd ⟨q, e⟩ ▸ Kn'.set hi6 R74⟩
      | some t =>
        rw [e] at hv'
        obtain ⟨c, rfl, hc⟩ := hv'
        k_steps
        (with_reducible rename Fr _ _ _ _ => F2); (with_reducible rename News _ _ _ _ => N2)
        exact ⟨_, _, _, _, rfl, F2, N2, _, _, rfl, (dfl_even (σ := σ) (i := i) (fun h => by rw [e] at h; cases h.2)) ▸ Kn'⟩
    · rw [decide_eq_false q] at hv1
      k_steps
      (with_reducible rename Fr _ _ _ _ => F2); (with_reducible rename News _ _ _ _ => N2)
      exact ⟨_, _, _, _, rfl, F2, N2, _, _, rfl, (dfl_even (σ := σ) (i := i) (fun h => q h.1)) ▸ Kn'⟩
  · rintro u _ h tk ⟨its', ep', rfl, Kn'⟩ F₁ N₁
    clear F1 N1
    k_steps
    rw [hlen] at Kn'
    exact hQ _ _ _ _ Kn' (N₁ _ (.head _)).1 (fun b o hb e => F₁.keep b o (gu b o e (by simpa using hb)))
end PartS21
section PartS22
local macro_rules | `(tactic| walk_at "pyIter ref") => `(tactic| k_extra "mine iter")
theorem rowsS22_0 : True := by
  k_with_none
  k_with "mine enter" => (
    (case ho => k_is); (case hcd => k_is); (case hroom => exact Nat.le_of_ble_eq_true rfl)
    (case hbind => first | exact binds_K (by k_in) rfl (by k_is) rfl rfl rfl | exact BindsTo.of_eq rfl)
    (case hloc => exact locs rfl)
    (case c1 => decide); (case c2 => rfl); (case c3 => rfl); (case c4 => rfl))
  k_with "mine enterC" => (
    (case ho => k_is); (case hcd => k_is); (case hroom => exact Nat.le_of_ble_eq_true rfl)
    (case hbind => first | exact binds_K (by k_in) rfl (by k_is) rfl rfl rfl | exact BindsTo.of_eq rfl)
    (case hkind => exact rfl); (case hnd => decide +kernel)
    (case c2 => rfl); (case c3 => rfl); (case c4 => rfl))
  k_with "mine le" => (exact Nat.le_of_ble_eq_true rfl)
  k_with "subscriptTail" => (k_here; (with_reducible show wpAny _ _ (subscriptTail _ _ (Value.ref _) (Value.int _ _)) _ _ _); k_dflt (refine item_tupleT (by is_tup) (by decide) (by decide) (by rfl) (by rfl) ?_; k_whole))
  k_with "k_inst" => (exact InstAt.keepsB (by assumption) (Fr.keep (by assumption)))
  k_with "mine around" => ((case hh => rfl); (case hd => exact Nat.le_of_ble_eq_true rfl); (case hu => exact Nat.le_of_ble_eq_true rfl))
  trivial
/-! the numbers without a type made i32 -/
def dflR (r : Ty) : Ty := match r with
  | .v k => if k % 2 = 1 then .i32 else .v k
  | t => t
theorem RootN.dfl {σ : Nat → Option Ty} {n : Nat} {t r : Ty} (h : RootN σ n t r) : RootN (dfl 6 σ) (n + 1) t (dflR r) := by
  induction h with
  | @stop n i hi hs =>
    by_cases q : i % 2 = 1
    · show RootN _ _ _ (if i % 2 = 1 then .i32 else .v i)
      rw [if_pos q]
      exact .step (t := .i32) hi (if_pos ⟨hi, q, hs⟩) (.base fun j e => nomatch e)
    · show RootN _ _ _ (if i % 2 = 1 then .i32 else .v i)
      rw [if_neg q]
      exact .stop hi ((if_neg fun e => q e.2.1).trans hs)
  | @step n i t r hi hs _ ih =>
    exact .step hi ((if_neg fun e => by rw [hs] at e; cases e.2.2).trans hs) ih
  | @base n t hb =>
    cases t with
    | v j => exact absurd rfl (hb j)
    | _ => exact .base hb
/-- a group behind the defaults -/
def DfG (G : GV) (tv : Option (Addr × Ty)) : Prop := (tv = G.tv ∧ ¬(G.num = true ∧ G.tv = none)) ∨ (G.num = true ∧ G.tv = none ∧ ∃ x, tv = some (x, .i32))
theorem ToldG.dfl {σ : Nat → Option Ty} {G : GV} {r : Ty} {tv : Option (Addr × Ty)} (h : ToldG σ G r) (hk : ∀ x T, G.tv = some (x, T) → ∀ j, T ≠ .v j) (d : DfG G tv) : ToldG (dfl 6 σ) { G with tv := tv } (dflR r) := by
  refine ⟨fun t ht => let ⟨n, q⟩ := h.mem t ht; ⟨n + 1, q.dfl⟩, h.ne, h.len, fun x T e => ?_, fun e => ?_⟩
  · dsimp only at e
    rcases d with ⟨rfl, _⟩ | ⟨hn, h0, y, rfl⟩
    · have := h.known x T e
      subst this
      cases r with
      | v j => exact absurd rfl (hk x _ e j)
      | _ => rfl
    · cases e
      obtain ⟨_, k, rfl, q⟩ := h.free h0
      rw [hn] at q
      exact if_pos (of_decide_eq_true q.symm)
  · dsimp only at e
    rcases d with ⟨rfl, hnn⟩ | ⟨_, _, y, rfl⟩
    · obtain ⟨hm, k, rfl, q⟩ := h.free e
      have hk : ¬ k % 2 = 1 := fun hk => hnn ⟨q.trans (decide_eq_true hk), e⟩
      rw [show dflR (.v k) = .v k from if_neg hk]
      exact ⟨hm, k, rfl, q⟩
    · cases e
/-! what a heap still bears where some of its objects are hidden -/
theorem IsTup.hide {h : Heap} {S : List Addr} {a : Addr} {l : Array Value} (e : IsTup h a l) (hS : ∀ d ∈ S, ∀ o, h.get? d = some o → o.cls ≠ .type "tuple") : IsTup (hideAll h S) a l := by
  obtain ⟨o, ho, hc, r⟩ := e
  exact ⟨o, hideAll_get _ ho (fun hm => hS a hm o ho hc), hc, r⟩
theorem Rep.hide {h : Heap} {S : List Addr} {a : Addr} {t : Ty} (r : Rep h a t) (hS : ∀ d ∈ S, ∀ o, h.get? d = some o → o.cls ≠ .type "tuple") : Rep (hideAll h S) a t :=
  let ⟨l, e, i⟩ := r; ⟨l, IsTup.hide e hS, i⟩
theorem Reps.hide {h : Heap} {S : List Addr} {vs : List Value} {ts : List Ty} (r : Reps h vs ts) (hS : ∀ d ∈ S, ∀ o, h.get? d = some o → o.cls ≠ .type "tuple") : Reps (hideAll h S) vs ts := by
  induction r with
  | nil => exact .nil
  | cons e _ ih => exact .cons (e.hide hS) ih
theorem Known.hide {h : Heap} {S : List Addr} {its : List Value} {σ : Nat → Option Ty} (K : Known h its σ) (hS : ∀ d ∈ S, ∀ o, h.get? d = some o → o.cls ≠ .type "tuple") : Known (hideAll h S) its σ :=
  ⟨K.1, fun i hi => by
    obtain ⟨v, e1, e2⟩ := K.2 i hi
    refine ⟨v, e1, ?_⟩
    cases e : σ i with
    | none => rw [e] at e2; exact e2
    | some t => rw [e] at e2; obtain ⟨a, e3, e4⟩ := e2; exact ⟨a, e3, e4.hide hS⟩⟩
theorem isList_hide {h : Heap} {S : List Addr} {a : Addr} {l : Array Value} (e : h.IsList a l) (ha : a ∉ S) : (hideAll h S).IsList a l := by
  obtain ⟨o, ho, r⟩ := e
  exact ⟨o, hideAll_get _ ho ha, r⟩
theorem stays_hide {g h : Heap} {S : List Addr} (st : g.StaysIn h) (hS : ∀ d ∈ S, g.get? d = none) : g.StaysIn (hideAll h S) := fun b o e =>
  hideAll_get _ (st b o e) fun hm => by rw [hS b hm] at e; cases e
section
variable {prog : Program} {w : World} {mg mb : Str → Option Value} {A : Around} {s : Shared} {g g₀ : Heap} {L : Addr} {m : Str → Option Value} {news : List (Addr × Obj)} {aF aK aN : Addr} {its : List Value} {ep : Nat} {σ : Nat → Option Ty} {Q E : Value → Shared → Prop} {gf : Obj → List (Addr × Obj)}
theorem ints_call (F : Fr g L s.heap m) (N : News g L s.heap news) (U : UpdF aK (W.listOf its.toArray ep) news gf) (st : g₀.StaysIn g) (G : G0 w mg mb g₀) (I : InfAt g₀ aF aK aN) (Kn : Known g₀ its σ) (isn : g₀.IsList aN isnL.toArray)
    (hh : A.handled = none) (hd : A.depth ≤ 750) (hu : A.units ≤ 750)
    (hQ : ∀ h' tk' ep' its', Known g₀ its' (dfl 6 σ) → Fr g L h' m → News g L h' (gf (W.listOf its'.toArray ep')) → Q .none { s with heap := h', toks := tk' }) :
    wpAny (model prog w) A (PySem.call (.ref 149) [.ref aF]) Q E s := by
  obtain ⟨pre, post, e, _, _, _⟩ := U.split
  have z := N (aK, W.listOf its.toArray ep) (by rw [e]; exact List.mem_append.mpr (.inr (.head _)))
  have hn : g₀.get? aK = none := by
    cases q : g₀.get? aK with
    | none => rfl
    | some o => have := z.2.2; rw [st _ _ q] at this; cases this
  refine lift (ints_spec (fun b o e => F.keep b o (st b o e)) G I z.1 hn Kn isn fun h' tk' ep' its' K' e' kk => ?_) hh hd hu
  obtain ⟨F', N'⟩ := turn_one F N U e' kk
  exact hQ h' tk' ep' its' K' F' N'
end
theorem rowsS22_1 : True := by
  k_with "call ref" => (k_here; (with_reducible show wpAny _ _ (PySem.call (Value.ref 149) _) _ _ _); k_dflt (refine ints_call (by k_asm) (by k_asm) (by k_updF) (by first | assumption | exact fun b o e => e) (by assumption) (by assumption) (by assumption) (by assumption) (by rfl) (by walk_at "mine le") (by walk_at "mine le") ?_; k_whole); intro _ _ _ _ _ _ _)
  k_with "mine iter" => (k_here; (with_reducible show wpAny _ _ (pyIter _) _ _ _); refine stop ?_)
  k_with "k_all" => (assumption)
  k_with "mine mem" => (first | assumption | exact .head _ | (refine .tail _ ?_; walk_at "mine mem"))
  k_with "subscriptTail" => (k_here; (with_reducible show wpAny _ _ (subscriptTail _ _ (Value.ref _) (Value.str _ _)) _ _ _); k_dflt (refine kda_item (knd := PySem.strKind _ _) (by k_asm) (by walk_at "mine mem") (by assumption) (strKind_is _ _ _ _) (by first | exact valueAt_type | exact valueAt_number) ?_; k_whole))
  trivial
theorem set_type {prog : Program} {w : World} {A : Around} {E : Value → Shared → Prop} {s : Shared} {h₀ : Heap} {L d la : Addr} {m : Str → Option Value} {news : List (Addr × Obj)} {gf : Obj → List (Addr × Obj)} {o : Obj} {v₀ v : Value} {num : Bool} {u : Tok} {Q : Unit → Shared → Prop}
    (F : Fr h₀ L s.heap m) (N : News h₀ L s.heap news) (U : UpdF d o news gf) (hd : o.IsDictOf (PySem.strKind prog w) (kvsOf la v₀ num))
    (h : ∀ h' o', Fr h₀ L h' m → News h₀ L h' (gf o') → o'.IsDictOf (PySem.strKind prog w) (kvsOf la v num) → Q () { s with heap := h', toks := s.toks + 1 }) : wpAny (model prog w) A (setItem (.ref d) (.str "type" u) v) Q E s :=
  kda_set F N U hd (strKind_is _ _ _ _) (by rw [sizeLine_eq]; exact Nat.le_of_ble_eq_true rfl) h
theorem rowsS22_2 : True := by
  k_with "setItem ref str" => (k_here; (with_reducible show wpAny _ _ (setItem (Value.ref _) (Value.str _ _) (Value.ref _)) _ _ _); k_dflt (refine set_type (by k_asm) (by k_asm) (by k_updF) (by assumption) ?_); intro _ _ _ N' _; (try dsimp only at N'))
  trivial
theorem told_call {prog : Program} {w : World} {mg mb : Str → Option Value} {A : Around} {s : Shared} {g g₀ : Heap} {L : Addr} {m : Str → Option Value} {news : List (Addr × Obj)} {aF aK aN aG aS : Addr} {its : List Value} {σ : Nat → Option Ty} {Gs : List GV} {Q E : Value → Shared → Prop}
    (F : Fr g L s.heap m) (N : News g L s.heap news) (st : g₀.StaysIn s.heap) (G : G0 w mg mb g₀) (I : InfAt g₀ aF aK aN) (hK : s.heap.IsList aK its.toArray) (Kn : Known s.heap its σ)
    (hG : s.heap.IsList aG (Gs.map fun G => Value.ref G.d).toArray) (hA : ∀ G ∈ Gs, GAt prog w s.heap G) (hT : ∀ G ∈ Gs, ∃ r, ToldG σ G r)
    (hh : A.handled = none) (hd : A.depth ≤ 600) (hu : A.units ≤ 600)
    (k : ∀ h' tk', Fr g L h' m → News g L h' news → Q (.bool true) { s with heap := h', toks := tk' }) :
    wpAny (model prog w) A (PySem.call (.ref 215) [.ref aF, .ref aG, .ref aS]) Q E s :=
  lift (told_spec (G.keeps st) (I.keeps st) hK Kn hG hA hT fun h' tk' x => k h' tk' (fr_grow F x) (news_grow N x)) hh hd hu
theorem news_swap {g h : Heap} {L : Addr} {p q : Addr × Obj} {news : List (Addr × Obj)} (N : News g L h (p :: q :: news)) : News g L h (q :: p :: news) := fun x hx => by
  rcases List.mem_cons.mp hx with rfl | hx
  · exact N _ (.tail _ (.head _))
  · rcases List.mem_cons.mp hx with rfl | hx
    · exact N _ (.head _)
    · exact N _ (.tail _ (.tail _ hx))
def typO : Option (Addr × Ty) → Value
  | none => .none
  | some (x, _) => .ref x
theorem typ_is {G : GV} {tv : Option (Addr × Ty)} : ({ G with tv := tv } : GV).typ = typO tv := by
  unfold GV.typ typO; rfl
theorem defaults_spec {prog : Program} {w : World} {mg mb : Str → Option Value} {s : Shared} {b₁ : Heap} (st : b₁.StaysIn s.heap) (G : G0 w mg mb b₁) {aF aK aN aG : Addr} {its : List Value} {ep : Nat} {σ : Nat → Option Ty} {Gs : List GV}
    (I : InfAt b₁ aF aK aN) (hK : s.heap.get? aK = some (W.listOf its.toArray ep)) (hKb : b₁.get? aK = none) (Kn : Known s.heap its σ) (isn : b₁.IsList aN isnL.toArray)
    (hG : s.heap.IsList aG (Gs.map fun G => Value.ref G.d).toArray) (hGK : aG ≠ aK) (hA : ∀ G ∈ Gs, GAt prog w s.heap G) (hAK : ∀ G ∈ Gs, G.la ≠ aK) (hdb : ∀ G ∈ Gs, b₁.get? G.d = none)
    (inj : ∀ G ∈ Gs, ∀ G' ∈ Gs, G.d = G'.d → G = G') (hT : ∀ G ∈ Gs, ∃ r, ToldG σ G r) (hTk : ∀ G ∈ Gs, ∀ x T, G.tv = some (x, T) → ∀ j, T ≠ .v j) {Q E : Value → Shared → Prop}
    (hQ : ∀ h' tk', (∀ b o, s.heap.get? b = some o → b ≠ aK → (∀ G ∈ Gs, b ≠ G.d) → h'.get? b = some o) → Q (.bool true) { s with heap := h', toks := tk' }) :
    wpAny (model prog w) (AR 540) (PySem.call (.ref 222) [.ref aF, .ref aG]) Q E s := by
  obtain ⟨ds, hds, hdm⟩ : ∃ ds : List (Addr × Obj), (∀ p ∈ ds, s.heap.get? p.1 = some p.2 ∧ ∃ G ∈ Gs, p.1 = G.d) ∧ ∀ G ∈ Gs, ∃ o, (G.d, o) ∈ ds ∧ o.IsDictOf (PySem.strKind prog w) (kvsOf G.la G.typ G.num) := by
    clear hQ hG hK hT hTk inj hdb hAK
    induction Gs with
    | nil => exact ⟨[], (fun _ h => nomatch h), fun _ h => nomatch h⟩
    | cons G Gs ih =>
      obtain ⟨ds, h1, h2⟩ := ih (fun G' hG' => hA G' (.tail _ hG'))
      obtain ⟨o, ho, hd⟩ := Heap.dictOf_iff.mp (hA G (.head _)).dict
      refine ⟨(G.d, o) :: ds, fun p hp => ?_, fun G' hG' => ?_⟩
      · rcases List.mem_cons.mp hp with rfl | hp
        · exact ⟨ho, G, .head _, rfl⟩
        · obtain ⟨a, G', b, c⟩ := h1 p hp; exact ⟨a, G', .tail _ b, c⟩
      · rcases List.mem_cons.mp hG' with rfl | hG'
        · exact ⟨o, .head _, hd⟩
        · obtain ⟨o', a, b⟩ := h2 G' hG'; exact ⟨o', .tail _ a, b⟩
  have dcls : ∀ G ∈ Gs, ∀ o, s.heap.get? G.d = some o → o.cls = .type "dict" := fun G' hG' o e => by
    obtain ⟨o', ho, es, epp, he, _⟩ := Heap.dictOf_iff.mp (hA G' hG').dict
    rw [ho] at e; cases e; rw [he.1]
  have dneK : ∀ G ∈ Gs, G.d ≠ aK := fun G' hG' e => by
    have := dcls G' hG' _ (e ▸ hK); exact absurd (Value.type.inj this) (by decide)
  have lneD : ∀ a l, s.heap.IsList a l → ∀ G ∈ Gs, a ≠ G.d := fun a l hl G' hG' e => by
    obtain ⟨o, ho, hc, _⟩ := hl
    have := dcls G' hG' o (e ▸ ho); rw [hc] at this; exact absurd (Value.type.inj this) (by decide)
  have hS : ∀ d ∈ aK :: ds.map (·.1), ∀ o, s.heap.get? d = some o → o.cls ≠ .type "tuple" := fun d hd o e => by
    rcases List.mem_cons.mp hd with rfl | hd
    · rw [hK] at e; cases e; show Value.type "list" ≠ .type "tuple"; decide
    · obtain ⟨p, hp, rfl⟩ := List.mem_map.mp hd
      obtain ⟨_, G', hG', q⟩ := hds p hp
      rw [dcls G' hG' o (q ▸ e)]; decide
  have hSb : ∀ d ∈ aK :: ds.map (·.1), b₁.get? d = none := fun d hd => by
    rcases List.mem_cons.mp hd with rfl | hd
    · exact hKb
    · obtain ⟨p, hp, rfl⟩ := List.mem_map.mp hd
      obtain ⟨_, G', hG', q⟩ := hds p hp
      rw [q]; exact hdb G' hG'
  have off : ∀ a l, s.heap.IsList a l → a ≠ aK → a ∉ aK :: ds.map (·.1) := fun a l hl hne hm => by
    rcases List.mem_cons.mp hm with e | hm
    · exact hne e
    · obtain ⟨p, hp, rfl⟩ := List.mem_map.mp hm
      obtain ⟨_, G', hG', q⟩ := hds p hp
      exact lneD _ _ hl G' hG' q
  -- the base
  obtain ⟨g₀, hg₀⟩ : ∃ g₀, g₀ = hideAll s.heap (aK :: ds.map (·.1)) := ⟨_, rfl⟩
  have sb : b₁.StaysIn g₀ := hg₀ ▸ stays_hide st hSb
  have G' := G.keeps sb
  have Kn' : Known g₀ its σ := hg₀ ▸ Kn.hide hS
  have hG' : g₀.IsList aG (Gs.map fun G => Value.ref G.d).toArray := hg₀ ▸ isList_hide hG (off _ _ hG hGK)
  have isn' : g₀.IsList aN isnL.toArray := isn.at fun o e => sb _ _ e
  have I' := I.keeps sb
  have hL : ∀ G ∈ Gs, g₀.IsList G.la G.vs.toArray := fun G' hG' => hg₀ ▸ isList_hide (hA G' hG').list (off _ _ (hA G' hG').list (hAK G' hG'))
  have hR : ∀ G ∈ Gs, Reps g₀ G.vs G.ts := fun G' hG' => hg₀ ▸ (hA G' hG').reps.hide hS
  have hY : ∀ G ∈ Gs, ∀ x t, G.tv = some (x, t) → Rep g₀ x t := fun G' hG' x t e => hg₀ ▸ ((hA G' hG').type x t e).hide hS
  have hnone : ∀ d ∈ aK :: ds.map (·.1), g₀.get? d = none := fun d hd => hg₀ ▸ hideAll_none _ hd
  have sg : g₀.StaysIn s.heap := fun b o e => of_hideAll _ (hg₀ ▸ e)
  clear hg₀ hS hSb off sb
  refine wpAny_call ?_
  have KX := G'.X
  refine' enter ((aK, W.listOf its.toArray ep) :: ds) G'.X sg ?hm G'.T.nolimit ?ho ?hcd ?hroom ?hbind ?hloc ?_ ?c1 ?c2 ?c3 ?c4
  case hm =>
    intro p hp
    rcases List.mem_cons.mp hp with rfl | hp
    · exact ⟨hK, hnone _ (.head _)⟩
    · exact ⟨(hds p hp).1, hnone _ (.tail _ (List.mem_map_of_mem hp))⟩
  walk_at "mine enter"
  intro g L h₁ stg gd gu F N KX'
  have T := G'.T.keeps stg
  clear KX
  have aKoff : ∀ p ∈ ds, p.1 ≠ aK := fun p hp => by
    obtain ⟨_, G', hG', q⟩ := hds p hp
    rw [q]; exact dneK G' hG'
  have I2 := I'.keeps stg
  obtain ⟨dF, e1, e2, t1, t2, I2⟩ := I2
  k_steps
  refine wpAny_For ?_
  k_steps
  (with_reducible rename Fr _ _ _ _ => F1); (with_reducible rename News _ _ _ _ => N1); (rename Known _ _ (dfl _ _) => K1)
  rename_i ep' its'
  obtain ⟨ol, hol, _⟩ := id hG'
  refine For_list (fun i m n => (∃ u, m = fun y => if y = Str.ofString "group" then u else (fun y => List.lookup y _) y) ∧ (aK, W.listOf its'.toArray ep') ∈ n ∧ (∀ p ∈ n, p.1 ≠ _) ∧
    ∃ T : Addr → Option (Addr × Ty), (∀ G ∈ Gs, (∃ o, (G.d, o) ∈ n ∧ o.IsDictOf (PySem.strKind prog w) (kvsOf G.la (typO (T G.d)) G.num)) ∧ (T G.d = G.tv ∨ DfG G (T G.d)) ∧
      ∀ x t, T G.d = some (x, t) → Rep g₀ x t ∨ ∃ l k, (x, ({ cls := .type "tuple", data := .seq (l : List Value).toArray k } : Obj)) ∈ n ∧ t.Items l) ∧ ∀ (j : Nat) G, j < i → Gs[j]? = some G → DfG G (T G.d)) rfl rfl rfl (Fr.lst F1 (hG'.at fun o e => stg _ _ e)) F1 N1 ⟨⟨_, putU⟩, .head _, fun p hp => ?_, ?_⟩ (fun i m n h => h.2.2.1) ⟨ol, fun i m n h _ ⟨_, F'⟩ _ => F'.keep _ _ (stg _ _ hol)⟩ ?_ ?_
  · exact Nat.ne_of_lt (Heap.lt_size (N1 p hp).1)
  · have hT0 : ∀ G ∈ Gs, (match Gs.find? (fun G' => decide (G'.d = G.d)) with | some G' => G'.tv | none => none) = G.tv := fun G2 hm => by
      cases e : Gs.find? (fun G' => decide (G'.d = G2.d)) with
      | none => exact absurd (List.find?_eq_none.mp e G2 hm) (by simp)
      | some G3 =>
        have h1 := List.find?_some e
        have h2 := List.mem_of_find?_eq_some e
        rw [inj G3 h2 G2 hm (of_decide_eq_true h1)]
    refine ⟨fun a => match Gs.find? (fun G' => decide (G'.d = a)) with | some G' => G'.tv | none => none, fun G2 hm => ⟨?_, .inl (hT0 G2 hm), fun x t e => ?_⟩, fun j G2 hj _ => absurd hj (Nat.not_lt_zero _)⟩
    · obtain ⟨o, ho, hd⟩ := hdm G2 hm
      refine ⟨o, .tail _ ho, ?_⟩
      dsimp only
      rw [hT0 G2 hm]
      exact hd
    · dsimp only at e
      rw [hT0 G2 hm] at e
      exact .inl (hY G2 hm x t e)
  · rintro i v _ news₁ h tk oi hv ⟨⟨u, rfl⟩, hmK, off, T0, hT0, hT1⟩ F₁ N₁
    clear F1 N1
    rw [putQ] at F₁
    obtain ⟨G2, hGi, rfl⟩ : ∃ G, Gs[i]? = some G ∧ Value.ref G.d = v := by simpa using hv
    have hm := List.mem_of_getElem? hGi
    obtain ⟨⟨o, ho, hd⟩, hb, hc⟩ := hT0 G2 hm
    have same : DfG G2 (T0 G2.d) → ∀ (j : Nat) G, j < i + 1 → Gs[j]? = some G → DfG G (T0 G.d) := fun D j G3 hj hg =>
      (Nat.lt_succ_iff_lt_or_eq.mp hj).elim (fun hj => hT1 j G3 hj hg) fun q => by subst q; rw [hGi] at hg; cases hg; exact D
    cases e : T0 G2.d with
    | some p =>
      obtain ⟨x, t⟩ := p
      rw [e] at hd hb
      have D : DfG G2 (T0 G2.d) := by
        rw [e]
        rcases hb with hb | hb
        · exact .inl ⟨hb, fun h => by rw [← hb] at h; cases h.2⟩
        · exact hb
      cases hn : G2.num with
      | true =>
        rw [hn] at hd
        simp only [typO] at hd
        k_steps
        (with_reducible rename Fr _ _ _ _ => F2); (with_reducible rename News _ _ _ _ => N2)
        exact ⟨_, _, _, news₁, rfl, F2, N2, ⟨_, rfl⟩, hmK, off, T0, hT0, same D⟩
      | false =>
        rw [hn] at hd
        k_steps
        (with_reducible rename Fr _ _ _ _ => F2); (with_reducible rename News _ _ _ _ => N2)
        exact ⟨_, _, _, news₁, rfl, F2, N2, ⟨_, rfl⟩, hmK, off, T0, hT0, same D⟩
    | none =>
      rw [e] at hd hb
      cases hn : G2.num with
      | false =>
        have D : DfG G2 (T0 G2.d) := by
          rw [e]
          rcases hb with hb | hb
          · exact .inl ⟨hb, fun h => by rw [hn] at h; cases h.1⟩
          · exact hb
        rw [hn] at hd
        k_steps
        (with_reducible rename Fr _ _ _ _ => F2); (with_reducible rename News _ _ _ _ => N2)
        exact ⟨_, _, _, news₁, rfl, F2, N2, ⟨_, rfl⟩, hmK, off, T0, hT0, same D⟩
      | true =>
        have htv : G2.tv = none := by
          rcases hb with hb | ⟨hb, _⟩ | ⟨_, hb, _⟩
          · exact hb.symm
          · exact hb.symm
          · exact hb
        rw [hn] at hd
        simp only [typO] at hd
        have f1 : @Ne Nat G2.d _ := off _ ho
        dsimp only at f1
        obtain ⟨rest, hr⟩ : ∃ rest, rest = news₁.filter (fun p => !decide (p.1 = G2.d)) := ⟨_, rfl⟩
        have hr1 : ∀ p ∈ rest, p.1 ≠ G2.d := fun p hp => by rw [hr] at hp; simpa using (List.mem_filter.mp hp).2
        have hr2 : ∀ p ∈ rest, p ∈ news₁ := fun p hp => by rw [hr] at hp; exact (List.mem_filter.mp hp).1
        have hr3 : ∀ p ∈ news₁, p.1 ≠ G2.d → p ∈ rest := fun p hp q => by rw [hr]; exact List.mem_filter.mpr ⟨hp, by simpa using q⟩
        have hoc : o.cls = .type "dict" := by obtain ⟨es, epp, he, _⟩ := hd; exact he.1
        have hr4 : ∀ x l k, (x, ({ cls := .type "tuple", data := .seq (l : List Value).toArray k } : Obj)) ∈ news₁ → x ≠ G2.d := fun x l k hx q => by
          have h1 := (N₁ _ (.tail _ hx)).1
          have h2 := (N₁ _ (.tail _ ho)).1
          dsimp only at h1 h2
          rw [q, h2] at h1
          cases h1; exact absurd (Value.type.inj hoc) (by decide)
        have N2 : News g L h ((_, oi) :: (G2.d, o) :: rest) := fun p hp => by
          rcases List.mem_cons.mp hp with rfl | hp
          · exact N₁ _ (.head _)
          · rcases List.mem_cons.mp hp with rfl | hp
            · exact N₁ _ (.tail _ ho)
            · exact N₁ _ (.tail _ (hr2 p hp))
        clear N₁ hr same
        k_steps
        (with_reducible rename Fr _ _ _ _ => F2); (with_reducible rename News _ _ _ _ => N2)
        rename_i x _ _ _ l1 _ o' dO
        have dn : ∀ G ∈ Gs, G.d = G2.d → G = G2 := fun G3 hm3 q => inj G3 hm3 G2 hm q
        have D2 : DfG G2 (some (x, .i32)) := .inr ⟨hn, htv, x, rfl⟩
        refine ⟨_, _, _, _, rfl, F2, news_swap N2, ⟨_, rfl⟩, .tail _ (.tail _ (hr3 _ hmK (fun q => dneK G2 hm q.symm))), (fun p hp => ?_), (fun a => if a = G2.d then some (x, .i32) else T0 a), (fun G3 hm3 => ?_), (fun j G3 hj hg => ?_)⟩
        · rcases List.mem_cons.mp hp with rfl | hp
          · exact Nat.ne_of_gt l1.1
          · rcases List.mem_cons.mp hp with rfl | hp
            · exact f1
            · exact off _ (hr2 _ hp)
        · by_cases q3 : G3.d = G2.d
          · obtain rfl := dn G3 hm3 q3
            simp only [if_true]
            refine ⟨⟨o', .tail _ (.head _), hn ▸ dO⟩, .inr D2, fun y t e => ?_⟩
            cases e
            exact .inr ⟨_, _, .head _, _, _, rfl⟩
          · simp only [q3, if_false]
            obtain ⟨⟨o3, ho3, hd3⟩, hb3, hc3⟩ := hT0 G3 hm3
            refine ⟨⟨o3, .tail _ (.tail _ (hr3 _ ho3 q3)), hd3⟩, hb3, fun y t e => ?_⟩
            rcases hc3 y t e with h | ⟨l, k, h1, h2⟩
            · exact .inl h
            · exact .inr ⟨l, k, .tail _ (.tail _ (hr3 _ h1 (hr4 _ _ _ h1))), h2⟩
        · by_cases q3 : G3.d = G2.d
          · obtain rfl := dn G3 (List.mem_of_getElem? hg) q3
            simp only [if_true]; exact D2
          · simp only [q3, if_false]
            rcases Nat.lt_succ_iff_lt_or_eq.mp hj with hj | rfl
            · exact hT1 j G3 hj hg
            · rw [hGi] at hg; cases hg; exact absurd rfl q3
  · rintro _ news₁ h tk ⟨⟨u, rfl⟩, hmK, off, T0, hT0, hT1⟩ F₁ N₁
    clear F1 N1
    k_steps
    (with_reducible rename Fr _ _ _ _ => F2); (with_reducible rename News _ _ _ _ => N2)
    have st2 : ∀ b o, g₀.get? b = some o → _ := fun b o e => F2.keep b o (stg b o e)
    refine told_call (g₀ := g₀) (its := its') (σ := dfl 6 σ) (Gs := Gs.map fun G => { G with tv := T0 G.d }) F2 N2 st2 G' I' ⟨_, (N2 _ (.tail _ hmK)).1, rfl, _, rfl⟩ (K1.keeps st2) ?_ ?_ ?_ rfl (Nat.le_of_ble_eq_true rfl) (Nat.le_of_ble_eq_true rfl) fun h' tk' F3 _ => ?_
    · rw [List.map_map]
      exact hG'.at fun o e => st2 _ _ e
    · intro G3 hm3
      obtain ⟨G2, hm, rfl⟩ := List.mem_map.mp hm3
      obtain ⟨⟨o, ho, hd⟩, hb, hc⟩ := hT0 G2 hm
      refine ⟨Heap.dictOf_iff.mpr ⟨o, (N2 _ (.tail _ ho)).1, ?_⟩, (hL G2 hm).at fun o e => st2 _ _ e, (hR G2 hm).keeps st2, fun x t e => ?_⟩
      · rw [typ_is]; exact hd
      · rcases hc x t e with h | ⟨l, k, h1, h2⟩
        · exact h.keeps st2
        · exact ⟨l, ⟨_, (N2 _ (.tail _ h1)).1, rfl, _, rfl⟩, h2⟩
    · intro G3 hm3
      obtain ⟨G2, hm, rfl⟩ := List.mem_map.mp hm3
      obtain ⟨r, hr⟩ := hT G2 hm
      obtain ⟨j, hj⟩ := List.getElem?_of_mem hm
      exact ⟨_, hr.dfl (hTk G2 hm) (hT1 j G2 (by rw [List.length_map]; exact (List.getElem?_eq_some_iff.mp hj).1) hj)⟩
    · refine hQ _ _ fun b o e h1 h2 => F3.keep _ _ (gu b o e fun hm => ?_)
      rcases List.mem_cons.mp hm with q | hm
      · exact h1 q
      · obtain ⟨p, hp, rfl⟩ := List.mem_map.mp hm
        obtain ⟨_, G', hG', q⟩ := hds p hp
        exact h2 G' hG' q
end PartS22
section PartS23
/-! a ledger's tail: what was made, and is turned no more -/
def SubH (g : Heap) (imm : List (Addr × Obj)) (g' : Heap) : Prop := ∀ b o, g'.get? b = some o → g.get? b = some o ∨ (b, o) ∈ imm
theorem SubH.stays {g g' h : Heap} {L : Addr} {m : Str → Option Value} {imm news : List (Addr × Obj)} (S : SubH g imm g') (F : Fr g L h m) (N : News g L h news) (hs : ∀ p ∈ imm, p ∈ news) : g'.StaysIn h := fun b o e => by
  rcases S b o e with q | q
  · exact F.keep b o q
  · exact (N _ (hs _ q)).1
/-- all that stands beside the frame and the objects that are turned -/
theorem rebase {g h : Heap} {L : Addr} {m : Str → Option Value} (F : Fr g L h m) (muts : List (Addr × Obj)) (N : News g L h muts) :
    ∃ imm, News g L h (muts ++ imm) ∧ (∀ p ∈ imm, p.1 ∉ muts.map (·.1)) ∧ SubH g imm (hideAll h (L :: muts.map (·.1))) := by
  refine ⟨(List.range h.objs.size).filterMap (fun b => if b = L ∨ b ∈ muts.map (·.1) ∨ (g.get? b).isSome = true then none else (h.get? b).map fun o => (b, o)), fun p hp => ?_, fun p hp => ?_, fun b o e => ?_⟩
  · rcases List.mem_append.mp hp with hp | hp
    · exact N p hp
    · obtain ⟨b, _, hb⟩ := List.mem_filterMap.mp hp
      split at hb
      · cases hb
      · rename_i hn
        obtain ⟨o, ho, rfl⟩ := Option.map_eq_some_iff.mp hb
        refine ⟨ho, fun q => hn (.inl q), ?_⟩
        cases q : g.get? b with
        | none => rfl
        | some o' => exact absurd (.inr (.inr (by rw [q]; rfl))) hn
  · obtain ⟨b, _, hb⟩ := List.mem_filterMap.mp hp
    split at hb
    · cases hb
    · rename_i hn
      obtain ⟨o, ho, rfl⟩ := Option.map_eq_some_iff.mp hb
      exact fun q => hn (.inr (.inl q))
  · have e' := of_hideAll _ e
    have hn : b ∉ L :: muts.map (·.1) := fun hm => by rw [hideAll_none _ hm] at e; cases e
    cases q : g.get? b with
    | some o' => have := F.keep b o' q; rw [e'] at this; cases this; exact .inl rfl
    | none =>
      refine .inr (List.mem_filterMap.mpr ⟨b, List.mem_range.mpr (Heap.lt_size e'), ?_⟩)
      rw [if_neg (by
        rintro (h1 | h1 | h1)
        · exact hn (h1 ▸ .head _)
        · exact hn (.tail _ h1)
        · rw [q] at h1; cases h1), e']
      rfl
theorem hide_stays {h : Heap} {S : List Addr} : (hideAll h S).StaysIn h := fun _ _ e => of_hideAll _ e
theorem fr_at {g h h' : Heap} {L : Addr} {m : Str → Option Value} (F : Fr g L h m) (n : h'.Ns L m) (k : ∀ b o, g.get? b = some o → h'.get? b = some o) : Fr g L h' m := ⟨n, k, F.above⟩
theorem funFrames_at {h h' g g' : Heap} : ∀ {l : List Env}, h.FunFrames g l → (∀ a ∈ l.filterMap (·.frame), g'.get? a = none ∧ ∀ o, h.get? a = some o → h'.get? a = some o) → h'.FunFrames g' l
  | [], _, _ => trivial
  | env :: l, ⟨h1, ⟨L, o, hL, _, hg, hf⟩, r⟩, k => by
    have hm : L ∈ (env :: l).filterMap (·.frame) := List.mem_filterMap.mpr ⟨env, .head _, hL⟩
    exact ⟨h1, ⟨L, o, hL, (k L hm).1, (k L hm).2 o hg, hf⟩, funFrames_at r fun a ha => k a (by
      obtain ⟨e, he, q⟩ := List.mem_filterMap.mp ha
      exact List.mem_filterMap.mpr ⟨e, .tail _ he, q⟩)⟩
section
variable {prog : Program} {w : World} {mg mb : Str → Option Value} {A : Around} {s : Shared} {g g₀ : Heap} {L : Addr} {m : Str → Option Value} {news : List (Addr × Obj)} {aF aK aN a b : Addr} {its : List Value} {n₁ n₂ ep : Nat} {σ : Nat → Option Ty} {t₁ t₂ r₁ r₂ : Ty} {o : Option (Nat × Ty)} {Q E : Value → Shared → Prop} {gf : Obj → List (Addr × Obj)} {env : Env} {outer : List Env}
/-- two are made one -/
theorem yes_call (F : Fr g L s.heap m) (N : News g L s.heap news) (U : UpdF aK (W.listOf its.toArray ep) news gf) (st : g₀.StaysIn s.heap) (hK : g₀.get? aK = none) (G : G0 w mg mb g₀) (I : InfAt g₀ aF aK aN) (Kn : Known g₀ its σ) (ha : Rep g₀ a t₁) (hb : Rep g₀ b t₂) (hr₁ : RootN σ n₁ t₁ r₁) (hr₂ : RootN σ n₂ t₂ r₂) (ho : unifyTo r₁ r₂ = some o)
    (hh : A.handled = none) (hd : A.depth ≤ 650) (hu : A.units ≤ 650)
    (hQ : ∀ h' tk' ep' its', Turned g₀ o its its' → Fr g L h' m → News g L h' (gf (W.listOf its'.toArray ep')) → (∀ b o, b ≠ aK → s.heap.get? b = some o → h'.get? b = some o) → Q (.bool true) { s with heap := h', toks := tk' }) :
    wpAny (model prog w) A (PySem.call (.ref 210) [.ref aF, .ref a, .ref b]) Q E s := by
  obtain ⟨pre, post, e, _, _, _⟩ := U.split
  have z := N (aK, W.listOf its.toArray ep) (by rw [e]; exact List.mem_append.mpr (.inr (.head _)))
  refine lift (made_yes st G I z.1 hK Kn ha hb hr₁ hr₂ ho fun h' tk' ep' its' T e' kk => ?_) hh hd hu
  obtain ⟨F', N'⟩ := turn_one F N U e' kk
  exact hQ h' tk' ep' its' T F' N' kk
/-- two are not made one -/
theorem no_call (F : Fr g L s.heap m) (N : News g L s.heap news) (hFo : s.heap.FunFrames g outer) (hn : ∀ p ∈ news, p.1 ∉ outer.filterMap (·.frame)) (Gg : G0 w mg mb g) (st : g₀.StaysIn s.heap) (I : InfAt g₀ aF aK aN) (hK : s.heap.IsList aK its.toArray) (Kn : Known g₀ its σ) (ha : Rep g₀ a t₁) (hb : Rep g₀ b t₂) (hr₁ : RootN σ n₁ t₁ r₁) (hr₂ : RootN σ n₂ t₂ r₂) (ho : unifyTo r₁ r₂ = none)
    (hh : A.handled = none) (hf : A.frames = some (env :: outer)) (hL : env.frame = some L) (hk : env.scope.kind = .function) (hd : A.depth ≤ 550) (hu : A.units ≤ 550)
    (hQ : ∀ h' tk', Fr g L h' m → News g L h' news → (∀ b o, s.heap.get? b = some o → b ≠ L → b ∉ outer.filterMap (·.frame) → h'.get? b = some o) → Q (.bool false) { s with heap := h', toks := tk' }) :
    wpAny (model prog w) A (PySem.call (.ref 210) [.ref aF, .ref a, .ref b]) Q E s := by
  have hgL : g.get? L = none := Heap.get?_none_of_le F.above
  have FF : s.heap.FunFrames g (env :: outer) := Heap.FunFrames.cons (by rw [hk]; decide) hL F.ns hgL hFo
  have fe : ∀ b, b ∈ (env :: outer).filterMap (·.frame) → b = L ∨ b ∈ outer.filterMap (·.frame) := fun b hb => by
    obtain ⟨e, he, q⟩ := List.mem_filterMap.mp hb
    rcases List.mem_cons.mp he with rfl | he
    · rw [hL] at q; exact .inl (Option.some.inj q).symm
    · exact .inr (List.mem_filterMap.mpr ⟨e, he, q⟩)
  refine liftF (made_no Gg F.keep (I.keeps st) hK (Kn.keeps st) (ha.keeps st) (hb.keeps st) hr₁ hr₂ ho FF fun h' tk' u kk => ?_) hh hf hd hu
  have kk' : ∀ b o, s.heap.get? b = some o → b ≠ L → b ∉ outer.filterMap (·.frame) → h'.get? b = some o := fun b o e h1 h2 => kk b o e fun hm => (fe b hm).elim h1 h2
  refine hQ h' tk' (fr_at F (u.ns F.ns) fun b o e => kk' b o (F.keep b o e) (fun q => by rw [q, hgL] at e; cases e) fun hm => by rw [(hFo.mem hm).1] at e; cases e) (fun p hp => ⟨kk' _ _ (N p hp).1 (N p hp).2.1 (hn p hp), (N p hp).2⟩) kk'
theorem begun_call (F : Fr g L s.heap m) (N : News g L s.heap news) (G : G0 w mg mb g) (hh : A.handled = none) (hd : A.depth ≤ 700) (hu : A.units ≤ 700)
    (k : ∀ T aF aK aN aS vs ep imm g' h' tk', Fr g L h' m → News g L h' ((aK, W.listOf noneK.toArray ep) :: news ++ imm) → (∀ p ∈ imm, p.1 ∉ aK :: news.map (·.1)) → aK ∉ news.map (·.1) → aS ≠ aK →
      SubH g imm g' → g.StaysIn g' → (∀ p ∈ imm, g'.get? p.1 = some p.2) → g'.get? L = none → g'.get? aK = none → (∀ p ∈ news, g'.get? p.1 = none) → BegunAt g' T aF aK aN aS vs → (∀ b o, s.heap.get? b = some o → h'.get? b = some o) → Q (.ref T) { s with heap := h', toks := tk' }) :
    wpAny (model prog w) A (PySem.call (.ref 191) []) Q E s := by
  refine lift (wpAny_mono (begun_run (G.keeps F.keep)) (fun v s' hv => ?_) fun _ _ e => e) hh hd hu
  obtain ⟨T, aF, aK, aN, aS, vs, ep, rfl, ⟨h', tk', rfl, st⟩, B, eK, nK, hne⟩ := hv
  dsimp only at B eK
  have gK : g.get? aK = none := by
    cases e : g.get? aK with
    | none => rfl
    | some o => rw [F.keep _ _ e] at nK; cases nK
  have KL : aK ≠ L := fun q => by obtain ⟨o, _, _, e, _⟩ := F.ns; rw [← q, nK] at e; cases e
  have F' := fr_grow F st
  have N' : News g L h' ((aK, W.listOf noneK.toArray ep) :: news) := news_more F N st eK nK
  have Kn : aK ∉ news.map (·.1) := fun hm => by
    obtain ⟨p, hp, q⟩ := List.mem_map.mp hm
    have := (N p hp).1; rw [q, nK] at this; cases this
  obtain ⟨imm, N2, off, SB⟩ := rebase F' _ N'
  refine k T aF aK aN aS vs ep imm _ h' tk' F' N2 off Kn hne SB ?_ ?_ (hideAll_none _ (.head _)) (hideAll_none _ (.tail _ (.head _))) (fun p hp => hideAll_none _ (.tail _ (.tail _ (List.mem_map_of_mem hp)))) (B _ ?_) st
  · intro b o e
    refine hideAll_get _ (F'.keep b o e) fun hm => ?_
    rcases List.mem_cons.mp hm with rfl | hm
    · rw [Heap.get?_none_of_le F.above] at e; cases e
    · obtain ⟨p, hp, rfl⟩ := List.mem_map.mp hm
      rw [(N' p hp).2.2] at e; cases e
  · intro p hp
    have z := N2 p (List.mem_append_right _ hp)
    refine hideAll_get _ z.1 fun hm => ?_
    rcases List.mem_cons.mp hm with q | hm
    · exact z.2.1 q
    · exact off p hp hm
  · intro d hd
    rcases List.mem_cons.mp hd with rfl | hd
    · obtain ⟨o, _, _, e, _⟩ := F.ns; exact .inr (by rw [e]; exact fun q => nomatch q)
    · rcases List.mem_cons.mp hd with rfl | hd
      · exact .inl rfl
      · obtain ⟨p, hp, rfl⟩ := List.mem_map.mp hd
        exact .inr (by rw [(N p hp).1]; exact fun q => nomatch q)
theorem res_call {n : Nat} {t r : Ty} (F : Fr g L s.heap m) (N : News g L s.heap news) (st : g₀.StaysIn s.heap) (G : G0 w mg mb g₀) (I : InfAt g₀ aF aK aN) (hK : s.heap.IsList aK its.toArray) (Kn : Known g₀ its σ) (ha : Rep g₀ a t) (hr : RootN σ n t r)
    (hh : A.handled = none) (hd : A.depth ≤ 800) (hu : A.units ≤ 800)
    (k : ∀ b h' tk', Fr g L h' m → News g L h' news → Rep g₀ b r → Q (.ref b) { s with heap := h', toks := tk' }) :
    wpAny (model prog w) A (PySem.call (.ref 114) [.ref aF, .ref a]) Q E s :=
  lift (resolved_spec st G I hK Kn ha hr fun b h' tk' x rb => k b h' tk' (fr_grow F x) (news_grow N x) rb) hh hd hu
end
section
variable {prog : Program} {w : World} {A : Around} {s : Shared} {g g' : Heap} {L a b x : Addr} {m : Str → Option Value} {imm news : List (Addr × Obj)} {t r : Ty} {Q E : Value → Shared → Prop}
theorem isl_sub {l : Array Value} (S : SubH g imm g') (hl : g'.IsList a l) (F : Fr g L s.heap m) (N : News g L s.heap news) (hs : ∀ p ∈ imm, p ∈ news) : s.heap.IsList a l := hl.at fun o e => S.stays F N hs _ _ e
theorem eq_sub (S : SubH g imm g') (F : Fr g L s.heap m) (N : News g L s.heap news) (hs : ∀ p ∈ imm, p ∈ news) (ha : Rep g' a t) (hb : Rep g' b t) (hu : A.units ≤ 1200) (h : Q (.bool true) s) : wpAny (model prog w) A (compareOp .Eq (.ref a) (.ref b)) Q E s :=
  eq_rep (ha.keeps (S.stays F N hs)) (hb.keeps (S.stays F N hs)) (by have : cLine = 9900 := rfl; omega) (by rw [decide_eq_true rfl]; exact h)
theorem item_intvar {value slice : PySem.Expr} {n : Nat} {u : Tok} (S : SubH g imm g') (F : Fr g L s.heap m) (N : News g L s.heap news) (hs : ∀ p ∈ imm, p ∈ news) (R : Rep g' x (.v n)) (hn : n % 2 = 1) (h : ∀ tk, Q (.str "intvar" tk) s)
    (hs' : subscripted slice false (.ref x) (.int 0 u) = operate [.ref x, .int 0 u] (getItem (.ref x) (.int 0 u)) := by with_unfolding_all rfl) :
    wpAny (model prog w) A (subscriptTail value slice (.ref x) (.int 0 u)) Q E s := by
  obtain ⟨l, e, tk, u', rfl⟩ := R.keeps (S.stays F N hs)
  rw [show varName n = "intvar" from if_pos hn] at e
  exact item_tupleT e (by decide) (by decide) rfl rfl (h tk) hs'
end
end PartS23
section PartS24
theorem rowsS24_0 : True := by
  k_with_none
  k_with "mine enter" => (
    (case ho => k_is); (case hcd => k_is); (case hroom => exact Nat.le_of_ble_eq_true rfl)
    (case hbind => first | exact binds_K (by k_in) rfl (by k_is) rfl rfl rfl | exact BindsTo.of_eq rfl)
    (case hloc => exact locs rfl)
    (case c1 => decide); (case c2 => rfl); (case c3 => rfl); (case c4 => rfl))
  k_with "mine enterC" => (
    (case ho => k_is); (case hcd => k_is); (case hroom => exact Nat.le_of_ble_eq_true rfl)
    (case hbind => first | exact binds_K (by k_in) rfl (by k_is) rfl rfl rfl | exact BindsTo.of_eq rfl)
    (case hkind => exact rfl); (case hnd => decide +kernel)
    (case c2 => rfl); (case c3 => rfl); (case c4 => rfl))
  k_with "mine le" => (exact Nat.le_of_ble_eq_true rfl)
  k_with "subscriptTail" => (k_here; (with_reducible show wpAny _ _ (subscriptTail _ _ (Value.ref _) (Value.int _ _)) _ _ _); k_dflt (refine item_tupleT (by is_tup) (by decide) (by decide) (by rfl) (by rfl) ?_; k_whole))
  k_with "k_inst" => (exact InstAt.keepsB (by assumption) (Fr.keep (by assumption)))
  k_with "mine around" => ((case hh => rfl); (case hd => exact Nat.le_of_ble_eq_true rfl); (case hu => exact Nat.le_of_ble_eq_true rfl))
  k_with "mine sub" => (first | assumption | exact sub_self | exact sub_nil | (refine sub_tail ?_; walk_at "mine sub"))
  k_with "k_all" => (assumption)
  k_with "call ref" => (k_here; (with_reducible show wpAny _ _ (PySem.call (Value.ref 191) _) _ _ _); k_dflt (refine begun_call (by k_asm) (by k_asm) (by assumption) (by rfl) (by walk_at "mine le") (by walk_at "mine le") ?_; k_whole); refine stop ?_)
  k_with "call ref" => (k_here; (with_reducible show wpAny _ _ (PySem.call (Value.ref 210) _) _ _ _); refine stop ?_)
  k_with "call ref" => (k_here; (with_reducible show wpAny _ _ (PySem.call (Value.ref 114) _) _ _ _); k_dflt (refine res_call (by k_asm) (by k_asm) (by exact SubH.stays (by assumption) (by k_asm) (by k_asm) (by walk_at "mine sub")) (by assumption) (by assumption) (by is_list) (by assumption) (by assumption) (by assumption) (by rfl) (by walk_at "mine le") (by walk_at "mine le") ?_; k_whole); intro _ _ _ _ _ _)
  k_with "subscriptTail" => (k_here; (with_reducible show wpAny _ _ (subscriptTail _ _ (Value.ref _) (Value.int _ _)) _ _ _); k_dflt (refine item_listB (by exact isl_sub (by assumption) (by assumption) (by k_asm) (by k_asm) (by walk_at "mine sub")) (by decide) (by decide) (by rfl) ?_ (by with_unfolding_all rfl); k_whole))
  k_with "subscriptTail" => (k_here; (with_reducible show wpAny _ _ (subscriptTail _ _ (Value.ref _) (Value.int 0 _)) _ _ _); k_dflt (refine item_intvar (by assumption) (by k_asm) (by k_asm) (by walk_at "mine sub") (by assumption) (by decide) ?_ (by with_unfolding_all rfl); k_whole); intro _)
  k_with "compareOp Eq ref ref" => (k_here; (with_reducible show wpAny _ _ (compareOp CmpOp.Eq (Value.ref _) (Value.ref _)) _ _ _); k_dflt (refine eq_sub (by assumption) (by k_asm) (by k_asm) (by walk_at "mine sub") (by assumption) (by assumption) (by walk_at "mine le") ?_; k_whole))
  k_with "k_inst" => (exact InstAt.keepsB (by assumption) (SubH.stays (by assumption) (by k_asm) (by k_asm) (by walk_at "mine sub")))
  trivial
theorem known_none {h : Heap} : Known h noneK (fun _ => none) := ⟨rfl, fun i hi => ⟨.none, by
  have : i = 0 ∨ i = 1 ∨ i = 2 ∨ i = 3 ∨ i = 4 ∨ i = 5 := by omega
  rcases this with rfl | rfl | rfl | rfl | rfl | rfl <;> rfl, rfl⟩⟩
theorem fixed_spec {prog : Program} {w : World} {mg mb : Str → Option Value} {s : Shared} {g₀ : Heap} (G : G0 w mg mb g₀) (st : g₀.StaysIn s.heap) {outer : List Env} (hFF : s.heap.FunFrames g₀ outer) {Q E : Value → Shared → Prop}
    (hQ : ∀ h' tk', (∀ b o, s.heap.get? b = some o → b ∉ outer.filterMap (·.frame) → h'.get? b = some o) → Q (.bool true) { s with heap := h', toks := tk' }) :
    wpAny (model prog w) (AF 530 outer) (PySem.call (.ref 229) []) Q E s := by
  obtain ⟨ms, hms, hmf⟩ : ∃ ms : List (Addr × Obj), (∀ p ∈ ms, s.heap.get? p.1 = some p.2 ∧ p.1 ∈ outer.filterMap (·.frame)) ∧ ∀ a ∈ outer.filterMap (·.frame), ∃ o, (a, o) ∈ ms := by
    refine ⟨(outer.filterMap (·.frame)).filterMap fun a => (s.heap.get? a).map fun o => (a, o), fun p hp => ?_, fun a ha => ?_⟩
    · obtain ⟨a, ha, hb⟩ := List.mem_filterMap.mp hp
      obtain ⟨o, ho, rfl⟩ := Option.map_eq_some_iff.mp hb
      exact ⟨ho, ha⟩
    · obtain ⟨_, o, ho, _⟩ := hFF.mem ha
      exact ⟨o, List.mem_filterMap.mpr ⟨a, ha, by rw [ho]; rfl⟩⟩
  refine wpAny_call ?_
  have KX := G.X
  refine' enter ms G.X st ?hm G.T.nolimit ?ho ?hcd ?hroom ?hbind ?hloc ?_ ?c1 ?c2 ?c3 ?c4
  case hm => exact fun p hp => ⟨(hms p hp).1, (hFF.mem (hms p hp).2).1⟩
  walk_at "mine enter"
  intro g L h₁ stg gd gu F N KX'
  have G' := G.keeps stg
  have T := G'.T
  clear KX
  k_steps
  intro T1 aF aK aN aS vs ep imm g' h' tk' F1 N1 off offK neS SB sg ig nL nK nN B fwd
  obtain ⟨BT, BI, BN, BS, BR⟩ := B
  have GG := G'.keeps sg
  obtain ⟨rest, hrest⟩ : ∃ rest, rest = ms ++ imm := ⟨_, rfl⟩
  rw [List.cons_append, ← hrest] at N1
  have hi : ∀ p ∈ imm, p ∈ rest := fun p hp => hrest ▸ List.mem_append_right _ hp
  have hms' : ∀ p ∈ ms, p ∈ rest := fun p hp => hrest ▸ List.mem_append_left _ hp
  have hk : ∀ p ∈ rest, p.1 ≠ aK := fun p hp => by
    rw [hrest] at hp
    rcases List.mem_append.mp hp with hp | hp
    · exact fun q => offK (q ▸ List.mem_map_of_mem hp)
    · exact fun q => off p hp (q ▸ .head _)
  clear hrest F N
  have BT' := isTup_keeps BT (SB.stays F1 N1 (sub_tail hi))
  obtain ⟨a0, a1, a2, a3, a4, a5, rfl, r0, r1⟩ : ∃ a0 a1 a2 a3 a4 a5, vs = [Value.ref a0, .ref a1, .ref a2, .ref a3, .ref a4, .ref a5] ∧ Rep g' a0 (.v 0) ∧ Rep g' a1 (.v 1) := by
    cases BR with | cons r0 BR => cases BR with | cons r1 BR => cases BR with | cons r2 BR => cases BR with | cons r3 BR => cases BR with | cons r4 BR => cases BR with | cons r5 BR => cases BR; exact ⟨_, _, _, _, _, _, rfl, r0, r1⟩
  have BS' : g'.IsList aS [Value.ref a0, .ref a1, .ref a2, .ref a3, .ref a4, .ref a5].toArray := by obtain ⟨n, e⟩ := BS; exact ⟨_, e, rfl, n, rfl⟩
  obtain ⟨dF, e1, e2, t1, t2, I2⟩ := id BI
  k_steps
  (with_reducible rename Fr _ _ _ _ => F2); (with_reducible rename News _ _ _ _ => N2)
  refine yes_call (g₀ := g') (o := some (0, .v 1)) F2 N2 (by k_updF) (SB.stays F2 N2 (sub_tail hi)) nK GG BI known_none r1 r0 (RootN.stop (n := 0) (by decide) rfl) (RootN.stop (n := 0) (by decide) rfl) rfl rfl (Nat.le_of_ble_eq_true rfl) (Nat.le_of_ble_eq_true rfl) ?_
  rintro h2 tk2 ep2 _ ⟨ad, Rad, rfl⟩ F3 N3 _
  clear F2 N2

  have K2 := (known_none (h := g')).set (k := 0) (by decide) Rad
  have hr0 : RootN (updS (fun _ => none) 0 (.v 1)) 1 (.v 0) (.v 1) := .step (t := .v 1) (by decide) rfl (.stop (by decide) rfl)
  have hr1 : RootN (updS (fun _ => none) 0 (.v 1)) 1 (.v 1) (.v 1) := .stop (by decide) rfl
  k_steps
  (with_reducible rename Fr _ _ _ _ => F4); (with_reducible rename News _ _ _ _ => N4)
  have st4 := SB.stays F4 N4 (sub_tail (sub_tail hi))
  have N5 : News g L _ ((aK, W.listOf (noneK.set 0 (Value.ref ad)).toArray ep2) :: imm) := fun p hp => by
    rcases List.mem_cons.mp hp with rfl | hp
    · exact N4 _ (.tail _ (.head _))
    · exact N4 _ (.tail _ (.tail _ (hi _ hp)))
  have frs : ∀ a ∈ outer.filterMap (·.frame), a ∈ ms.map (·.1) := fun a ha => let ⟨o, hm⟩ := hmf a ha; List.mem_map_of_mem (f := (·.1)) hm
  have RB : Rep _ _ .bool := ⟨_, ⟨_, (N4 _ (.head _)).1, rfl, _, rfl⟩, _, rfl⟩
  refine no_call (g₀ := _) F4 N5 (outer := outer) (funFrames_at hFF fun a ha => ?_) (fun p hp hf => ?_) G' (fun b o e => e) (BI.keeps st4) ⟨_, (N5 _ (.head _)).1, rfl, _, rfl⟩ (K2.keeps st4) (r0.keeps st4) RB hr0 (RootN.base (n := 0) (t := .bool) (fun i e => nomatch e)) rfl rfl rfl rfl rfl (Nat.le_of_ble_eq_true rfl) (Nat.le_of_ble_eq_true rfl) ?_
  · obtain ⟨o', hm⟩ := hmf a ha
    have z := N4 _ (.tail _ (.tail _ (hms' _ hm)))
    exact ⟨z.2.2, fun o ho => by have := (hms _ hm).1; dsimp only at this; rw [this] at ho; cases ho; exact z.1⟩
  · rcases List.mem_cons.mp hp with rfl | hp
    · exact offK (frs _ hf)
    · exact off p hp (.tail _ (frs _ hf))
  intro h5 tk5 F5 N6 _
  clear F4 N4 N5
  k_steps
  (with_reducible rename Fr _ _ _ _ => F9)
  rw [show (Str.ofString "intvar" == Str.ofString "intvar") = true from by decide]
  refine hQ _ _ fun b o e hb => F9.keep _ _ (gu b o e fun hm => hb ?_)
  obtain ⟨p, hp, rfl⟩ := List.mem_map.mp hm
  exact (hms p hp).2
end PartS24
section PartS25a
section
variable {prog : Program} {w : World} {A : Around} {E : Value → Shared → Prop} {s : Shared} {env : Env} {g : Heap} {target : PySem.Expr} {body : List Stmt} {Q : Flow → Shared → Prop}
/-- a loop over a list, whatever its target -/
theorem For_listT {l : Addr} {vs : List Value} {m₀ : Str → Option Value} {news : List (Addr × Obj)} (J : Nat → (Str → Option Value) → List (Addr × Obj) → Prop)
    (hh : A.handled = none) (hls : s.heap.IsList l vs.toArray) (F : Fr g env.locals s.heap m₀) (N : News g env.locals s.heap news) (hj : J 0 m₀ news)
    (hji : ∀ i m₁ news₁, J i m₁ news₁ → ∀ p ∈ news₁, p.1 ≠ s.heap.objs.size)
    (hl : ∃ o, ∀ i m₁ news₁ h, J i m₁ news₁ → (∃ m, Fr g env.locals h m) → News g env.locals h news₁ → h.get? l = some o)
    (turn : ∀ i v m₁ news₁ h tk oi, vs[i]? = some v → J i m₁ news₁ → Fr g env.locals h m₁ → News g env.locals h ((s.heap.objs.size, oi) :: news₁) → (∃ i, h.IsListIter s.heap.objs.size l i) →
      wpAny (model prog w) A (letOwnedTupleGo target (.ref s.heap.objs.size) v) (fun _ s₁ => wpAny (model prog w) A (assign target env v) (fun _ s₂ => wpAny (model prog w) A (execs body env) (ForStep g env.locals s s.heap.objs.size oi (J (i + 1)) Q) No s₂) No s₁) No { s with heap := h, toks := tk })
    (done : ∀ m₁ news₁ h tk, J vs.length m₁ news₁ → Fr g env.locals h m₁ → News g env.locals h news₁ → Q .next { s with heap := h, toks := tk }) :
    wpAny (model prog w) A (pyIter (.ref l)) (fun itv s₂ => codeAny (model prog w) A (.forLoop target itv body [] env) (fun r s' => match r with | .ok f => Q f s' | .error e => cameBackBy (model prog w) A env E e s') s₂) E s := by
  obtain ⟨ol, hol, _⟩ := id hls
  have hne : l ≠ s.heap.objs.size := Nat.ne_of_lt (Heap.lt_size hol)
  refine wpAny_pyIter_list hls ?_
  have W := Walks.list (prog := prog) (w := w) hh s.heap.objs.size l hne vs.toArray
  have hgi := next_is_new F
  have hiL : s.heap.objs.size ≠ env.locals := Nat.ne_of_gt F.ns.lt
  have F' : Fr g env.locals (s.heap.push { cls := .type "list_iterator", data := .fields #[.ref l, .int 0 0] }) m₀ := F.push _
  have N' : News g env.locals (s.heap.push { cls := .type "list_iterator", data := .fields #[.ref l, .int 0 0] }) news := fun p hp => ⟨Heap.get?_push_of_some _ (N p hp).1, (N p hp).2⟩
  let I : Nat → Shared → Prop := fun k s' => ∃ i h tk m₁ news₁, k = vs.toArray.size - i ∧ i ≤ vs.toArray.size ∧ s' = { s with heap := h, toks := tk } ∧ (h.IsListIter s.heap.objs.size l i ∧ h.IsList l vs.toArray) ∧ Fr g env.locals h m₁ ∧ News g env.locals h news₁ ∧ J i m₁ news₁
  refine codeAny_forLoop_any I ?_ vs.toArray.size ⟨0, _, _, m₀, news, rfl, Nat.zero_le _, rfl, ⟨⟨_, Heap.get?_push_size _ rfl, rfl, rfl⟩, hls.at fun o e => Heap.get?_push_of_some _ e⟩, F', N', hj⟩
  rintro k s' ⟨i, h, tk, m₁, news₁, rfl, hi, rfl, st, F₁, N₁, hJ₁⟩
  have keepF : ∀ {h₂ : Heap}, (∀ b o, b ∉ [s.heap.objs.size] → h.get? b = some o → h₂.get? b = some o) → Fr g env.locals h₂ m₁ ∧ News g env.locals h₂ news₁ := fun k₂ =>
    ⟨⟨F₁.ns.at' fun o e => k₂ _ o (by simpa using hiL.symm) e, fun b o e => k₂ b o (fun hm => by rw [List.mem_singleton.mp hm, hgi] at e; cases e) (F₁.keep b o e), F₁.above⟩,
      fun p hp => ⟨k₂ _ _ (by simpa using hji _ _ _ hJ₁ p hp) (N₁ p hp).1, (N₁ p hp).2⟩⟩
  rcases Nat.lt_or_ge i vs.toArray.size with hlt | hge
  · refine W.item i _ _ _ hlt st fun v h₂ tk₂ hv st₂ k₂ => ?_
    obtain ⟨F₂, N₂⟩ := keepF k₂
    obtain ⟨oi, hoi, _⟩ := id st₂.1
    have N₃ : News g env.locals h₂ ((s.heap.objs.size, oi) :: news₁) := fun p hp => by
      rcases List.mem_cons.mp hp with rfl | hp
      · exact ⟨hoi, hiL, hgi⟩
      · exact N₂ p hp
    have fin : ∀ s₃, (∃ h' tk m' news', s₃ = { s with heap := h', toks := tk } ∧ Fr g env.locals h' m' ∧ News g env.locals h' ((s.heap.objs.size, oi) :: news') ∧ J (i + 1) m' news') → ∃ m, m < vs.toArray.size - i ∧ I m s₃ := by
      rintro s₃ ⟨h', tk', m', news', rfl, F', N', hJ'⟩
      refine ⟨vs.toArray.size - (i + 1), by omega, i + 1, h', tk', m', news', rfl, hlt, rfl, ⟨?_, ?_⟩, F', fun p hp => N' p (.tail _ hp), hJ'⟩
      · obtain ⟨o, ho, r⟩ := st₂.1
        rw [hoi] at ho; cases ho
        exact ⟨oi, (N' _ (.head _)).1, r⟩
      · obtain ⟨o', ho'⟩ := hl
        have e1 := ho' i m₁ news₁ h₂ hJ₁ ⟨_, F₂⟩ N₂
        have e2 := ho' (i + 1) m' news' h' hJ' ⟨_, F'⟩ (fun p hp => N' p (.tail _ hp))
        exact st₂.2.at fun o e => by rw [e2, ← e1, e]
    refine wpAny_mono (turn i v m₁ news₁ h₂ _ oi (by simpa using hv) hJ₁ F₂ N₃ ⟨_, st₂.1⟩) (fun _ s₁ p => ?_) fun _ _ e => e.elim
    refine wpAny_mono p (fun _ s₂ p => ?_) fun _ _ e => e.elim
    refine wpAny_mono p (fun f s₃ p => ?_) fun _ _ e => e.elim
    cases f with
    | ret v => exact p
    | brk => exact p
    | next => exact fin _ p
    | cont => exact fin _ p
  · obtain rfl : i = vs.toArray.size := Nat.le_antisymm hi hge
    refine W.done _ _ _ st fun h₂ tk₂ k₂ => ?_
    obtain ⟨F₂, N₂⟩ := keepF k₂
    exact wpAny_execs_nil (done m₁ news₁ h₂ tk₂ (by simpa using hJ₁) F₂ N₂)
end
end PartS25a
section PartS25b
/-! the law's own tools -/
theorem SubH.gone {g g' : Heap} {imm : List (Addr × Obj)} {a : Addr} (S : SubH g imm g') (hg : g.get? a = none) (ho : ∀ p ∈ imm, p.1 ≠ a) : g'.get? a = none := by
  cases e : g'.get? a with
  | none => rfl
  | some o =>
    rcases S a o e with q | q
    · rw [hg] at q; cases q
    · exact absurd rfl (ho _ q)
theorem regrow {g g' h : Heap} {L : Addr} {m : Str → Option Value} (F : Fr g L h m) {muts : List (Addr × Obj)} (N : News g L h muts) (st : g'.StaysIn h) (hm : ∀ d ∈ L :: muts.map (·.1), g'.get? d = none) :
    ∃ imm g'', News g L h (muts ++ imm) ∧ (∀ p ∈ imm, p.1 ∉ muts.map (·.1)) ∧ SubH g imm g'' ∧ g'.StaysIn g'' ∧ (∀ b o, h.get? b = some o → b ∉ L :: muts.map (·.1) → g''.get? b = some o) := by
  obtain ⟨imm, N2, off, S⟩ := rebase F muts N
  exact ⟨imm, _, N2, off, S, stays_hide st hm, fun b o e hb => hideAll_get _ e hb⟩
/-- five objects that are turned; all else is laid into the tail -/
theorem regrow5 {g g' h : Heap} {L : Addr} {m : Str → Option Value} {imm imm' : List (Addr × Obj)} {a b c d e : Addr × Obj} (F : Fr g L h m) (N : News g L h (a :: b :: c :: d :: e :: imm')) (S : SubH g imm g') (hs : ∀ p ∈ imm, p ∈ imm')
    (off : ∀ p ∈ imm, p.1 ≠ a.1 ∧ p.1 ≠ b.1 ∧ p.1 ≠ c.1 ∧ p.1 ≠ d.1 ∧ p.1 ≠ e.1) :
    ∃ imm2 g2, News g L h (a :: b :: c :: d :: e :: imm2) ∧ (∀ p ∈ imm2, p.1 ≠ a.1 ∧ p.1 ≠ b.1 ∧ p.1 ≠ c.1 ∧ p.1 ≠ d.1 ∧ p.1 ≠ e.1) ∧ SubH g imm2 g2 ∧ g'.StaysIn g2 ∧
      (∀ x o, h.get? x = some o → x ≠ L → x ≠ a.1 → x ≠ b.1 → x ≠ c.1 → x ≠ d.1 → x ≠ e.1 → g2.get? x = some o) := by
  have N5 : News g L h [a, b, c, d, e] := fun p hp => N p (by
    rw [show a :: b :: c :: d :: e :: imm' = [a, b, c, d, e] ++ imm' from rfl]; exact List.mem_append_left _ hp)
  have st : g'.StaysIn h := S.stays F N fun p hp => .tail _ (.tail _ (.tail _ (.tail _ (.tail _ (hs p hp)))))
  have nil : ∀ x ∈ L :: [a, b, c, d, e].map (·.1), g'.get? x = none := fun x hx => by
    rcases List.mem_cons.mp hx with rfl | hx
    · exact S.gone (Heap.get?_none_of_le F.above) fun p hp => (N p (.tail _ (.tail _ (.tail _ (.tail _ (.tail _ (hs p hp))))))).2.1
    · obtain ⟨q, hq, rfl⟩ := List.mem_map.mp hx
      refine S.gone (N5 q hq).2.2 fun p hp => ?_
      obtain ⟨f1, f2, f3, f4, f5⟩ := off p hp
      rcases List.mem_cons.mp hq with rfl | hq
      · exact f1
      · rcases List.mem_cons.mp hq with rfl | hq
        · exact f2
        · rcases List.mem_cons.mp hq with rfl | hq
          · exact f3
          · rcases List.mem_cons.mp hq with rfl | hq
            · exact f4
            · rcases List.mem_singleton.mp hq with rfl; exact f5
  obtain ⟨imm2, g2, N2, off2, S2, k2, fill⟩ := regrow F N5 st nil
  refine ⟨imm2, g2, N2, fun p hp => ?_, S2, k2, fun x o hx h0 h1 h2 h3 h4 h5 => fill x o hx (by simp [h0, h1, h2, h3, h4, h5])⟩
  have := off2 p hp
  simp at this
  exact this
theorem SubH.noneL {g g' h : Heap} {L : Addr} {m : Str → Option Value} {imm news : List (Addr × Obj)} (S : SubH g imm g') (F : Fr g L h m) (N : News g L h news) (hs : ∀ p ∈ imm, p ∈ news) : g'.get? L = none :=
  S.gone (Heap.get?_none_of_le F.above) fun p hp => (N p (hs p hp)).2.1
theorem reps_idx {h : Heap} {vs : List Value} {ts : List Ty} (r : Reps h vs ts) {i : Nat} {v : Value} (e : vs[i]? = some v) : ∃ a t, v = .ref a ∧ ts[i]? = some t ∧ Rep h a t := by
  induction r generalizing i with
  | nil => cases e
  | cons q _ ih =>
    cases i with
    | zero => cases e; exact ⟨_, _, rfl, rfl, q⟩
    | succ i => exact ih e
def six : List Ty := [.v 0, .v 1, .v 2, .v 3, .v 4, .v 5]
theorem six_at {i : Nat} {t : Ty} (e : six[i]? = some t) : i < 6 ∧ t = .v i := by
  have hl : i < 6 := (List.getElem?_eq_some_iff.mp e).1
  refine ⟨hl, ?_⟩
  have : i = 0 ∨ i = 1 ∨ i = 2 ∨ i = 3 ∨ i = 4 ∨ i = 5 := by omega
  rcases this with rfl | rfl | rfl | rfl | rfl | rfl <;> (cases e; rfl)
theorem ten_at {i : Nat} {t : Ty} (e : (six ++ [.u8, .i32, .bool, .par])[i]? = some t) : TyOk t := by
  have hl : i < 10 := (List.getElem?_eq_some_iff.mp e).1
  have : i = 0 ∨ i = 1 ∨ i = 2 ∨ i = 3 ∨ i = 4 ∨ i = 5 ∨ i = 6 ∨ i = 7 ∨ i = 8 ∨ i = 9 := by omega
  rcases this with rfl | rfl | rfl | rfl | rfl | rfl | rfl | rfl | rfl | rfl <;> (cases e; intro j q; cases q <;> decide)
theorem compSrc_at {prog : Program} {w : World} {A : Around} {h₀ : Heap} {L : Addr} {m : Str → Option Value} {env : Env} {elt : PySem.Expr} {x : Str} {scope : Scope} {cl : List (Str × Addr)} {Fin : Shared → List Value → List (Addr × Obj) → Prop} {ax : Addr} {its : Array Value} {news : List (Addr × Obj)} {s₁ : Shared}
    (hh : A.handled = none) (F : Fr h₀ L s₁.heap m) (N : News h₀ L s₁.heap news) (S : LCg.SrcAt h₀ ax its news) (hsz : its.size ≤ sizeLine)
    (h : ∀ g, LCg.CompRest prog w A h₀ L m env elt x scope cl { s₁ with heap := g } (LCg.SrcAt h₀ ax its) (fun i v => its[i]? = some v) (Fin { s₁ with heap := g }) its.size 0 [] news) :
    LCg.CompSrc prog w A h₀ L m env elt x scope cl Fin (.ref ax) s₁ := .inl ⟨ax, its, news, rfl, hh, F, N, S, hsz, fun _ ⟨g, e⟩ => e ▸ h g⟩
theorem srcAt_sub {g g' : Heap} {imm news : List (Addr × Obj)} {a : Addr} {its : Array Value} (S : SubH g imm g') (hl : g'.IsList a its) (hs : ∀ p ∈ imm, p ∈ news) : LCg.SrcAt g a its news := by
  obtain ⟨o, ho, hc, r⟩ := hl
  rcases S a o ho with q | q
  · exact .inl ⟨o, q, hc, r⟩
  · exact .inr ⟨o, hs _ q, hc, r⟩
/-- a comprehension that makes a type of each type -/
def ResR (h : Heap) (f : Ty → Ty) (v y : Value) : Prop := ∃ a t b, v = .ref a ∧ Rep h a t ∧ y = .ref b ∧ Rep h b (f t)
theorem reps_paired {h : Heap} {f : Ty → Ty} {vs ys : List Value} {ts : List Ty} (R : Reps h vs ts) (P : Paired (ResR h f) vs ys) (fn : ∀ a t r, Rep h a t → Rep h a r → t = r) : Reps h ys (ts.map f) := by
  induction P generalizing ts with
  | nil => cases R; exact .nil
  | cons e _ ih =>
    cases R with
    | cons q R =>
      obtain ⟨a, t, b, e1, e2, rfl, e3⟩ := e
      cases e1
      rw [fn _ _ _ e2 q] at e3
      exact .cons e3 (ih R)
def sigV : List Value → Option Str × Option Int
  | [_, .str s _] => (some s, Option.none)
  | [_, .int n _] => (Option.none, some n)
  | _ => (Option.none, Option.none)
def Ty.sig : Ty → Option Str × Option Int
  | .v n => (Option.none, some (n : Int))
  | .u8 => (some "u8", Option.none)
  | .i32 => (some "i32", Option.none)
  | .bool => (Option.none, Option.none)
  | .par => (some "X", Option.none)
theorem Ty.sig_items {t : Ty} {l : List Value} (i : t.Items l) : sigV l = t.sig := by
  cases t with
  | bool => obtain ⟨_, rfl⟩ := i; rfl
  | _ => obtain ⟨_, _, rfl⟩ := i; rfl
theorem Ty.sig_inj {t r : Ty} (e : t.sig = r.sig) : t = r := by
  cases t <;> cases r <;> simp only [Ty.sig, Prod.mk.injEq, Option.some.injEq, reduceCtorEq, and_true, true_and, and_false, false_and] at e <;> first | rfl | (rw [Int.ofNat_inj.mp e]) | exact absurd e (by decide)
theorem Rep.fn {h : Heap} {a : Addr} {t r : Ty} (x : Rep h a t) (y : Rep h a r) : t = r := by
  obtain ⟨l, ⟨o, ho, _, n, hd⟩, i⟩ := x
  obtain ⟨l', ⟨o', ho', _, n', hd'⟩, i'⟩ := y
  rw [ho] at ho'; cases ho'
  rw [hd] at hd'
  simp only [Data.seq.injEq] at hd'
  have e : l = l' := by simpa using congrArg Array.toList hd'.1
  subst e
  exact Ty.sig_inj ((Ty.sig_items i).symm.trans (Ty.sig_items i'))
section
variable {prog : Program} {w : World} {mg mb : Str → Option Value} {A : Around} {s : Shared} {g g₀ : Heap} {L : Addr} {m : Str → Option Value} {news : List (Addr × Obj)} {Q E : Value → Shared → Prop} {gf : Obj → List (Addr × Obj)}
theorem pool_call {a : Addr} {vs : List Value} {ns : List Int} {t0 : Tok} (F : Fr g L s.heap m) (N : News g L s.heap news) (G : G0 w mg mb g) (hI : IntsAre vs ns) (hlen : vs.length ≤ 63) (hL : g.IsList a vs.toArray)
    (hh : A.handled = none) (hd : A.depth ≤ 700) (hu : A.units ≤ 700)
    (k : ∀ b x t1 y t2 n h' tk', 0 ≤ y → y < 2147483647 → Fr g L h' m → News g L h' ((b, lst [.int x t1, .int y t2] n) :: news) → (∀ p ∈ news, p.1 ≠ b) → Q (.ref b) { s with heap := h', toks := tk' }) :
    wpAny (model prog w) A (PySem.call (.ref 163) [.ref a, .int 0 t0]) Q E s :=
  lift (pool_spec (G.keeps F.keep) hI hlen (Fr.lst F hL) fun b x t1 y t2 n h' tk' st h0 h1 e hn => k b x t1 y t2 n h' tk' h0 h1 (fr_grow F st) (news_more F N st e hn) fun p hp q => by
    have := (N p hp).1; rw [q, hn] at this; cases this) hh hd hu
theorem one_call {aS aT : Addr} {x y : Int} {t1 t2 : Tok} {n : Nat} {vs : List Value} (F : Fr g L s.heap m) (N : News g L s.heap news) (G : G0 w mg mb g) (U : UpdF aS (lst [.int x t1, .int y t2] n) news gf) (hT : s.heap.IsList aT vs.toArray) (hne : aT ≠ aS)
    (hy0 : 0 ≤ y) (hy1 : y < 2147483647) (hl : 0 < vs.length) (hl2 : vs.length < 100) (hh : A.handled = none) (hd : A.depth ≤ 700) (hu : A.units ≤ 700)
    (k : ∀ (i : Nat) v x' t1' y' t2' n' h' tk', vs[i]? = some v → 0 ≤ y' → y' < 2147483647 → Fr g L h' m → News g L h' (gf (lst [.int x' t1', .int y' t2'] n')) → Q v { s with heap := h', toks := tk' }) :
    wpAny (model prog w) A (PySem.call (.ref 177) [.ref aS, .ref aT]) Q E s := by
  obtain ⟨pre, post, e, _, _, _⟩ := U.split
  have z := N (aS, lst [.int x t1, .int y t2] n) (by rw [e]; exact List.mem_append.mpr (.inr (.head _)))
  refine lift (one_spec G F.keep z.1 z.2.2 hy0 hy1 hT hne hl hl2 fun i v x' t1' y' t2' n' h' tk' hv a3 a4 e' kk => ?_) hh hd hu
  obtain ⟨F', N'⟩ := turn_one F N U e' kk
  exact k i v x' t1' y' t2' n' h' tk' hv a3 a4 F' N'
theorem known_call (F : Fr g L s.heap m) (N : News g L s.heap news) (G : G0 w mg mb g) (hh : A.handled = none) (hd : A.depth ≤ 700) (hu : A.units ≤ 700)
    (k : ∀ b vs n h' tk', Fr g L h' m → News g L h' news → h'.get? b = some (W.listOf vs.toArray n) → s.heap.get? b = none → (∀ h₂ : Heap, (∀ c o, h'.get? c = some o → s.heap.get? c = none → h₂.get? c = some o) → Reps h₂ vs [.u8, .i32, .bool, .par]) → (∀ b o, s.heap.get? b = some o → h'.get? b = some o) → Q (.ref b) { s with heap := h', toks := tk' }) :
    wpAny (model prog w) A (PySem.call (.ref 184) []) Q E s :=
  lift (known_spec (G.keeps F.keep) fun b vs n h' tk' st e hn R => k b vs n h' tk' (fr_grow F st) (news_grow N st) e hn R st) hh hd hu
theorem joined_call {aG a b : Addr} {Gs : List GV} {t r : Ty} (F : Fr g L s.heap m) (N : News g L s.heap news) (G : G0 w mg mb g) (st : g₀.StaysIn s.heap)
    (hG : g₀.IsList aG (Gs.map fun G => Value.ref G.d).toArray) (hA : ∀ G ∈ Gs, GAt prog w g₀ G) (ha : Rep g₀ a t) (hb : Rep g₀ b r) (hex : ∃ G ∈ Gs, t ∈ G.ts)
    (hz : ∀ G ∈ Gs, G.vs.length ≤ 6) (hz2 : Gs.length ≤ 6) (hh : A.handled = none) (hd : A.depth ≤ 540) (hu : A.units ≤ 540)
    (k : ∀ G1 G2 v h' tk', G1 ∈ Gs → t ∈ G1.ts → Home2 s.heap Gs b r G2 → Fr g L h' m → News g L h' news → (∀ b o, s.heap.get? b = some o → h'.get? b = some o) → Joined prog w s.heap h' aG Gs G1 G2 v → Q v { s with heap := h', toks := tk' }) :
    wpAny (model prog w) A (PySem.call (.ref 203) [.ref aG, .ref a, .ref b]) Q E s :=
  lift (joined_spec (G.keeps F.keep) (hG.at fun o e => st _ _ e) (fun G' h => (hA G' h).keeps st) (ha.keeps st) (hb.keeps st) hex hz hz2 fun G1 G2 v h' tk' h1 h2 h3 x J => k G1 G2 v h' tk' h1 h2 h3 (fr_grow F x) (news_grow N x) x J) hh hd hu
end
section
variable {prog : Program} {w : World} {A : Around} {h₀ : Heap} {L : Addr} {m : Str → Option Value} {env : Env} {elt : PySem.Expr} {x : Str} {scope : Scope} {cl : List (Str × Addr)} {s : Shared} {S : List (Addr × Obj) → Prop} {Fin : List Value → List (Addr × Obj) → Prop} {news : List (Addr × Obj)}
theorem restJ {vs : List Value} (J : Nat → List Value → List (Addr × Obj) → Prop)
    (turn : ∀ i v I oI C oC D m₂ ys news h tk (E' : Value → Shared → Prop), vs[i]? = some v → J i ys news → LCg.NsObj oC m₂ → m₂ x = some v → Fr h₀ L h m → News h₀ L h ((I, oI) :: (C, oC) :: (D, LCg.lst ys) :: news) → LCg.Off3 I C D news → ((@Ne Nat I C) ∧ (@Ne Nat I D) ∧ (@Ne Nat C D)) →
      wpAny (model prog w) A (eval elt (compEnvC scope cl C env)) (LCg.CompEnd h₀ L m { s with heap := h, toks := tk } I oI C oC D (LCg.lst ys) S (fun y news' => J (i + 1) (ys ++ [y]) news')) E' { s with heap := h, toks := tk })
    (h0 : J 0 [] news) (fin : ∀ ys news, J vs.length ys news → Fin ys news) : LCg.CompRest prog w A h₀ L m env elt x scope cl s S (fun i v => vs.toArray[i]? = some v) Fin vs.toArray.size 0 [] news := by
  have key : ∀ (j i : Nat) (ys : List Value) news, i + j = vs.length → J i ys news → LCg.CompRest prog w A h₀ L m env elt x scope cl s S (fun i v => vs.toArray[i]? = some v) Fin j i ys news := by
    intro j
    induction j with
    | zero =>
      intro i ys news hi hy
      obtain rfl : i = vs.length := by omega
      exact LCg.CompRest.zero (fin ys news hy)
    | succ j ih =>
      intro i ys news hi hy
      refine LCg.CompRest.succ ?_
      intro v I oI C oC D m₂ h tk E' hv hC hx F N off ne
      have hv' : vs[i]? = some v := by simpa using hv
      refine wpAny_mono (turn i v I oI C oC D m₂ ys news h tk E' hv' hy hC hx F N off ne) (fun y s₂ hq => ?_) fun _ _ e => e
      obtain ⟨h', tk', nw, e, F', N', off', hS', hn⟩ := hq
      exact ⟨h', tk', _, e, F', N', off', hS', ih (i + 1) _ _ (by omega) hn⟩
  have := key vs.length 0 [] news (by omega) h0
  simpa using this
end
/-- what stands between two turns -/
structure Wd (prog : Program) (w : World) (b₁ g' : Heap) (its : List Value) (σ : Nat → Option Ty) (rt : Nat → Ty) (aG : Addr) (Gs : List GV) (ps : List Value) : Prop where
  known : Known g' its σ
  roots : Roots σ rt
  inv : Inv rt Gs
  list : g'.IsList aG (Gs.map fun G => Value.ref G.d).toArray
  gat : ∀ G ∈ Gs, GAt prog w g' G
  new : ∀ G ∈ Gs, b₁.get? G.d = none
  pairs : ∀ v ∈ ps, ∃ a x y t r, v = .ref a ∧ IsTup g' a [Value.ref x, .ref y].toArray ∧ Rep g' x t ∧ Rep g' y r ∧ TyOk t ∧ TyOk r ∧ rtT rt t = rtT rt r
theorem Wd.keeps {prog : Program} {w : World} {b₁ g' g'' : Heap} {its : List Value} {σ : Nat → Option Ty} {rt : Nat → Ty} {aG : Addr} {Gs : List GV} {ps : List Value} (W : Wd prog w b₁ g' its σ rt aG Gs ps) (k : g'.StaysIn g'') : Wd prog w b₁ g'' its σ rt aG Gs ps :=
  ⟨W.known.keeps k, W.roots, W.inv, W.list.at fun o e => k _ _ e, fun G h => (W.gat G h).keeps k, W.new, fun v h => let ⟨a, x, y, t, r, e, h1, h2, h3, h4⟩ := W.pairs v h; ⟨a, x, y, t, r, e, isTup_keeps h1 k, h2.keeps k, h3.keeps k, h4⟩⟩
theorem unifyTo_refl {t : Ty} : unifyTo t t = some none := by unfold unifyTo; rw [if_pos rfl]
theorem Wd.told {prog : Program} {w : World} {b₁ g' : Heap} {its : List Value} {σ : Nat → Option Ty} {rt : Nat → Ty} {aG : Addr} {Gs : List GV} {ps : List Value} (W : Wd prog w b₁ g' its σ rt aG Gs ps) : ∀ G ∈ Gs, ∃ r, ToldG σ G r := fun G hG => by
  obtain ⟨r, g1, g2, g3⟩ := W.inv.root G hG
  refine ⟨r, fun t ht => ?_, W.inv.ne G hG, W.inv.small hG, fun x T e => (g2 x T e).1, fun e => ?_⟩
  · obtain ⟨i, hi, rfl⟩ := W.inv.mem G hG t ht
    obtain ⟨n, h⟩ := W.roots i hi
    exact ⟨n, g1 i ht ▸ h⟩
  · obtain ⟨h1, ⟨k, rfl⟩, h3⟩ := g3 e
    exact ⟨h1, k, rfl, h3⟩
theorem Wd.toldK {prog : Program} {w : World} {b₁ g' : Heap} {its : List Value} {σ : Nat → Option Ty} {rt : Nat → Ty} {aG : Addr} {Gs : List GV} {ps : List Value} (W : Wd prog w b₁ g' its σ rt aG Gs ps) : ∀ G ∈ Gs, ∀ x T, G.tv = some (x, T) → ∀ j, T ≠ .v j := fun G hG x T e => by
  obtain ⟨r, g1, g2, g3⟩ := W.inv.root G hG
  exact (g2 x T e).2.1
theorem Roots.isRoot {σ : Nat → Option Ty} {rt : Nat → Ty} (R : Roots σ rt) {t : Ty} (ok : TyOk t) : IsRoot σ (rtT rt t) := let ⟨_, h⟩ := R.of ok; h.isRoot
theorem joinTv_is {a b : Option (Addr × Ty)} {n : Bool} {tv : Option (Addr × Ty)} (h : joinTv a b n = some tv) : tv = a ∨ tv = b := by
  unfold joinTv at h
  split at h
  · split at h
    · split at h
      · cases h
      · cases h; exact .inl rfl
    · cases h
  · split at h
    · cases h
    · cases h; exact .inl rfl
  · split at h
    · cases h
    · cases h; exact .inr rfl
  · cases h; exact .inl rfl
/-- the two ways of a turn -/
theorem Wd.join {prog : Program} {w : World} {b₁ g' h h' g2 : Heap} {its : List Value} {σ : Nat → Option Ty} {rt : Nat → Ty} {aG b : Addr} {Gs : List GV} {ps : List Value} (W : Wd prog w b₁ g' its σ rt aG Gs ps) (k : g'.StaysIn h) (k2 : g'.StaysIn g2) (k3 : ∀ b o, h'.get? b = some o → h.get? b = none → g2.get? b = some o) (kb : b₁.StaysIn h) {i : Nat} {r : Ty} {G1 G2 : GV} {v : Value}
    (h1 : G1 ∈ Gs) (hi : Ty.v i ∈ G1.ts) (h2 : Home2 h Gs b r G2) (hb : Rep g' b r) (hr : TyOk r) (J : Joined prog w h h' aG Gs G1 G2 v) :
    (v = .none ∧ unifyTo (rt i) (rtT rt r) = none) ∨
    ∃ aG' o Gs', v = .ref aG' ∧ unifyTo (rt i) (rtT rt r) = some o ∧ Inv (rtO rt o) Gs' ∧ g2.IsList aG' (Gs'.map fun G => Value.ref G.d).toArray ∧ (∀ G ∈ Gs', GAt prog w g2 G) ∧ (∀ G ∈ Gs', b₁.get? G.d = none) := by
  have hg : ∀ G ∈ Gs, h.get? G.d ≠ none := fun G hG => by
    obtain ⟨o, ho, _⟩ := Heap.dictOf_iff.mp (W.gat G hG).dict
    rw [k _ _ ho]; exact fun e => nomatch e
  have hD : ∀ G ∈ Gs, G.d ≠ aG := fun G hG e => by
    obtain ⟨ol, hol, hc, _⟩ := W.list
    obtain ⟨od, hod, es, epp, he, _⟩ := Heap.dictOf_iff.mp (W.gat G hG).dict
    rw [e, hol] at hod; cases hod
    rw [he.1] at hc; exact absurd (Value.type.inj hc) (by decide)
  rcases J with ⟨hd, rfl⟩ | ⟨hd, hj, rfl⟩ | ⟨hd, tv, D, la, aG', hj, rfl, nD, nla, nG, hl, hB⟩
  · exact .inr ⟨aG, none, Gs, rfl, W.inv.same h1 hi h2 hd hg, W.inv, W.list.at fun o e => k2 _ _ e, fun G hG => (W.gat G hG).keeps k2, W.new⟩
  · rcases W.inv.join (D := aG) (la := aG) h1 hi h2 hr hd hD hg with ⟨_, h⟩ | ⟨tv, o, h, _⟩
    · exact .inl ⟨rfl, h⟩
    · rw [hj] at h; cases h
  · rcases W.inv.join (D := D) (la := la) h1 hi h2 hr hd (fun G hG e => hg G hG (e ▸ nD)) hg with ⟨h, _⟩ | ⟨tv', o, h, hu, hI⟩
    · rw [hj] at h; cases h
    · rw [hj] at h; cases h
      have R2 : Reps g2 G2.vs G2.ts ∧ ∀ x t, G2.tv = some (x, t) → Rep g2 x t := by
        rcases h2 with ⟨hm, _⟩ | ⟨_, e1, e2, e3, _⟩
        · exact ⟨(W.gat G2 hm).reps.keeps k2, fun x t e => ((W.gat G2 hm).type x t e).keeps k2⟩
        · exact ⟨by rw [e1, e2]; exact .nil, fun x t e => by rw [e3] at e; cases e; exact hb.keeps k2⟩
      refine .inr ⟨aG', o, _, rfl, hu, hI, hl.at fun o e => k3 _ _ e nG, fun G hG => ?_, fun G hG => ?_⟩
      · rcases mem_join.mp hG with ⟨hG, _⟩ | rfl
        · exact (W.gat G hG).keeps k2
        · obtain ⟨oB, hoB, hdB⟩ := Heap.dictOf_iff.mp hB.dict
          refine ⟨Heap.dictOf_iff.mpr ⟨oB, k3 _ _ hoB nD, hdB⟩, hB.list.at fun o e => k3 _ _ e nla, ((W.gat G1 h1).reps.keeps k2).append R2.1, fun x t e => ?_⟩
          rcases joinTv_is hj with q | q
          · exact ((W.gat G1 h1).type x t (q ▸ e)).keeps k2
          · exact R2.2 x t (q ▸ e)
      · rcases mem_join.mp hG with ⟨hG, _⟩ | rfl
        · exact W.new G hG
        · show b₁.get? D = none
          cases e : b₁.get? D with
          | none => rfl
          | some o => rw [kb _ _ e] at nD; cases nD
end PartS25b
section PartS25c
theorem allLt_mem {d : Addr} : ∀ {l : List (Addr × Obj)}, AllLt d l → ∀ p ∈ l, p.1 < d
  | [], _, _, h => nomatch h
  | _ :: _, x, p, h => by
    rcases List.mem_cons.mp h with rfl | h
    · exact x.1
    · exact allLt_mem x.2 p h
theorem off1_mem {d : Addr} : ∀ {l : List (Addr × Obj)}, LCg.Off1 d l → ∀ p ∈ l, p.1 ≠ d
  | [], _, _, h => nomatch h
  | _ :: _, x, p, h => by
    rcases List.mem_cons.mp h with rfl | h
    · exact x.1
    · exact off1_mem x.2 p h
theorem off3_two {I C D : Addr} {p q : Addr × Obj} {news : List (Addr × Obj)} (h : LCg.Off3 I C D news) (h1 : p.1 ≠ I ∧ p.1 ≠ C ∧ p.1 ≠ D) (h2 : q.1 ≠ I ∧ q.1 ≠ C ∧ q.1 ≠ D) : LCg.Off3 I C D (p :: q :: news) := ⟨h1, h2, h⟩
/-- the groups as they are begun, one behind the other -/
def MadeG (prog : Program) (w : World) (g1 : Heap) (vs : List Value) (base0 : List (Addr × Obj)) (i : Nat) (ys : List Value) (news : List (Addr × Obj)) : Prop :=
  (∀ p ∈ base0, p ∈ news) ∧ ∃ Gs : List GV, Gs.length = i ∧ ys = Gs.map (fun G => Value.ref G.d) ∧ (Gs.map GV.d).Nodup ∧
    ∀ (j : Nat) (G : GV), Gs[j]? = some G → (∃ a, vs[j]? = some (.ref a) ∧ G.vs = [.ref a]) ∧ G.ts = [.v j] ∧ G.tv = none ∧ G.num = (Ty.v j).num ∧ g1.get? G.d = none ∧ (∀ p ∈ base0, p.1 ≠ G.d ∧ p.1 ≠ G.la) ∧ (∃ o, (G.d, o) ∈ news ∧ o.IsDictOf (PySem.strKind prog w) (kvsOf G.la .none G.num)) ∧ ∃ n, (G.la, W.listOf G.vs.toArray n) ∈ news
theorem MadeG.step {prog : Program} {w : World} {g1 : Heap} {vs : List Value} {base0 news : List (Addr × Obj)} {i n : Nat} {ys : List Value} {a d la : Addr} {oB : Obj} (M : MadeG prog w g1 vs base0 i ys news) (hv : vs[i]? = some (.ref a)) (hd : g1.get? d = none) (h1 : ∀ p ∈ news, p.1 < d) (h2 : ∀ p ∈ news, p.1 < la)
    (dB : oB.IsDictOf (PySem.strKind prog w) (kvsOf la .none (Ty.v i).num)) : MadeG prog w g1 vs base0 (i + 1) (ys ++ [.ref d]) ((d, oB) :: (la, W.listOf [Value.ref a].toArray n) :: news) := by
  obtain ⟨hb, Gs, rfl, rfl, hnd, hGs⟩ := M
  refine ⟨fun p hp => .tail _ (.tail _ (hb p hp)), Gs ++ [⟨d, la, [.ref a], [.v Gs.length], none, (Ty.v Gs.length).num⟩], by simp, by simp, ?_, fun j G hG => ?_⟩
  · rw [List.map_append]
    refine List.nodup_append.mpr ⟨hnd, List.nodup_cons.mpr ⟨List.not_mem_nil, List.nodup_nil⟩, fun x hx y hy e => ?_⟩
    obtain ⟨G, hG, rfl⟩ := List.mem_map.mp hx
    have q := List.mem_singleton.mp hy
    obtain ⟨j, hj⟩ := List.getElem?_of_mem hG
    obtain ⟨_, _, _, _, _, _, ⟨o, ho, _⟩, _⟩ := hGs j G hj
    exact absurd (h1 _ ho) (by show ¬ G.d < d; rw [show G.d = d from e.trans q]; exact Nat.lt_irrefl _)
  · rcases Nat.lt_or_ge j Gs.length with hj | hj
    · rw [List.getElem?_append_left hj] at hG
      obtain ⟨x1, x2, x3, x4, x5, x6, ⟨o, ho, hd⟩, n', x7⟩ := hGs j G hG
      exact ⟨x1, x2, x3, x4, x5, x6, ⟨o, .tail _ (.tail _ ho), hd⟩, n', .tail _ (.tail _ x7)⟩
    · rw [List.getElem?_append_right hj] at hG
      have hl := (List.getElem?_eq_some_iff.mp hG).1
      simp at hl
      have : j = Gs.length := by omega
      subst this
      simp at hG
      subst hG
      exact ⟨⟨a, hv, rfl⟩, rfl, rfl, rfl, hd, fun p hp => ⟨Nat.ne_of_lt (h1 _ (hb p hp)), Nat.ne_of_lt (h2 _ (hb p hp))⟩, ⟨oB, .head _, dB⟩, n, .tail _ (.head _)⟩
theorem nodup_inj : ∀ {Gs : List GV}, (Gs.map GV.d).Nodup → ∀ G ∈ Gs, ∀ G' ∈ Gs, G.d = G'.d → G = G'
  | [], _, _, h, _, _, _ => nomatch h
  | G0 :: Gs, hn, G, h, G', h', e => by
    have hn' := List.nodup_cons.mp hn
    rcases List.mem_cons.mp h with q | k
    · rcases List.mem_cons.mp h' with q' | k'
      · rw [q, q']
      · exact absurd (show G0.d ∈ Gs.map GV.d from by rw [← q, e]; exact List.mem_map_of_mem k') hn'.1
    · rcases List.mem_cons.mp h' with q' | k'
      · exact absurd (show G0.d ∈ Gs.map GV.d from by rw [← q', ← e]; exact List.mem_map_of_mem k) hn'.1
      · exact nodup_inj hn'.2 G k G' k' e
theorem begun_wd {prog : Program} {w : World} {g1 g2 : Heap} {vs ys : List Value} {base0 news : List (Addr × Obj)} {aG : Addr} (M : MadeG prog w g1 vs base0 vs.length ys news) (BR : Reps g1 vs six) (k2 : g1.StaysIn g2) (hl : g2.IsList aG ys.toArray)
    (fill : ∀ b o, (b, o) ∈ news → (∀ p ∈ base0, p.1 ≠ b) → g2.get? b = some o) : ∃ Gs, Wd prog w g1 g2 noneK (fun _ => none) Ty.v aG Gs [] := by
  obtain ⟨hb, Gs, hGl, rfl, hnd, hGs⟩ := M
  have hv6 : vs.length = 6 := BR.length
  rw [hv6] at hGl
  refine ⟨Gs, known_none, Roots.begun, Inv.start hGl (fun i hi => ?_) (nodup_inj hnd), hl, fun G hG => ?_, fun G hG => ?_, fun v hv => nomatch hv⟩
  · have hi' : i < Gs.length := by omega
    obtain ⟨_, x2, x3, x4, _⟩ := hGs i Gs[i] (List.getElem?_eq_getElem hi')
    exact ⟨Gs[i], List.getElem?_eq_getElem hi', x2, x3, x4⟩
  · obtain ⟨j, hj⟩ := List.getElem?_of_mem hG
    obtain ⟨⟨a, h1, h2⟩, x2, x3, x4, x5, x6, ⟨o, ho, hd⟩, n, x7⟩ := hGs j G hj
    refine ⟨Heap.dictOf_iff.mpr ⟨o, fill _ _ ho fun p hp => (x6 p hp).1, ?_⟩, ⟨_, fill _ _ x7 fun p hp => (x6 p hp).2, rfl, n, rfl⟩, ?_, fun x t e => by rw [x3] at e; cases e⟩
    · rw [typ_none x3]; exact hd
    · obtain ⟨a', t, e, ht, ra⟩ := reps_idx BR h1
      cases e
      obtain ⟨_, rfl⟩ := six_at ht
      rw [h2, x2]
      exact .cons (ra.keeps k2) .nil
  · obtain ⟨j, hj⟩ := List.getElem?_of_mem hG
    obtain ⟨_, _, _, _, x5, _⟩ := hGs j G hj
    exact x5
/-- between two turns of the law -/
def LS (prog : Program) (w : World) (g b₁ : Heap) (it L aF aK aS aSrc aP : Addr) (i : Nat) (m : Str → Option Value) (news : List (Addr × Obj)) : Prop :=
  ∃ (its : List Value) (ep : Nat) (x : Int) (t1 : Tok) (y : Int) (t2 : Tok) (nS : Nat) (ps : List Value) (nP : Nat) (oC : Obj) (imm : List (Addr × Obj)) (g' : Heap) (σ : Nat → Option Ty) (rt : Nat → Ty) (aG : Addr) (Gs : List GV),
    news = (aK, W.listOf its.toArray ep) :: (aSrc, lst [.int x t1, .int y t2] nS) :: (aP, W.listOf ps.toArray nP) :: (L + 1, oC) :: imm ∧
    oC.data = .cell (some (.ref aF)) ∧ 0 ≤ y ∧ y < 2147483647 ∧
    m (Str.ofString "source") = some (.ref aSrc) ∧ m (Str.ofString "some") = some (.ref aS) ∧ m (Str.ofString "groups") = some (.ref aG) ∧ m (Str.ofString "pairs") = some (.ref aP) ∧
    SubH g imm g' ∧ b₁.StaysIn g' ∧ (∀ p ∈ imm, p.1 ≠ it ∧ p.1 ≠ aK ∧ p.1 ≠ aSrc ∧ p.1 ≠ aP ∧ p.1 ≠ L + 1) ∧ ps.length ≤ i ∧ Wd prog w b₁ g' its σ rt aG Gs ps
theorem LS.intro {prog : Program} {w : World} {g b₁ : Heap} {it L aF aK aS aSrc aP : Addr} {i : Nat} {m : Str → Option Value}
  {its : List Value} {ep : Nat} {x : Int} {t1 : Tok} {y : Int} {t2 : Tok} {nS : Nat} {ps : List Value} {nP : Nat} {oC : Obj} {imm : List (Addr × Obj)} {g' : Heap} {σ : Nat → Option Ty} {rt : Nat → Ty} {aG : Addr} {Gs : List GV}
  (hC : oC.data = .cell (some (.ref aF))) (h0 : 0 ≤ y) (h1 : y < 2147483647)
  (m1 : m (Str.ofString "source") = some (.ref aSrc)) (m2 : m (Str.ofString "some") = some (.ref aS)) (m3 : m (Str.ofString "groups") = some (.ref aG)) (m4 : m (Str.ofString "pairs") = some (.ref aP))
  (S : SubH g imm g') (k : b₁.StaysIn g') (off : ∀ p ∈ imm, p.1 ≠ it ∧ p.1 ≠ aK ∧ p.1 ≠ aSrc ∧ p.1 ≠ aP ∧ p.1 ≠ L + 1) (hp : ps.length ≤ i) (wd : Wd prog w b₁ g' its σ rt aG Gs ps) :
  LS prog w g b₁ it L aF aK aS aSrc aP i m ((aK, W.listOf its.toArray ep) :: (aSrc, lst [.int x t1, .int y t2] nS) :: (aP, W.listOf ps.toArray nP) :: (L + 1, oC) :: imm) :=
  ⟨its, ep, x, t1, y, t2, nS, ps, nP, oC, imm, g', σ, rt, aG, Gs, rfl, hC, h0, h1, m1, m2, m3, m4, S, k, off, hp, wd⟩
theorem overlay4 {m : Str → Option Value} {x1 x2 x3 x4 : Str} {v1 v2 v3 v4 : Value} (h1 : m x1 = some v1) (h2 : m x2 = some v2) (h3 : m x3 = some v3) (h4 : m x4 = some v4) :
    ∃ mm : Str → Option Value, m = fun y => if y = x1 then some v1 else if y = x2 then some v2 else if y = x3 then some v3 else if y = x4 then some v4 else mm y := by
  refine ⟨m, ?_⟩
  funext y
  by_cases q1 : y = x1
  · rw [if_pos q1, q1, h1]
  · rw [if_neg q1]
    by_cases q2 : y = x2
    · rw [if_pos q2, q2, h2]
    · rw [if_neg q2]
      by_cases q3 : y = x3
      · rw [if_pos q3, q3, h3]
      · rw [if_neg q3]
        by_cases q4 : y = x4
        · rw [if_pos q4, q4, h4]
        · rw [if_neg q4]
theorem ne6_of {g h : Heap} {L : Addr} {m : Str → Option Value} {a b c d e : Addr × Obj} {r : List (Addr × Obj)} (F : Fr g L h m) (N : News g L h (a :: b :: c :: d :: e :: r)) {x : Addr} (hx : h.get? x = none) : x ≠ L ∧ x ≠ a.1 ∧ x ≠ b.1 ∧ x ≠ c.1 ∧ x ≠ d.1 ∧ x ≠ e.1 := by
  have key : ∀ p ∈ a :: b :: c :: d :: e :: r, x ≠ p.1 := fun p hp q => by have := (N p hp).1; rw [← q, hx] at this; cases this
  refine ⟨fun q => ?_, key _ (.head _), key _ (.tail _ (.head _)), key _ (.tail _ (.tail _ (.head _))), key _ (.tail _ (.tail _ (.tail _ (.head _)))), key _ (.tail _ (.tail _ (.tail _ (.tail _ (.head _)))))⟩
  obtain ⟨o, _, _, e, _⟩ := F.ns
  rw [← q, hx] at e; cases e
theorem ne_sameS {prog : Program} {w : World} {A : Around} {s : Shared} {g g' : Heap} {L a b : Addr} {m : Str → Option Value} {imm news : List (Addr × Obj)} {vs us : List Value} {ts : List Ty} {Q E : Value → Shared → Prop} (S : SubH g imm g') (F : Fr g L s.heap m) (N : News g L s.heap news) (hs : ∀ p ∈ imm, p ∈ news)
    (h1 : s.heap.IsList a vs.toArray) (r1 : Reps g' vs ts) (h2 : s.heap.IsList b us.toArray) (r2 : Reps g' us ts) (hu : A.units ≤ 1200) (h : Q (.bool false) s) : wpAny (model prog w) A (compareOp .NotEq (.ref a) (.ref b)) Q E s := by
  refine ne_reps h1 (r1.keeps (S.stays F N hs)) h2 (r2.keeps (S.stays F N hs)) (by have : cLine = 9900 := rfl; omega) ?_
  rw [decide_eq_true rfl]; exact h
theorem put2 {m₀ : Str → Option Value} {x y : Str} {v w : Value} {u₁ u₂ : Option Value} : (fun z => if z = y then some w else (fun z => if z = x then some v else (fun z => if z = y then u₂ else if z = x then u₁ else m₀ z) z) z) = (fun z => if z = y then some w else if z = x then some v else m₀ z) := by
  funext z
  by_cases q : z = y
  · simp [q]
  · by_cases p : z = x <;> simp [q, p]
theorem putU2 {m₀ : Str → Option Value} {x y : Str} : m₀ = (fun z => if z = y then m₀ y else if z = x then m₀ x else m₀ z) := by
  funext z
  by_cases q : z = y
  · rw [if_pos q, q]
  · by_cases p : z = x
    · rw [if_neg q, if_pos p, p]
    · rw [if_neg q, if_neg p]
section
variable {prog : Program} {w : World} {mg mb : Str → Option Value} {A : Around} {s : Shared} {g b₁ g' : Heap} {L : Addr} {m : Str → Option Value} {imm news : List (Addr × Obj)} {Q E : Value → Shared → Prop}
theorem defaults_call {aF aK aN aG : Addr} {its : List Value} {ep : Nat} {σ : Nat → Option Ty} {rt : Nat → Ty} {Gs : List GV} {ps : List Value} (F : Fr g L s.heap m) (N : News g L s.heap news) (S : SubH g imm g') (hs : ∀ p ∈ imm, p ∈ news) (gb : g.StaysIn b₁) (kb : b₁.StaysIn g') (G : G0 w mg mb b₁) (I : InfAt b₁ aF aK aN) (hK : s.heap.get? aK = some (W.listOf its.toArray ep)) (hKg : g'.get? aK = none) (KL : L ≠ aK) (isn : b₁.IsList aN isnL.toArray)
    (wd : Wd prog w b₁ g' its σ rt aG Gs ps) (hh : A.handled = none) (hd : A.depth ≤ 540) (hu : A.units ≤ 540) (k : ∀ h' tk', Fr g L h' m → Q (.bool true) { s with heap := h', toks := tk' }) :
    wpAny (model prog w) A (PySem.call (.ref 222) [.ref aF, .ref aG]) Q E s := by
  have st := S.stays F N hs
  have hne : ∀ a l, g'.IsList a l → a ≠ aK := fun a l ⟨o, e, _⟩ q => by rw [q, hKg] at e; cases e
  have bK : b₁.get? aK = none := by
    cases e : b₁.get? aK with
    | none => rfl
    | some o => rw [kb _ _ e] at hKg; cases hKg
  have gL := S.noneL F N hs
  refine lift (defaults_spec (fun b o e => st b o (kb b o e)) G I hK bK (wd.known.keeps st) isn (wd.list.at fun o e => st _ _ e) (hne _ _ wd.list) (fun G hG => (wd.gat G hG).keeps st) (fun G hG => hne _ _ (wd.gat G hG).list) wd.new wd.inv.inj wd.told wd.toldK fun h' tk' kk => ?_) hh hd hu
  have dn : ∀ G ∈ Gs, L ≠ G.d := fun G hG q => by
    obtain ⟨o, ho, _⟩ := Heap.dictOf_iff.mp (wd.gat G hG).dict
    rw [← q, gL] at ho; cases ho
  refine k h' tk' ⟨F.ns.at' fun o e => kk _ o e KL dn, fun b o e => kk b o (F.keep b o e) (fun q => ?_) (fun G hG q => ?_), F.above⟩
  · have := gb b o e; rw [q, bK] at this; cases this
  · have := gb b o e; rw [q, wd.new G hG] at this; cases this
theorem fixed_call {env : Env} (F : Fr g L s.heap m) (G : G0 w mg mb g) (hh : A.handled = none) (hf : A.frames = some [env]) (hL : env.frame = some L) (hk : env.scope.kind = .function) (hd : A.depth ≤ 530) (hu : A.units ≤ 530)
    (k : ∀ h' tk', (∀ b o, g.get? b = some o → h'.get? b = some o) → Q (.bool true) { s with heap := h', toks := tk' }) :
    wpAny (model prog w) A (PySem.call (.ref 229) []) Q E s := by
  have hgL : g.get? L = none := Heap.get?_none_of_le F.above
  refine liftF (fixed_spec G F.keep (outer := [env]) (Heap.FunFrames.cons (by rw [hk]; decide) hL F.ns hgL trivial) fun h' tk' kk => k h' tk' fun b o e => kk b o (F.keep b o e) fun hm => ?_) hh hf hd hu
  simp only [List.filterMap_cons, hL, List.filterMap_nil, List.mem_singleton] at hm
  rw [hm, hgL] at e; cases e
end
theorem fr_overlay {g h : Heap} {L : Addr} {m : Str → Option Value} (x1 x2 x3 x4 : Str) {v1 v2 v3 v4 : Value} (F : Fr g L h m) (h1 : m x1 = some v1) (h2 : m x2 = some v2) (h3 : m x3 = some v3) (h4 : m x4 = some v4) :
    ∃ mm : Str → Option Value, Fr g L h (fun y => if y = x1 then some v1 else if y = x2 then some v2 else if y = x3 then some v3 else if y = x4 then some v4 else mm y) := by
  obtain ⟨mm, e⟩ := overlay4 h1 h2 h3 h4
  exact ⟨mm, e ▸ F⟩
end PartS25c
section PartS25
local macro_rules | `(tactic| walk_at "pyIter ref") => `(tactic| k_extra "mine iter")
theorem rowsS25_0 : True := by
  k_with_none
  k_with "mine enter" => (
    (case ho => k_is); (case hcd => k_is); (case hroom => exact Nat.le_of_ble_eq_true rfl)
    (case hbind => first | exact binds_K (by k_in) rfl (by k_is) rfl rfl rfl | exact BindsTo.of_eq rfl)
    (case hloc => exact locs rfl)
    (case c1 => decide); (case c2 => rfl); (case c3 => rfl); (case c4 => rfl))
  k_with "mine enterC" => (
    (case ho => k_is); (case hcd => k_is); (case hroom => exact Nat.le_of_ble_eq_true rfl)
    (case hbind => first | exact binds_K (by k_in) rfl (by k_is) rfl rfl rfl | exact BindsTo.of_eq rfl)
    (case hkind => exact rfl); (case hnd => decide +kernel)
    (case c2 => rfl); (case c3 => rfl); (case c4 => rfl))
  k_with "mine le" => (exact Nat.le_of_ble_eq_true rfl)
  k_with "subscriptTail" => (k_here; (with_reducible show wpAny _ _ (subscriptTail _ _ (Value.ref _) (Value.int _ _)) _ _ _); k_dflt (refine item_tupleT (by is_tup) (by decide) (by decide) (by rfl) (by rfl) ?_; k_whole))
  k_with "k_inst" => (exact InstAt.keepsB (by assumption) (Fr.keep (by assumption)))
  k_with "mine around" => ((case hh => rfl); (case hd => exact Nat.le_of_ble_eq_true rfl); (case hu => exact Nat.le_of_ble_eq_true rfl))
  k_with "mine sub" => (first | assumption | exact sub_self | exact sub_nil | (refine sub_tail ?_; walk_at "mine sub"))
  k_with "k_all" => (first | assumption | exact dlt_ne (by assumption))
  k_with "k_inst" => (exact InstAt.keepsB (by assumption) (SubH.stays (by assumption) (by k_asm) (by k_asm) (by walk_at "mine sub")))
  k_with "call ref" => (k_here; (with_reducible show wpAny _ _ (PySem.call (Value.ref 163) _) _ _ _); k_dflt (refine pool_call (by k_asm) (by k_asm) (by assumption) (by assumption) (by assumption) (by assumption) (by rfl) (by walk_at "mine le") (by walk_at "mine le") ?_; k_whole); refine stop ?_)
  k_with "call ref" => (k_here; (with_reducible show wpAny _ _ (PySem.call (Value.ref 191) _) _ _ _); k_dflt (refine begun_call (by k_asm) (by k_asm) (by assumption) (by rfl) (by walk_at "mine le") (by walk_at "mine le") ?_; k_whole); refine stop ?_)
  k_with "call ref" => (k_here; (first | (with_reducible show wpAny _ _ (PySem.call (Value.ref 210) _) _ _ _) | (with_reducible show wpAny _ _ (PySem.call (Value.ref 203) _) _ _ _) | (with_reducible show wpAny _ _ (PySem.call (Value.ref 184) _) _ _ _) | (with_reducible show wpAny _ _ (PySem.call (Value.ref 177) _) _ _ _) | (with_reducible show wpAny _ _ (PySem.call (Value.ref 215) _) _ _ _) | (with_reducible show wpAny _ _ (PySem.call (Value.ref 222) _) _ _ _) | (with_reducible show wpAny _ _ (PySem.call (Value.ref 229) _) _ _ _)); refine stop ?_)
  k_with "call ref" => (k_here; (with_reducible show wpAny _ _ (PySem.call (Value.ref 170) _) _ _ _); k_dflt (refine take_call (by k_asm) (by k_asm) (by assumption) (by k_updF) (by omega) (by omega) (by omega) (by omega) (by rfl) (by walk_at "mine le") (by walk_at "mine le") ?_; k_whole); refine stop ?_)
  k_with "call ref" => (k_here; (with_reducible show wpAny _ _ (PySem.call (Value.ref 114) _) _ _ _); k_dflt (refine res_call (by k_asm) (by k_asm) (by exact SubH.stays (by assumption) (by k_asm) (by k_asm) (by walk_at "mine sub")) (by assumption) (by assumption) (by is_list) (by assumption) (by assumption) (by assumption) (by rfl) (by walk_at "mine le") (by walk_at "mine le") ?_; k_whole); intro _ _ _ _ _ _)
  k_with "exec Assign cons ListComp" => (k_here; k_dflt (refine LCg.Assign_ListComp_U (by k_asm) (by rfl) (by with_unfolding_all rfl) (by with_unfolding_all rfl) (by decide) (by rfl) (by decide) (by rfl) (by rfl) (by rfl) ?_ (by intro _; rfl); k_whole))
  k_with "eval ListComp" => (k_here; (with_reducible show wpAny _ _ (eval (PySem.Expr.ListComp _ [PySem.Comprehension.mk _ _ [] _] _ _) _) _ _ _); k_dflt (refine LCg.ListComp_U (by k_asm) (by with_unfolding_all rfl) (by decide) (by rfl) (by decide) (by rfl) ?_ (by intro _; rfl); k_whole))
  k_with "CompSrc" => (refine stop ?_)
  k_with "mine iter" => (k_here; (with_reducible show wpAny _ _ (pyIter _) _ _ _); refine stop ?_)
  k_with "exec For Name Call cons nil" => (refine stop ?_)
  k_with "binaryOp Add ref ref" => (k_here; k_dflt (refine add_mine (by k_asm) (by k_asm) (by exact isl_sub (by assumption) (by assumption) (by k_asm) (by k_asm) (by walk_at "mine sub")) (by exact isl_sub (by assumption) (by assumption) (by k_asm) (by k_asm) (by walk_at "mine sub")) (by omega) ?_; k_whole); intro _ _ _ _ l1; (try k_lt l1))
  k_with "compareOp NotEq ref ref" => (k_here; (with_reducible show wpAny _ _ (compareOp CmpOp.NotEq (Value.ref _) (Value.ref _)) _ _ _); k_dflt (refine ne_sameS (by assumption) (by k_asm) (by k_asm) (by walk_at "mine sub") (by is_list) (by assumption) (by first | is_list | exact isl_sub (by assumption) (by assumption) (by k_asm) (by k_asm) (by walk_at "mine sub")) (by assumption) (by walk_at "mine le") ?_; k_whole))
  k_with "call builtin:list.append" => (k_here; (with_reducible show wpAny _ _ (call (Value.builtin _) [Value.ref _, _]) _ _ _); k_dflt (refine append_P (by k_asm) (by k_asm) (by k_upd) (by omega) ?_; k_whole); intro _ _ _)
  k_with "call type:range" => (k_here; k_dflt (refine range1_rows (by k_asm) (by k_asm) ?_); refine stop ?_)
  k_with "CompEnd" => (refine stop ?_)
  trivial
theorem item_kindS {prog : Program} {w : World} {A : Around} {s : Shared} {E : Value → Shared → Prop} {value slice : PySem.Expr} {g g' : Heap} {L x : Addr} {m : Str → Option Value} {imm news : List (Addr × Obj)} {n : Nat} {u : Tok} {Q : Value → Shared → Prop}
    (S : SubH g imm g') (F : Fr g L s.heap m) (N : News g L s.heap news) (hs : ∀ p ∈ imm, p ∈ news) (R : Rep g' x (.v n)) (h : ∀ tk, Q (.str (varName n) tk) s)
    (hs' : subscripted slice false (.ref x) (.int 0 u) = operate [.ref x, .int 0 u] (getItem (.ref x) (.int 0 u)) := by with_unfolding_all rfl) :
    wpAny (model prog w) A (subscriptTail value slice (.ref x) (.int 0 u)) Q E s := by
  obtain ⟨l, e, tk, u', rfl⟩ := R.keeps (S.stays F N hs)
  exact item_tupleT e (by decide) (by decide) rfl rfl (h tk) hs'
theorem eq_intvar {prog : Program} {w : World} {A : Around} {n : Nat} {u v : Tok} {Q E : Value → Shared → Prop} {s : Shared} (h : Q (.bool (Ty.v n).num) s) : wpAny (model prog w) A (compareOp .Eq (.str (varName n) u) (.str "intvar" v)) Q E s := by
  refine PyProof.Rows.eq_str ?_; rw [kind_v]; exact h
theorem rowsS25_1 : True := by
  k_with "subscriptTail" => (k_here; (with_reducible show wpAny _ _ (subscriptTail _ _ (Value.ref _) (Value.int 0 _)) _ _ _); k_dflt (refine item_kindS (by assumption) (by k_asm) (by k_asm) (by walk_at "mine sub") (by assumption) ?_ (by with_unfolding_all rfl); k_whole); intro _)
  k_with "compareOp Eq str str" => (k_here; (with_reducible show wpAny _ _ (compareOp CmpOp.Eq (Value.str (varName _) _) (Value.str _ _)) _ _ _); k_dflt (refine' eq_intvar ?_))
  k_with "eval Dict" => (k_here; k_dflt (refine kdn_str (by rfl) (by k_asm) (by first | k_asm | exact News.nil) (by exact TopRead.nolimit (by k_asm)) (by rfl) (by rfl) (by exact List.cons_ne_nil _ _) (by walk_at "mine le") ?_); intro _ _ _ _ _ lD _ _; have lM := dlt_of lD; (try k_lt lD))
  trivial
theorem made3L {prog : Program} {w : World} {s : Shared} {g : Heap} {L d la : Addr} {o : Obj} {m : Str → Option Value} {news : List (Addr × Obj)} {gf : Obj → List (Addr × Obj)} {tv : Value} {num : Bool} {u1 u2 u3 : Tok} {Q : Value → Shared → Prop}
    (F : Fr g L s.heap m) (N : News g L s.heap news) (U : UpdF d o news gf) (hd : o.IsDictOf (PySem.strKind prog w) [])
    (h : ∀ h' o', Fr g L h' m → News g L h' (gf o') → o'.IsDictOf (PySem.strKind prog w) (kvsOf la tv num) → Q (.ref d) { s with heap := h', toks := s.toks + 3 }) :
    KdnMade prog w (PySem.strKind prog w) d Q [(.str "all" u1, .ref la), (.str "type" u2, tv), (.str "number" u3, .bool num)] s :=
  kdn_made_str F N U hd rfl (by show (["all", "type", "number"] : List Str).Nodup; decide) h
theorem rowsS25_2 : True := by
  k_with "KdnMade" => (refine made3L (by k_asm) (by k_asm) (by k_updF) (by k_asm) ?_; intro _ _ _ N' _; (try dsimp only at N'))
  trivial
theorem law_run {prog : Program} {w : World} {mg mb : Str → Option Value} {s : Shared} (G : G0 w mg mb s.heap) {aL : Addr} {zs : List Value} {ns : List Int} (hI : IntsAre zs ns) (hlen : zs.length ≤ 63) (hL : s.heap.IsList aL zs.toArray) {R : Result → Shared → Prop}
    (hQ : ∀ h' tk', s.heap.StaysIn h' → R (.ok (.ret (.bool true))) { s with heap := h', toks := tk' }) :
    codeAny (model prog w) callerA (.call (.ref 234) ⟨[.ref aL], []⟩) R s := by
  have KX := G.X
  have T := G.T
  refine' enter0C G.X G.T.nolimit ?ho ?hcd ?hroom ?hbind ?hkind ?hnd ?_ ?c2 ?c3 ?c4
  walk_at "mine enterC"
  intro L h₁ tk₁ cells F N Y
  k_cells Y
  k_steps
  intro aSrc x0 t1 y0 t2 nS h1 tk1 hy0 hy1 F1 N1 f1
  have fL : @Ne Nat (L + 1) aSrc := f1 _ (.head _)
  clear f1 F N
  k_steps
  intro T1 aF aK aN aS vs ep imm g1 h2 tk2 F2 N2 off offK neS SB sg ig nL nK nN B fwd
  obtain ⟨BT, BI, BN, BS, BR⟩ := B
  simp only [List.cons_append, List.nil_append] at N2
  have fKS : @Ne Nat aK aSrc := fun q => offK (by simp [q])
  have fKL : @Ne Nat aK (L + 1) := fun q => offK (by simp [q])
  have iK : ∀ p ∈ imm, p.1 ≠ aK := fun p hp q => off p hp (by simp [q])
  have iS : ∀ p ∈ imm, p.1 ≠ aSrc := fun p hp q => off p hp (by simp [q])
  have iL : ∀ p ∈ imm, p.1 ≠ L + 1 := fun p hp q => off p hp (by simp [q])
  clear off offK
  have GG := G.keeps sg
  have BT' := isTup_keeps BT (SB.stays F2 N2 (by walk_at "mine sub"))
  have BS' : g1.IsList aS vs.toArray := by obtain ⟨n, e⟩ := BS; exact ⟨_, e, rfl, n, rfl⟩
  k_steps
  have BR' : Reps g1 vs six := BR
  have hv6 : vs.length = 6 := BR'.length
  (with_reducible rename Fr _ _ _ _ => F3); (with_reducible rename News _ _ _ _ => N3)
  rename_i oC dC _
  refine compSrc_at rfl F3 N3 (srcAt_sub SB BS' (by walk_at "mine sub")) (by rw [List.size_toArray, hv6, sizeLine_eq]; decide) ?_
  intro gA
  refine restJ (MadeG prog w g1 vs ((_ : Addr × Obj) :: _)) ?_ ⟨fun p hp => hp, [], rfl, rfl, List.nodup_nil, fun j G e => by cases e⟩ ?_
  · intro i v I oI C oC D m2 ys news h tk E' hv hJ hC hx Fi Ni off' ne
    clear F3 N3 BT'
    have hb := hJ.1
    obtain ⟨a, t, rfl, ht, ra⟩ := reps_idx BR' hv
    obtain ⟨hi6, rfl⟩ := six_at ht
    have hsub : ∀ p ∈ imm, p ∈ news := fun p hp => hb p (by simp [hp])
    k_steps
    rename_i dD _ oD _ _ la _ _ _ l1 _ _ oB _ dB
    have N9 := N'
    have m1 : ∀ p ∈ news, p.1 < dD := fun p hp => lM p (.tail _ (.tail _ (.tail _ hp)))
    refine LCg.CompEnd.intro (by assumption) N9 ((dD, oB) :: (la, W.listOf [Value.ref a].toArray 0) :: news) (fun p hp => ?_) (off3_two off' ⟨Nat.ne_of_gt lD.1, Nat.ne_of_gt lD.2.1, Nat.ne_of_gt lD.2.2.1⟩ ⟨Nat.ne_of_gt l1.2.1, Nat.ne_of_gt l1.2.2.1, Nat.ne_of_gt l1.2.2.2.1⟩) (srcAt_sub SB BS' (sub_tail (sub_tail hsub))) ?_
    · rcases List.mem_cons.mp hp with rfl | hp
      · exact .tail _ (.tail _ (.head _))
      · rcases List.mem_cons.mp hp with rfl | hp
        · exact .tail _ (.tail _ (.tail _ (.head _)))
        · rcases List.mem_cons.mp hp with rfl | hp
          · exact .tail _ (.tail _ (.tail _ (.tail _ (.head _))))
          · rcases List.mem_cons.mp hp with rfl | hp
            · exact .tail _ (.head _)
            · rcases List.mem_cons.mp hp with rfl | hp
              · exact .head _
              · exact .tail _ (.tail _ (.tail _ (.tail _ (.tail _ hp))))
    · exact MadeG.step hJ hv (SB.gone (N9 _ (.tail _ (.head _))).2.2 fun p hp => Nat.ne_of_lt (m1 p (hsub p hp))) m1 (allLt_mem l1.2.2.2.2) dB
  intro ys news hJ
  have hb := hJ.1
  clear F3 N3 BT'
  k_steps
  (with_reducible rename Fr _ _ _ _ => F5); (with_reducible rename News _ _ _ _ => N5)
  rename_i aG _ _ o1 aP _ l1 hP
  have hbi : ∀ p ∈ imm, p ∈ news := fun p hp => hb p (by simp [hp])
  have hK1 := hb (aK, W.listOf noneK.toArray ep) (by simp)
  have hS1 := hb (aSrc, lst [.int x0 t1, .int y0 t2] nS) (by simp)
  have hL1 := hb (L + 1, oC) (by simp)
  have aPlt := allLt_mem l1.2
  have nP : g1.get? aP = none := SB.gone (N5 _ (.head _)).2.2 fun p hp => Nat.ne_of_lt (aPlt p (hbi p hp))
  have N6 : News s.heap L hP [(aK, W.listOf noneK.toArray ep), (aSrc, lst [.int x0 t1, .int y0 t2] nS), (aP, W.listOf #[] 0), (L + 1, oC)] := fun p hp => by
    rcases List.mem_cons.mp hp with rfl | hp
    · exact N5 _ (.tail _ (.tail _ hK1))
    · rcases List.mem_cons.mp hp with rfl | hp
      · exact N5 _ (.tail _ (.tail _ hS1))
      · rcases List.mem_cons.mp hp with rfl | hp
        · exact N5 _ (.head _)
        · rcases List.mem_singleton.mp hp with rfl
          exact N5 _ (.tail _ (.tail _ hL1))
  have st5 := SB.stays F5 N5 (sub_tail (sub_tail hbi))
  obtain ⟨imm2, g2, N7, off2, SB2, k2, fill2⟩ := regrow F5 N6 st5 (fun d hd => by
    simp only [List.map_cons, List.map_nil] at hd
    rcases List.mem_cons.mp hd with rfl | hd
    · exact nL
    · rcases List.mem_cons.mp hd with rfl | hd
      · exact nK
      · rcases List.mem_cons.mp hd with rfl | hd
        · exact nN _ (.head _)
        · rcases List.mem_cons.mp hd with rfl | hd
          · exact nP
          · rcases List.mem_singleton.mp hd with rfl
            exact nN _ (.tail _ (.head _)))
  obtain ⟨Gs0, W0⟩ := begun_wd (aG := aG) hJ BR' k2 ⟨_, fill2 aG _ (N5 _ (.tail _ (.head _))).1 (by
      have z := (N5 _ (.tail _ (.head _))).2.1
      have o2 := off1_mem o1
      have z1 := o2 _ hK1; have z2 := o2 _ hS1; have z3 := o2 _ hL1
      have z4 := Nat.ne_of_lt l1.1
      dsimp only at z z1 z2 z3 z4
      simp [z, Ne.symm z1, Ne.symm z2, Ne.symm z3, z4]), rfl, _, rfl⟩ (fun b o hm hn => fill2 b o (N5 _ (.tail _ (.tail _ hm))).1 (by
      have z := (N5 _ (.tail _ (.tail _ hm))).2.1
      have z1 := hn (aK, W.listOf noneK.toArray ep) (by simp); have z2 := hn (aSrc, lst [.int x0 t1, .int y0 t2] nS) (by simp); have z3 := hn (L + 1, oC) (by simp)
      have z4 := Nat.ne_of_lt (aPlt _ hm)
      dsimp only at z z1 z2 z3 z4
      simp [z, Ne.symm z1, Ne.symm z2, Ne.symm z3, z4]))
  simp only [List.cons_append, List.nil_append] at N7
  have fPK : @Ne Nat aK aP := Nat.ne_of_lt (aPlt _ hK1)
  have fPS : @Ne Nat aSrc aP := Nat.ne_of_lt (aPlt _ hS1)
  have fPL : @Ne Nat (L + 1) aP := Nat.ne_of_lt (aPlt _ hL1)
  have jK : ∀ p ∈ imm2, p.1 ≠ aK := fun p hp q => off2 p hp (by simp [q])
  have jS : ∀ p ∈ imm2, p.1 ≠ aSrc := fun p hp q => off2 p hp (by simp [q])
  have jP : ∀ p ∈ imm2, p.1 ≠ aP := fun p hp q => off2 p hp (by simp [q])
  have jL : ∀ p ∈ imm2, p.1 ≠ L + 1 := fun p hp q => off2 p hp (by simp [q])
  clear N5 N6 hJ hb hbi hK1 hS1 hL1 aPlt o1 l1 off2 fill2 iK iS iL st5
  k_steps
  refine wpAny_For ?_
  k_steps
  intro d ud x1 t3 y1 t4 nS1 h6 tk6 hd0 hd1 hz0 hz1 F6 N8
  clear hy0 hy1 N7 F5
  k_steps
  intro hR tkR tR uR vR hr F7 N9 fwdR
  k_steps
  obtain ⟨n, hn⟩ : ∃ n : Nat, 3 + d = (n : Int) := ⟨(3 + d).toNat, by omega⟩
  rw [hn] at hr
  have GG2 := GG.keeps k2
  clear N8 F6 fwdR
  dsimp only at hr
  have fiK : @Ne Nat aK hR.objs.size := Nat.ne_of_lt (Heap.lt_size (N9 _ (.head _)).1)
  have fiS : @Ne Nat aSrc hR.objs.size := Nat.ne_of_lt (Heap.lt_size (N9 _ (.tail _ (.head _))).1)
  have fiP : @Ne Nat aP hR.objs.size := Nat.ne_of_lt (Heap.lt_size (N9 _ (.tail _ (.tail _ (.head _)))).1)
  have fiL : @Ne Nat (L + 1) hR.objs.size := Nat.ne_of_lt (Heap.lt_size (N9 _ (.tail _ (.tail _ (.tail _ (.head _))))).1)
  have BR1 : Reps g1 vs six := BR
  have neS' : aS ≠ aSrc := fun q => by
    obtain ⟨n, e⟩ := BS
    have := nN _ (.head _)
    dsimp only at this
    rw [← q, e] at this; cases this
  have I1 := BI
  obtain ⟨dF, e1, e2, tt1, tt2, BI2⟩ := id BI
  refine For_range (n := n) (fun i m news => LS prog w s.heap g1 hR.objs.size L aF aK aS aSrc aP i m news) rfl rfl rfl hr (by omega) F7 N9 (LS.intro dC hz0 hz1 rfl rfl rfl rfl SB2 k2 (fun p hp => ⟨Nat.ne_of_lt (Heap.lt_size (N9 p (by simp [hp])).1), jK p hp, jS p hp, jP p hp, jL p hp⟩) (Nat.zero_le _) W0) ?_ ?_ ?_
  · rintro i m₁ news₁ ⟨its, ep, x, t1, y, t2, nS, ps, nP, oC, imm, g', σ, rt, aG, Gs, rfl, _, _, _, _, _, _, _, _, _, off, _⟩ p hp
    rcases List.mem_cons.mp hp with rfl | hp
    · exact fiK
    · rcases List.mem_cons.mp hp with rfl | hp
      · exact fiS
      · rcases List.mem_cons.mp hp with rfl | hp
        · exact fiP
        · rcases List.mem_cons.mp hp with rfl | hp
          · exact fiL
          · exact (off p hp).1
  · clear hr W0 SB2 k2 jK jS jP jL GG2 N9 F7 SB dC hz0 hz1
    rintro i tv m₁ news₁ h tk oi hi ⟨its, ep, x, t1, y, t2, nS, ps, nP, oC, imm, g', σ, rt, aG, Gs, rfl, hC, hy0, hy1, ms, mo, mg', mp, SB, kb, off, hps, W⟩ F₁ N₁
    obtain ⟨mm, rfl⟩ := overlay4 ms mo mg' mp
    clear ms mo mg' mp
    dsimp only at N₁ F₁
    have GG' := GG.keeps kb
    have jK : ∀ p ∈ imm, p.1 ≠ aK := fun p hp => (off p hp).2.1
    have jS : ∀ p ∈ imm, p.1 ≠ aSrc := fun p hp => (off p hp).2.2.1
    have jP : ∀ p ∈ imm, p.1 ≠ aP := fun p hp => (off p hp).2.2.2.1
    have jL : ∀ p ∈ imm, p.1 ≠ L + 1 := fun p hp => (off p hp).2.2.2.2
    have jI : ∀ p ∈ imm, p.1 ≠ hR.objs.size := fun p hp => (off p hp).1
    have hS' : g'.IsList aS vs.toArray := BS'.at fun o e => kb _ _ e
    have RV : Reps g' vs six := BR1.keeps kb
    k_steps
    (with_reducible rename Fr _ _ _ _ => F2); (with_reducible rename News _ _ _ _ => N2)
    refine one_call F2 N2 G (by k_updF) (isl_sub SB hS' F2 N2 (by walk_at "mine sub")) neS' hy0 hy1 (by omega) (by omega) rfl (Nat.le_of_ble_eq_true rfl) (Nat.le_of_ble_eq_true rfl) ?_
    intro i1 v1 xa ta ya tb nSa h3 tk3 hv1 hya0 hya1 F3 N3
    clear hy0 hy1 F2 N2
    obtain ⟨a1, T1, rfl, hT1, ra1⟩ := reps_idx RV hv1
    obtain ⟨hi1, rfl⟩ := six_at hT1
    k_steps
    (with_reducible rename Fr _ _ _ _ => F4); (with_reducible rename News _ _ _ _ => N4)
    refine known_call F4 N4 G rfl (Nat.le_of_ble_eq_true rfl) (Nat.le_of_ble_eq_true rfl) ?_
    intro b4 vs4 n4 h5 tk5 F5 N5 e4 f4 R4 fwd4
    have n6 := fun (x : Addr) (hx : _ = none) => ne6_of F4 N4 (x := x) hx
    obtain ⟨imm2, g2, N6, off2, SB2, k2, fill2⟩ := regrow5 F5 N5 SB (fun p hp => hp) off
    have fill2' : ∀ c o, h5.get? c = some o → _ = none → g2.get? c = some o := fun c o e hn => let ⟨q0, q1, q2, q3, q4, q5⟩ := n6 c hn; fill2 c o e q0 q1 q2 q3 q4 q5
    have RK := R4 g2 fill2'
    have hB4 : g2.IsList b4 vs4.toArray := ⟨_, fill2' _ _ e4 f4, rfl, _, rfl⟩
    clear fill2' fill2 n6 R4 e4 f4 fwd4 N5 F4 N4
    have W2 := W.keeps k2
    have kb2 : g1.StaysIn g2 := fun b o e => k2 b o (kb b o e)
    have RV2 := RV.keeps k2
    have hS2 := hS'.at fun o e => k2 _ _ e
    have ra12 := ra1.keeps k2
    have GG2 := GG'.keeps k2
    have I2 := I1.keeps kb2
    have II2 := InstAt.keepsB BI2 kb2
    have l4 : vs4.length = 4 := RK.length
    clear SB W kb off jK jS jP jL jI hS' RV ra1 k2 GG'
    have jK : ∀ p ∈ imm2, p.1 ≠ aK := fun p hp => (off2 p hp).2.1
    have jS : ∀ p ∈ imm2, p.1 ≠ aSrc := fun p hp => (off2 p hp).2.2.1
    have jP : ∀ p ∈ imm2, p.1 ≠ aP := fun p hp => (off2 p hp).2.2.2.1
    have jL : ∀ p ∈ imm2, p.1 ≠ L + 1 := fun p hp => (off2 p hp).2.2.2.2
    have jI : ∀ p ∈ imm2, p.1 ≠ hR.objs.size := fun p hp => (off2 p hp).1
    k_steps
    (with_reducible rename Fr _ _ _ _ => F7); (with_reducible rename News _ _ _ _ => N7)
    rename_i D1 _
    have lD1 := l1
    refine one_call F7 N7 G (by k_updF) ⟨_, (N7 _ (.head _)).1, rfl, _, rfl⟩ (Nat.ne_of_gt lD1.2.2.1) hya0 hya1 (by rw [List.length_append]; omega) (by rw [List.length_append]; omega) rfl (Nat.le_of_ble_eq_true rfl) (Nat.le_of_ble_eq_true rfl) ?_
    intro i2 v2 xb tc yb td nSb h8 tk8 hv2 hyb0 hyb1 F8 N8
    obtain ⟨a2, T2, rfl, hT2, ra2⟩ := reps_idx (RV2.append RK) hv2
    have ok2 : TyOk T2 := ten_at hT2
    clear hya0 hya1 F7 N7
    k_steps
    (with_reducible rename Fr _ _ _ _ => F9); (with_reducible rename News _ _ _ _ => N9)
    refine compSrc_at rfl F9 N9 (srcAt_sub SB2 hS2 (by walk_at "mine sub")) (by rw [List.size_toArray, hv6, sizeLine_eq]; decide) ?_
    intro gA
    refine restU (ResR g2 (rtT rt)) ?_ (srcAt_sub SB2 hS2 (by walk_at "mine sub")) ?_
    · intro v I oI C oC' D m2 ys h tk E' hv hC' hx Fi Ni off' ne hS
      clear F9 N9
      obtain ⟨a, t, rfl, ht, ra⟩ := RV2.mem hv
      have okt : TyOk t := by
        obtain ⟨j, hj⟩ := List.getElem?_of_mem ht
        obtain ⟨h6, rfl⟩ := six_at hj
        intro j' q; cases q; exact h6
      obtain ⟨nr, hrt⟩ := W2.roots.of okt
      have Kn2 := W2.known
      k_steps
      (with_reducible rename Fr _ _ _ _ => Fq); (with_reducible rename News _ _ _ _ => Nq)
      refine cend Fq Nq sub_self off' hS ?_
      exact ⟨_, _, _, rfl, ra, rfl, by assumption⟩
    intro ys P
    have RA := reps_paired RV2 P (fun _ _ _ => Rep.fn)
    clear F9 N9
    k_steps
    (with_reducible rename Fr _ _ _ _ => F10); (with_reducible rename News _ _ _ _ => N10)
    rename_i DA _ _ oDA
    have hmi : Ty.v i1 ∈ six := List.mem_of_getElem? hT1
    refine joined_call F10 N10 G (SB2.stays F10 N10 (by walk_at "mine sub")) W2.list W2.gat ra12 ra2 (W2.inv.cover i1 hi1) (fun G hG => by rw [(W2.gat G hG).reps.length]; exact W2.inv.small hG) W2.inv.len rfl (Nat.le_of_ble_eq_true rfl) (Nat.le_of_ble_eq_true rfl) ?_
    intro G1 G2 v3 h11 tk11 hG1 hM1 H2 F11 N11 fwd11 J11
    have N11' : News s.heap L h11 (_ :: _ :: _ :: _ :: _ :: imm2) := fun p hp => N11 p (.tail _ (.tail _ hp))
    have n6 := fun (x : Addr) (hx : _ = none) => ne6_of F10 (fun p hp => N10 p (.tail _ (.tail _ hp)) : News s.heap L _ (_ :: _ :: _ :: _ :: _ :: imm2)) (x := x) hx
    obtain ⟨imm3, g3, N12, off3, SB3, k3, fill3⟩ := regrow5 F11 N11' SB2 (fun p hp => hp) off2
    have fill3' : ∀ c o, h11.get? c = some o → _ = none → g3.get? c = some o := fun c o e hn => let ⟨q0, q1, q2, q3, q4, q5⟩ := n6 c hn; fill3 c o e q0 q1 q2 q3 q4 q5
    have way := W2.join (SB2.stays F10 N10 (by walk_at "mine sub")) k3 fill3' (fun b o e => SB2.stays F10 N10 (by walk_at "mine sub") b o (kb2 b o e)) hG1 hM1 H2 ra2 ok2 J11
    have hDA : g3.IsList DA ys.toArray := ⟨_, fill3 DA _ (N11 _ (.head _)).1 (N11 _ (.head _)).2.1 (Ne.symm oDA.2.1) (Ne.symm oDA.2.2.1) (Ne.symm oDA.2.2.2.1) (Ne.symm oDA.2.2.2.2.1) (Ne.symm oDA.2.2.2.2.2.1), rfl, _, rfl⟩
    have W3 := W2.keeps k3
    have kb3 : g1.StaysIn g3 := fun b o e => k3 b o (kb2 b o e)
    have RV3 := RV2.keeps k3
    have hS3 : g3.IsList aS vs.toArray := hS2.at fun o e => k3 _ _ e
    have r1 := ra12.keeps k3
    have r2 := ra2.keeps k3
    have GG3 := GG2.keeps k3
    have I3 := I1.keeps kb3
    have II3 := InstAt.keepsB BI2 kb3
    have RA3 := RA.keeps k3
    obtain ⟨n1, hr1⟩ := W3.roots i1 hi1
    obtain ⟨n2, hr2⟩ := W3.roots.of ok2
    have Kn3 := W3.known
    clear fill3' fill3 n6 J11 H2 hG1 hM1 N11 N11' fwd11 N10 F10 RA W2 kb2 RV2 hS2 ra12 ra2 GG2 I2 II2 SB2 k3 jK jS jP jL jI off2 oDA P RK hB4 hv1 hv2 hT1 hT2 hmi
    have jK : ∀ p ∈ imm3, p.1 ≠ aK := fun p hp => (off3 p hp).2.1
    have jS : ∀ p ∈ imm3, p.1 ≠ aSrc := fun p hp => (off3 p hp).2.2.1
    have jP : ∀ p ∈ imm3, p.1 ≠ aP := fun p hp => (off3 p hp).2.2.2.1
    have jL : ∀ p ∈ imm3, p.1 ≠ L + 1 := fun p hp => (off3 p hp).2.2.2.2
    have jI : ∀ p ∈ imm3, p.1 ≠ hR.objs.size := fun p hp => (off3 p hp).1
    rcases way with ⟨rfl, hno⟩ | ⟨aG', o, Gs', rfl, ho, hI', hL', hA', hn'⟩
    · k_steps
      (with_reducible rename Fr _ _ _ _ => F20); (with_reducible rename News _ _ _ _ => N20)
      refine no_call (g₀ := g3) (outer := []) F20 N20 trivial (fun p hp hf => by simp at hf) G (SB3.stays F20 N20 (by walk_at "mine sub")) I3 ⟨_, (N20 _ (.tail _ (.head _))).1, rfl, _, rfl⟩ Kn3 r1 r2 hr1 hr2 hno rfl rfl rfl rfl (Nat.le_of_ble_eq_true rfl) (Nat.le_of_ble_eq_true rfl) ?_
      intro h21 tk21 F21 N21 _
      clear F20 N20
      k_steps
      (with_reducible rename Fr _ _ _ _ => F22); (with_reducible rename News _ _ _ _ => N22)
      refine compSrc_at rfl F22 N22 (srcAt_sub SB3 hS3 (by walk_at "mine sub")) (by rw [List.size_toArray, hv6, sizeLine_eq]; decide) ?_
      intro gB
      refine restU (ResR g3 (rtT rt)) ?_ (srcAt_sub SB3 hS3 (by walk_at "mine sub")) ?_
      · intro v I oI C oC' D m2 ys h tk E' hv hC' hx Fi Ni off' ne hS
        clear F22 N22
        obtain ⟨a, t, rfl, ht, ra⟩ := RV3.mem hv
        have okt : TyOk t := by
          obtain ⟨j, hj⟩ := List.getElem?_of_mem ht
          obtain ⟨h6, rfl⟩ := six_at hj
          intro j' q; cases q; exact h6
        obtain ⟨nr, hrt⟩ := W3.roots.of okt
        k_steps
        (with_reducible rename Fr _ _ _ _ => Fq); (with_reducible rename News _ _ _ _ => Nq)
        refine cend Fq Nq sub_self off' hS ?_
        exact ⟨_, _, _, rfl, ra, rfl, by assumption⟩
      intro ys2 P2
      have RA4 := reps_paired RV3 P2 (fun _ _ _ => Rep.fn)
      clear F22 N22 P2
      k_steps
      (with_reducible rename Fr _ _ _ _ => F23); (with_reducible rename News _ _ _ _ => N23)
      have st23 := SB3.stays F23 N23 (by walk_at "mine sub")
      refine told_call (g₀ := g3) F23 N23 st23 GG3 I3 ⟨_, (N23 _ (.tail _ (.tail _ (.head _)))).1, rfl, _, rfl⟩ (W3.known.keeps st23) (W3.list.at fun o e => st23 _ _ e) (fun G hG => (W3.gat G hG).keeps st23) W3.told rfl (Nat.le_of_ble_eq_true rfl) (Nat.le_of_ble_eq_true rfl) ?_
      intro h25 tk25 F25 N25
      clear F23 N23 st23
      k_steps
      (with_reducible rename Fr _ _ _ _ => F24); (with_reducible rename News _ _ _ _ => N24)
      exact ⟨_, _, _, _, rfl, F24, fun p hp => N24 p (.tail _ hp), LS.intro hC hyb0 hyb1 rfl rfl rfl rfl SB3 kb3 off3 (Nat.le_succ_of_le hps) W3⟩
    · k_steps
      (with_reducible rename Fr _ _ _ _ => F20); (with_reducible rename News _ _ _ _ => N20)
      refine yes_call (g₀ := g3) F20 N20 (by k_updF) (SB3.stays F20 N20 (by walk_at "mine sub")) (SB3.gone (N20 _ (.tail _ (.head _))).2.2 jK) GG3 I3 Kn3 r1 r2 hr1 hr2 ho rfl (Nat.le_of_ble_eq_true rfl) (Nat.le_of_ble_eq_true rfl) ?_
      intro h21 tk21 ep2 its2 TT F21 N21 _
      clear F20 N20
      obtain ⟨K4, R4⟩ := turned W3.known W3.roots hr1.isRoot hr2.isRoot ho (by cases o with | none => exact TT | some p => exact TT)
      have W4 : Wd prog w g1 g3 its2 (sgO σ o) (rtO rt o) aG' Gs' ps := ⟨K4, R4, hI', hL', hA', hn', fun v hv => let ⟨a, x, y, t, r, e, h1, h2, h3, h4, h5, h6⟩ := W3.pairs v hv; ⟨a, x, y, t, r, e, h1, h2, h3, h4, h5, one_keeps h6⟩⟩
      dsimp only at N21
      k_steps
      (with_reducible rename Fr _ _ _ _ => F22); (with_reducible rename News _ _ _ _ => N22)
      rename_i Dp _ _ _ lDp _
      have st22 := SB3.stays F22 N22 (by walk_at "mine sub")
      refine told_call (g₀ := g3) F22 N22 st22 GG3 I3 ⟨_, (N22 _ (.tail _ (.tail _ (.head _)))).1, rfl, _, rfl⟩ (W4.known.keeps st22) (W4.list.at fun o e => st22 _ _ e) (fun G hG => (W4.gat G hG).keeps st22) W4.told rfl (Nat.le_of_ble_eq_true rfl) (Nat.le_of_ble_eq_true rfl) ?_
      intro h23 tk23 F23 N23
      clear F22 N22 st22
      k_steps
      (with_reducible rename Fr _ _ _ _ => F24); (with_reducible rename News _ _ _ _ => N24)
      have N25 : News s.heap L h23 (_ :: _ :: _ :: _ :: _ :: imm3) := fun p hp => N24 p (.tail _ hp)
      obtain ⟨imm4, g4, N26, off4, SB4, k4, fill4⟩ := regrow5 F24 N25 SB3 (fun p hp => hp) off3
      have zp := N24 _ (.head _)
      have hDp := fill4 Dp _ zp.1 zp.2.1 (Nat.ne_of_gt lDp.1) (Nat.ne_of_gt lDp.2.1) (Nat.ne_of_gt lDp.2.2.1) (Nat.ne_of_gt lDp.2.2.2.1) (Nat.ne_of_gt lDp.2.2.2.2.1)
      have W5 := W4.keeps k4
      refine ⟨_, _, _, _, rfl, F24, N26, LS.intro hC hyb0 hyb1 rfl rfl rfl rfl SB4 (fun b o e => k4 _ _ (kb3 b o e)) off4 (by rw [List.length_append, List.length_singleton]; omega) ⟨W5.known, W5.roots, W5.inv, W5.list, W5.gat, W5.new, fun v hv => ?_⟩⟩
      rcases List.mem_append.mp hv with hv | hv
      · exact W5.pairs v hv
      · obtain rfl := List.mem_singleton.mp hv
        refine ⟨Dp, a2, a1, T2, .v i1, rfl, ⟨_, hDp, rfl, _, rfl⟩, r2.keeps k4, r1.keeps k4, ok2, fun j q => by cases q; exact hi1, (one_made (t := .v i1) (r := T2) ho).symm⟩
  · clear hr W0 SB2 k2 jK jS jP jL GG2 N9 F7 SB dC hz0 hz1
    rintro m₁ news₁ h tk ⟨its, ep, x, t1, y, t2, nS, ps, nP, oC, imm, g', σ, rt, aG, Gs, rfl, hC, hy0, hy1, ms, mo, mg', mp, SB, kb, off, hps, W⟩ F₁ N₁
    obtain ⟨mm, rfl⟩ := overlay4 ms mo mg' mp
    clear ms mo mg' mp
    have GG' := GG.keeps kb
    have jK : ∀ p ∈ imm, p.1 ≠ aK := fun p hp => (off p hp).2.1
    have jS : ∀ p ∈ imm, p.1 ≠ aSrc := fun p hp => (off p hp).2.2.1
    have jP : ∀ p ∈ imm, p.1 ≠ aP := fun p hp => (off p hp).2.2.2.1
    have jL : ∀ p ∈ imm, p.1 ≠ L + 1 := fun p hp => (off p hp).2.2.2.2
    have hS' : g'.IsList aS vs.toArray := BS'.at fun o e => kb _ _ e
    have RV : Reps g' vs six := BR1.keeps kb
    have I' := I1.keeps kb
    have II' := InstAt.keepsB BI2 kb
    have Kn' := W.known
    k_steps
    (with_reducible rename Fr _ _ _ _ => F22); (with_reducible rename News _ _ _ _ => N22)
    refine compSrc_at rfl F22 N22 (srcAt_sub SB hS' (by walk_at "mine sub")) (by rw [List.size_toArray, hv6, sizeLine_eq]; decide) ?_
    intro gB
    refine restU (ResR g' (rtT rt)) ?_ (srcAt_sub SB hS' (by walk_at "mine sub")) ?_
    · intro v I oI C oC' D m2 ys h tk E' hv hC' hx Fi Ni off' ne hS
      clear F22 N22
      obtain ⟨a, t, rfl, ht, ra⟩ := RV.mem hv
      have okt : TyOk t := by
        obtain ⟨j, hj⟩ := List.getElem?_of_mem ht
        obtain ⟨h6, rfl⟩ := six_at hj
        intro j' q; cases q; exact h6
      obtain ⟨nr, hrt⟩ := W.roots.of okt
      k_steps
      (with_reducible rename Fr _ _ _ _ => Fq); (with_reducible rename News _ _ _ _ => Nq)
      refine cend Fq Nq sub_self off' hS ?_
      exact ⟨_, _, _, rfl, ra, rfl, by assumption⟩
    intro ys P
    have RA := reps_paired RV P (fun _ _ _ => Rep.fn)
    clear F22 N22 P
    k_steps
    (with_reducible rename Fr _ _ _ _ => F23); (with_reducible rename News _ _ _ _ => N23)
    rename_i DA _ _ oDA
    replace N23 : News s.heap L _ _ := N23
    refine wpAny_For ?_
    k_steps
    obtain ⟨mm, F24⟩ := fr_overlay (Str.ofString "ahead") (Str.ofString "some") (Str.ofString "groups") (Str.ofString "pairs") F23 rfl rfl rfl rfl
    have hps100 : n < 20 := by omega
    refine For_listT (l := aP) (vs := ps) (fun j m nw => (∃ u1 u2, m = fun z => if z = Str.ofString "other" then u2 else if z = Str.ofString "one" then u1 else (fun y => if y = Str.ofString "ahead" then some (Value.ref DA) else if y = Str.ofString "some" then some (Value.ref aS) else if y = Str.ofString "groups" then some (Value.ref aG) else if y = Str.ofString "pairs" then some (Value.ref aP) else mm y) z) ∧ ∃ ep', nw = (DA, LCg.lst ys) :: (aK, PySem.W.listOf its.toArray ep') :: (aSrc, lst [.int x t1, .int y t2] nS) :: (aP, PySem.W.listOf ps.toArray nP) :: (L + 1, oC) :: imm) rfl ⟨_, (N23 _ (.tail _ (.tail _ (.tail _ (.head _))))).1, rfl, _, rfl⟩ F24 N23 ⟨⟨_, _, putU2⟩, ep, rfl⟩ ?_ ⟨PySem.W.listOf ps.toArray nP, ?_⟩ ?_ ?_
    · rintro j m nw ⟨_, ep', rfl⟩ p hp
      rcases List.mem_cons.mp hp with rfl | hp
      · exact Nat.ne_of_lt (Heap.lt_size (N23 _ (.head _)).1)
      · rcases List.mem_cons.mp hp with rfl | hp
        · exact Nat.ne_of_lt (Heap.lt_size (N23 _ (.tail _ (.head _))).1)
        · exact Nat.ne_of_lt (Heap.lt_size (N23 _ (.tail _ (.tail _ hp))).1)
    · rintro j m nw h' ⟨_, ep', rfl⟩ _ N'
      exact (N' _ (.tail _ (.tail _ (.tail _ (.head _))))).1
    · rintro j v _ _ h' tk' oi hv ⟨⟨u1, u2, rfl⟩, ep', rfl⟩ F30 N30 ⟨iv, hit⟩
      obtain ⟨a, xx, yy, t, r, rfl, BTp, rx, ry, okt, okr, hroot⟩ := W.pairs v (List.mem_of_getElem? hv)
      refine wpAny_letOwnedTupleGo_listiter hit ?_
      have BTp' := isTup_keeps BTp (SB.stays F30 N30 (by walk_at "mine sub"))
      have gK : @Ne Nat aK _ := Nat.ne_of_lt (Heap.lt_size (N23 _ (.tail _ (.head _))).1)
      clear F23 F24 N23 hit
      k_steps
      (with_reducible rename Fr _ _ _ _ => F31); (with_reducible rename News _ _ _ _ => N31)
      obtain ⟨nt, hrt⟩ := W.roots.of okt
      obtain ⟨nr, hrr⟩ := W.roots.of okr
      refine yes_call (g₀ := g') (o := none) F31 N31 (by k_updF) (SB.stays F31 N31 (by walk_at "mine sub")) (SB.gone (N31 _ (.tail _ (.tail _ (.head _)))).2.2 jK) GG' I' Kn' rx ry hrt hrr (by rw [hroot]; exact unifyTo_refl) rfl (Nat.le_of_ble_eq_true rfl) (Nat.le_of_ble_eq_true rfl) ?_
      intro h32 tk32 ep2 its2 TT F32 N32 _
      obtain rfl : its2 = its := TT
      dsimp only at N32
      clear F31 N31
      k_steps
      (with_reducible rename Fr _ _ _ _ => F33); (with_reducible rename News _ _ _ _ => N33)
      exact ⟨_, _, _, _, rfl, F33, N33, ⟨_, _, put2⟩, ep2, rfl⟩
    · rintro _ _ h' tk' ⟨⟨u1, u2, rfl⟩, ep', rfl⟩ F30 N30
      clear F23 F24 N23
      k_steps
      (with_reducible rename Fr _ _ _ _ => F35); (with_reducible rename News _ _ _ _ => N35)
      refine compSrc_at rfl F35 N35 (srcAt_sub SB hS' (by walk_at "mine sub")) (by rw [List.size_toArray, hv6, sizeLine_eq]; decide) ?_
      intro gC
      refine restU (ResR g' (rtT rt)) ?_ (srcAt_sub SB hS' (by walk_at "mine sub")) ?_
      · intro v I oI C oC' D m2 ys h tk E' hv hC' hx Fi Ni off' ne hS
        clear F35 N35
        obtain ⟨a, t, rfl, ht, ra⟩ := RV.mem hv
        have okt : TyOk t := by
          obtain ⟨j, hj⟩ := List.getElem?_of_mem ht
          obtain ⟨h6, rfl⟩ := six_at hj
          intro j' q; cases q; exact h6
        obtain ⟨nr, hrt⟩ := W.roots.of okt
        k_steps
        (with_reducible rename Fr _ _ _ _ => Fq); (with_reducible rename News _ _ _ _ => Nq)
        refine cend Fq Nq sub_self off' hS ?_
        exact ⟨_, _, _, rfl, ra, rfl, by assumption⟩
      intro ys2 P2
      have RA2 := reps_paired RV P2 (fun _ _ _ => Rep.fn)
      clear F35 N35 P2
      k_steps
      (with_reducible rename Fr _ _ _ _ => F40); (with_reducible rename News _ _ _ _ => N40)
      replace F40 : Fr s.heap L _ _ := F40
      replace N40 : News s.heap L _ _ := N40
      have zK := N40 _ (.tail _ (.tail _ (.head _)))
      refine defaults_call (rt := rt) (g' := g') F40 N40 SB (by walk_at "mine sub") sg kb GG BI zK.1 (SB.gone zK.2.2 jK) (Ne.symm zK.2.1) BN W rfl (Nat.le_of_ble_eq_true rfl) (Nat.le_of_ble_eq_true rfl) ?_
      intro h41 tk41 F41
      clear zK N40 F40
      have N41 : News s.heap L h41 [] := News.nil
      k_steps
      (with_reducible rename Fr _ _ _ _ => F42)
      refine fixed_call F42 G rfl rfl rfl rfl (Nat.le_of_ble_eq_true rfl) (Nat.le_of_ble_eq_true rfl) ?_
      intro h43 tk43 kk
      exact hQ _ _ kk
end PartS25
section PartS26
theorem law_holds : PySem.Challenge.rw_ot0010_01.Holds := hd (by
  k_fill
  intro w s₀ s₁ mg mb G Y fa o pm cd doc dV kV ho hd hcd hD hmg hg args vals as hpre hlay hrd hwl hlo
  have KX := kIn_of Y
  refine Ground.open G ?_
  intro T B D TE TW
  try (refine guard_noD D (by decide +kernel) ?_; clear D)
  wrow_args hpre hlay hrd hwl hlo
  rename IntsAre _ _ => hI
  have hfa : fa = 234 := by
    have e : mg (Str.ofString "law") = some (.ref 234) := mg_of KX T.g (by k_is)
    have e2 : mg (Str.ofString "law") = some (.ref fa) := hmg
    rw [e] at e2
    exact (Value.ref.inj (Option.some.inj e2)).symm
  subst hfa
  have GG : G0 w mg mb s₁.heap := ⟨KX, topRead_of T⟩
  refine wpAny_call (law_run GG hI ?_ (by assumption) fun h' tk' st => ?_)
  · have := hI.length
    omega
  · refine GoodW.toG ⟨.inl ⟨.bool true, .bool true, [], rfl, fun _ => rfl, .bool true, ?_, unshared_nil⟩, st, rfl, hg⟩
    wrow_post)
end PartS26
end Mine
theorem PySem.Challenge.cw_ot0010_01_holds : PySem.Challenge.rw_ot0010_01.Holds := by
  exact Mine.law_holds
