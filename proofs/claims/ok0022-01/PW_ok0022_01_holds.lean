import PyProof.Rows.All
import Wide.All
import OpenK.AllK
import Wide.FinOn
import Lean
import PySem.Challenge.RW_ok0022_01
open PySem PySem.W PySem.Calls PyProof.Rows
set_option Elab.async false
set_option maxRecDepth 100000
set_option maxHeartbeats 80000000
set_option genSizeOf false
set_option genInjectivity false
set_option compiler.extract_closed false
namespace Mine
section
/-- the head in one run: the top's whole run on a tree of objects, its end unnamed -/
noncomputable abbrev pw : Program := PySem.Challenge.pw_ok0022_01
noncomputable def vw : Program := PySem.W.view PySem.Challenge.pw_ok0022_01 [0, 2, 3, 4, 5, 6, 7, 8, 9, 11, 12, 13, 15, 16, 17, 18, 19, 20, 21, 22, 23, 24, 26, 27, 28, 30, 31, 32, 33, 34, 35, 36, 37, 38]
theorem end_through (t : Thread) : through t = (endAt 0 t).isSome := by
  obtain ⟨cur, code, pos, stack⟩ := t
  cases stack with
  | cons a l => rfl
  | nil =>
    cases cur with
    | pure x => cases x <;> rfl
    | _ => rfl
theorem seg_zero {tb : String → Option Builtin} {p : Program} {w : World} {n₀ : Nat} {ann : Option Value} : ∀ (n : Nat) {s : Shared} {t : Thread} {r : Flow × Shared × Code × Pos}, segRun tb p w n₀ ann 0 n s t = some r → topRun tb p w n₀ ann n s t = some r.2.1
  | 0, _, _, _, h => by simp [segRun] at h
  | n + 1, s, t, r, h => by
    have e := end_through t
    unfold segRun at h
    unfold topRun
    cases he : endAt 0 t with
    | some f => rw [he] at h e; rw [e]; cases h; rfl
    | none =>
      rw [he] at h e
      rw [e]
      dsimp only at h ⊢
      cases hk : stepOk n₀ ann t with
      | false => rw [hk] at h; cases h
      | true =>
        rw [hk] at h
        dsimp only at h ⊢
        cases hs : step (denote tb) p w s t with
        | halt o s₂ => rw [hs] at h; cases h
        | go s₂ t₂ => rw [hs] at h; exact seg_zero n h
/-- what the head looks at, behind the run -/
noncomputable def looked {α : Type} (p q : Program) (loose mods : List Str) (Xt : Shared → Bool) (Yf : Shared → α) (h : Heap) (s : Shared) :=
  ((staticsOk mods h s.heap && namesBound p s.heap && gensDone s && laidKept h s.heap), openSeen q loose mods Xt true s, Yf s)
theorem left_run {p q : Program} {loose : List Str} {Xt : Shared → Bool} {α : Type} {Yf : Shared → α} {Ya : World → α} {N : Nat} {H₀ : Params → Heap} {gs₀ : Array GenState} {d₀ : Drawn} {k₀ m₀ : Nat} {ann : Option Value} {T : World → OsState → SharedT}
    (open_ : ∀ w : World, (fencedOpening treeTable p w N).map (fun s => (s.heap, s.gens, s.drawn, s.toks)) = some (H₀ w.params, gs₀, d₀, k₀))
    (size : ∀ w : World, ((H₀ w.params).isNs mainGlobals && gs₀.size == 0, (H₀ w.params).objs.size, (H₀ w.params).nsMap mainGlobals (Str.ofString "__annotations__")) = (true, m₀, ann))
    (tree : ∀ w os, (T w os).abs = ⟨H₀ w.params, gs₀, d₀, k₀, os⟩)
    (run : ∀ w : World, (fun os => (segRunT treeTable p w m₀ ann 0 N (T w os) (topStub p)).map fun r => looked p q loose (importedModules p.main.body) Xt Yf (H₀ w.params) r.2.1.abs) = fun _ => some (true, openGood q loose, Ya w)) :
    LeftO p q loose Xt Yf Ya N := fun w => by
  obtain ⟨⟨h, gs, d, k, os⟩, e, e'⟩ := Option.map_eq_some_iff.mp (open_ w)
  simp only [Prod.mk.injEq] at e'
  obtain ⟨rfl, rfl, rfl, rfl⟩ := e'
  have sz := size w
  simp only [Prod.mk.injEq] at sz
  obtain ⟨z1, z2, z3⟩ := sz
  obtain ⟨⟨f, s', c, q'⟩, hr, hl⟩ := Option.map_eq_some_iff.mp (congrFun (run w) os)
  have hr := seg_zero _ (segRun_of hr)
  rw [tree w os] at hr
  unfold looked at hl
  simp only [Prod.mk.injEq] at hl
  obtain ⟨l1, l2, l3⟩ := hl
  unfold openEnds
  rw [e]
  show (topFrom treeTable p w N _).map _ = _
  have t : topFrom treeTable p w N ⟨H₀ w.params, gs, d, k, os⟩ = some s'.abs := by
    unfold topFrom
    dsimp only
    rw [z1, z2]
    have z4 : (H₀ w.params).nsMap mainGlobals (Str.ofString "__annotations__") = ann := z3
    dsimp only
    show (topRun treeTable p w m₀ ((H₀ w.params).nsMap mainGlobals (Str.ofString "__annotations__")) N _ (topStub p)).bind _ = _
    rw [z4, hr]
    show (match staticsOk (importedModules p.main.body) (H₀ w.params) s'.abs.heap && namesBound p s'.abs.heap && gensDone s'.abs && laidKept (H₀ w.params) s'.abs.heap with | true => some s'.abs | false => none) = _
    rw [l1]
  rw [t]
  exact congrArg some (Prod.ext l2 l3)
noncomputable def btOf (l : List Obj) : BT := l.zipIdx.foldl (fun t x => t.ins x.2 x.1) .nil
noncomputable def sT (w : World) (os : OsState) : SharedT := ⟨btOf (boot_heap w.params).objs.toList, (boot_heap w.params).objs.size, (boot_heap w.params).life, #[], boot_drawn, boot_toks, os⟩
theorem sT_abs (w : World) (os : OsState) : (sT w os).abs = ⟨boot_heap w.params, #[], boot_drawn, boot_toks, os⟩ := by kernel_rfl
theorem pw_open : opening pw = plainProg pw.main.scope.names := by kernel_rfl
theorem pw_fence (s : Shared) : fenceModules? pw s = some s := by kernel_rfl
theorem boot_size (w : World) : ((boot_heap w.params).isNs mainGlobals && (#[] : Array GenState).size == 0, (boot_heap w.params).objs.size, (boot_heap w.params).nsMap mainGlobals (Str.ofString "__annotations__")) = (true, 11, some (Value.ref 6)) := by kernel_rfl
section
local macro_rules | `(tactic| o_head $_) => `(tactic| (exfalso; assumption))
theorem frag (h : False) : (OpenLaw.row PySem.Challenge.rw_ok0022_01).Holds := by k_head
end
theorem said_row : PySem.W.OpenRow.wellSaid (PySem.W.OpenLaw.row PySem.Challenge.rw_ok0022_01) = true := by
  rw [PySem.W.Fast.te17960256430627541270]
  kernel_rfl
theorem said : PySem.W.OpenLaw.wellSaid PySem.Challenge.rw_ok0022_01 = true := by
  unfold PySem.W.OpenLaw.wellSaid
  rw [said_row]
  rw [PySem.W.Fast.te8326940854005059898, PySem.W.Fast.te17119622794617984870, PySem.W.Fast.te8179353310426384613, PySem.W.Fast.te10501279942588096481, PySem.W.Fast.te9558739934217749035, PySem.W.Fast.te16286561074155671207, PySem.W.Fast.named_eq, PySem.W.Fast.te10792542408131684335, PySem.W.Fast.te797321630700447069, PySem.W.Fast.te6984425678791042302, PySem.W.Fast.te482687673346738481, PySem.W.Fast.te12879404354523853263]
  kernel_rfl
noncomputable abbrev kas : List Addr := [2, 3, 15, 17, 18, 20, 21, 22, 29, 30, 31, 32, 35, 42, 44, 45, 47, 48, 49, 50, 51, 54, 56, 57, 59, 60, 61, 63, 64, 66, 67, 75, 77, 78, 80, 81, 82, 84, 85, 87, 88, 89, 91, 92, 94, 95, 96, 98, 99, 101, 102, 103, 105, 106, 108, 109, 110, 112, 113, 115, 116, 117, 119, 120, 122, 123, 124, 126, 127, 129, 130, 131, 133, 134, 136, 137, 138, 140, 141, 143, 144, 145, 147, 148, 150, 151, 152, 153, 154, 155, 156, 159, 161, 162, 164, 165, 166, 168, 169, 171, 172, 173, 175, 176, 178, 179, 180, 188, 189, 191, 192, 194, 195, 196, 198, 199, 201, 202, 203, 205, 206, 208, 209, 210, 212, 213, 215, 216, 217, 219, 220, 222, 223, 224, 226, 227, 229, 230, 231, 233, 234, 236, 237, 238, 240, 241, 243, 244, 245, 247, 248, 250, 251, 252, 254, 255, 257, 258, 259, 261, 262, 264, 265, 266, 268, 269, 271, 272, 273, 275, 276, 278, 279, 280, 282, 283, 285, 286, 287, 289, 290, 292, 293, 294, 296, 297, 299, 300, 301, 303, 304, 306, 307, 308, 310, 311, 313, 314, 315, 317, 318, 320, 321, 322, 323, 324, 325, 326, 329, 336, 338, 339, 341, 342, 343, 344, 346, 347, 349, 350, 351, 353, 354, 356, 357, 358, 360, 361, 363, 364, 365, 367, 368, 370, 371, 372, 373, 374, 377, 379, 380, 382, 383, 384, 386, 387, 389, 390, 391, 393, 394, 396, 397, 398, 400, 401, 403, 404, 405, 407, 408, 410, 411, 412, 414, 415, 417, 418, 419, 422, 423, 424, 427, 428, 429, 431, 432, 434, 435, 436, 438, 439, 441, 442, 443, 445, 446, 448, 449, 450, 453, 454]
theorem kas_eq (P : Params) : kas = (frag.heap_1 P).map (fun x => x.1) := by kernel_rfl
noncomputable abbrev kH : Hook := kHook frag.heap_1 kas kas_eq
noncomputable abbrev lvs : List (Str × WData) := [(Str.ofString "VOID", WData.tuple [WData.int 5, WData.int 0])]
noncomputable abbrev lsE : List Str := [Str.ofString "VOID", Str.ofString "Store"]
noncomputable abbrev xt : Shared → Bool := fun s => xlAt vw lvs s && recOk (RowW.records (OpenRow.toRowW (OpenLaw.row PySem.Challenge.rw_ok0022_01))) s
noncomputable abbrev seenNow (s : Shared) := openSeen vw lsE (importedModules pw.main.body) xt true s
noncomputable abbrev keptNow (w : World) (s : Shared) : Bool := staticsOk (importedModules pw.main.body) (boot_heap w.params) s.heap && namesBound pw s.heap && gensDone s && laidKept (boot_heap w.params) s.heap
theorem run_a (w : World) : (fun os => (segRunT treeTable pw w 11 (some (Value.ref 6)) 0 5896 (sT w os) (topStub pw)).map fun r => (keptNow w r.2.1.abs, (seenNow r.2.1.abs).1, (seenNow r.2.1.abs).2.1)) = fun _ => some (true, expectedOf vw, bltViewBooted) := by
  unfold keptNow seenNow
  rw [PySem.W.Fast.te10110043849684766642, PySem.W.Fast.te14364793385576792824, PySem.W.Fast.te4187177175401517315, PySem.W.Fast.te5923862056798008813]
  kernel_rfl
theorem run_b (w : World) : (fun os => (segRunT treeTable pw w 11 (some (Value.ref 6)) 0 5896 (sT w os) (topStub pw)).map fun r => (seenNow r.2.1.abs).2.2) = fun _ => some (true, true, pinGoodD (drecsOf vw), plainGoodE vw (looseW vw lsE), plainGoodD vw lsE, wideGood vw, clsGoodW vw lsE) := by
  unfold seenNow
  rw [PySem.W.Fast.te10110043849684766642, PySem.W.Fast.te14364793385576792824, PySem.W.Fast.te4187177175401517315, PySem.W.Fast.te5923862056798008813]
  kernel_rfl
theorem run_c (w : World) : (fun os => (segRunT treeTable pw w 11 (some (Value.ref 6)) 0 5896 (sT w os) (topStub pw)).map fun r => kH.obs r.2.1.abs) = fun _ => some (kH.val w) := by
  rw [PySem.W.Fast.te10110043849684766642, PySem.W.Fast.te14364793385576792824]
  kernel_rfl
theorem run_looked (w : World) : (fun os => (segRunT treeTable pw w 11 (some (Value.ref 6)) 0 5896 (sT w os) (topStub pw)).map fun r => looked pw vw lsE (importedModules pw.main.body) xt kH.obs (boot_heap w.params) r.2.1.abs) = fun _ => some (true, openGood vw lsE, kH.val w) := by
  funext os
  have a := congrFun (run_a w) os
  have b := congrFun (run_b w) os
  have c := congrFun (run_c w) os
  (try dsimp only at a b c ⊢)
  generalize (segRunT treeTable pw w 11 (some (Value.ref 6)) 0 5896 (sT w os) (topStub pw)) = x at a b c ⊢
  cases x with
  | none => cases a
  | some r =>
    have a := Option.some.inj a
    have b := Option.some.inj b
    have c := Option.some.inj c
    have a1 := congrArg Prod.fst a
    have a2 := congrArg (fun z => z.2.1) a
    have a3 := congrArg (fun z => z.2.2) a
    exact congrArg some (Prod.ext a1 (Prod.ext (Prod.ext a2 (Prod.ext a3 b)) c))
theorem hleft : LeftO pw vw lsE xt kH.obs kH.val 5896 :=
  left_run (boot_open (pw_open) rfl pw_fence) boot_size sT_abs run_looked
end
noncomputable abbrev AA (d u : Nat) : Around := { handled := none, depth := d, frames := none, guards := none, units := u }
theorem in_big {Γ : Ctx} {A : Around} {d u : Nat} (h : Γ.In A) (hh : A.handled = none) (hd : A.depth ≤ d) (hu : A.units ≤ u) : Γ.In (AA d u) :=
  ⟨h.1.trans hh, Nat.le_trans h.2.1 hd, fun _ e => (nomatch e), fun _ e => (nomatch e), Nat.le_trans h.2.2.2.2 hu⟩
theorem below_big {Γ : Ctx} {A : Around} {d u : Nat} (h : Γ.Below A) (hh : A.handled = none) (hd : A.depth ≤ d) (hu : A.units ≤ u) : Γ.Below (AA d u) :=
  ⟨h.1.trans hh, Nat.le_trans h.2.1 hd, fun _ e => (nomatch e), fun _ e => (nomatch e), Nat.le_trans h.2.2.2.2 hu⟩
theorem wp_big {α : Type} {M : Model} {A : Around} {t : Sem α} {Q : α → Shared → Prop} {E : Value → Shared → Prop} {s : Shared} {d u : Nat} (hh : A.handled = none) (hd : A.depth ≤ d) (hu : A.units ≤ u)
    (h : wpAny M (AA d u) t Q E s) : wpAny M A t Q E s := fun Γ p g => h Γ p (in_big g hh hd hu)
theorem code_big {M : Model} {A : Around} {c : Code} {R : Result → Shared → Prop} {s : Shared} {d u : Nat} (hh : A.handled = none) (hd : A.depth ≤ d) (hu : A.units ≤ u)
    (h : codeAny M (AA d u) c R s) : codeAny M A c R s := fun Γ p hc g => h Γ p hc (below_big g hh hd hu)

/-- the top's part and the names, over a root heap that all later heaps keep -/
structure Cx (w : World) (mg mb : Str → Option Value) (R h : Heap) : Prop where
  x : (frag.heap_1 w.params).In R
  t : TopRead vw (looseW vw [Str.ofString "VOID", Str.ofString "Store"]) mg mb R
  k : ∀ b o, R.get? b = some o → h.get? b = some o

noncomputable def Kept (W : List Addr) (h h' : Heap) : Prop := ∀ b o, h.get? b = some o → b ∉ W → h'.get? b = some o
theorem Kept.refl (W : List Addr) (h : Heap) : Kept W h h := fun _ _ e _ => e
theorem Kept.trans {W : List Addr} {h₁ h₂ h₃ : Heap} (a : Kept W h₁ h₂) (b : Kept W h₂ h₃) : Kept W h₁ h₃ := fun c o e n => b c o (a c o e n) n
theorem Kept.wider {W W' : List Addr} {h h' : Heap} (a : Kept W h h') (hs : ∀ x ∈ W, x ∈ W') : Kept W' h h' := fun c o e n => a c o e fun m => n (hs c m)

/-- what a def's frame stands on: all of the heap but the objects it may change -/
structure Ent (h g : Heap) (L : Addr) (mt : List (Addr × Obj)) : Prop where
  sz : L = h.objs.size
  up : ∀ b o, h.get? b = some o → b ∉ mt.map (·.1) → g.get? b = some o
  dn : ∀ b o, g.get? b = some o → h.get? b = some o
theorem Ent.kept {h g h' : Heap} {L : Addr} {mt : List (Addr × Obj)} {m' : Str → Option Value} (e : Ent h g L mt) (F : Fr g L h' m') : Kept (mt.map (·.1)) h h' :=
  fun b o q n => F.keep b o (e.up b o q n)
theorem Ent.kept0 {h g h' : Heap} {L : Addr} {m' : Str → Option Value} (e : Ent h g L []) (F : Fr g L h' m') : Kept [] h h' := e.kept F
theorem Ent.up0 {h g : Heap} {L : Addr} (e : Ent h g L []) : ∀ b o, h.get? b = some o → g.get? b = some o := fun b o q => e.up b o q (by simp)

theorem enterC {w : World} {prog : Program} {A : Around} {s : Shared} {mg mb : Str → Option Value} {R : Heap} {Rr : Result → Shared → Prop} {mt : List (Addr × Obj)}
    {name qual : Str} {params : Arguments} {body : List Stmt} {scope : Scope} {dV kV doc pm cdv ct oc : Value} {an od : Option Addr} {osl : Array (Option Value)} {f : Addr} {args : List Value} {kw : List (Str × Value)} {binds : List (Str × Value)}
    (C : Cx w mg mb R s.heap) (M : ∀ p ∈ mt, s.heap.get? p.1 = some p.2 ∧ R.get? p.1 = none)
    (ho : (frag.heap_1 w.params).lookup f = some ⟨oc, od, .func (fnOf name qual params body scope dV kV doc pm an cdv ct), osl⟩) (hcd : codeIn (frag.heap_1 w.params) cdv qual = true) (hroom : A.depth < recursionLimit)
    (hbind : BindsTo s (fnOf name qual params body scope dV kV doc pm an cdv ct) ⟨args, kw⟩ binds) (hloc : ∀ y ∈ binds, scope.names.lookup y.1 = some .local)
    (h : ∀ g L h₁, Ent s.heap g L mt → (frag.heap_1 w.params).In g → TopRead vw (looseW vw [Str.ofString "VOID", Str.ofString "Store"]) mg mb g → Fr g L h₁ (fun y => binds.reverse.lookup y) → News g L h₁ mt →
      wpAny (model prog w) (A.deeper (envOf qual scope L f cdv)) (execs body (envOf qual scope L f cdv)) (fun fl s' => Rr (.ok (.ret (match fl with | .ret v => v | _ => .none))) s') (fun _ _ => False) { s with heap := h₁, toks := s.toks + binds.length })
    (hco : scope.isCoroutine = false) (hgen : scope.isGenerator = false) (hk : scope.kind = .function)
    (hcell : ∀ x ∈ scope.names, x.2 ≠ .cell) : codeAny (model prog w) A (.call (.ref f) ⟨args, kw⟩) Rr s := by
  refine codeAny_call_def (fd := fnOf name qual params body scope dV kV doc pm an cdv ct) (body := body) (binds := binds) hroom (C.k _ _ (C.x _ _ ho)) rfl (C.t.nolimit.keeps C.k) (codeRec_of (C.x.keeps C.k) hcd) rfl hbind hcell hloc (fun h₁ hns hk₁ => ?_) hco hgen hk
  have st : ∀ b o, R.get? b = some o → (hideAll s.heap (mt.map (·.1))).get? b = some o := fun b o e => hideAll_get _ (C.k b o e) fun q => by
    obtain ⟨p, hp, e'⟩ := List.mem_map.mp q
    have := (M p hp).2
    rw [e', e] at this; cases this
  exact wpAny_mono (h _ s.heap.objs.size h₁ ⟨rfl, fun b o e n => hideAll_get _ e n, fun b o e => of_hideAll _ e⟩ (C.x.keeps st) (C.t.keeps st)
    ⟨hns, fun b o e => hk₁ b o (of_hideAll _ e), Nat.le_of_eq (hideAll_size _ _)⟩
    (fun p hp => ⟨hk₁ _ _ (M p hp).1, Nat.ne_of_lt (Heap.lt_size (M p hp).1), hideAll_none _ (List.mem_map_of_mem hp)⟩)) (fun fl s' hl => hl) fun _ _ y => y.elim

theorem enter {w : World} {prog : Program} {A : Around} {s : Shared} {mg mb : Str → Option Value} {R : Heap} {Q : Value → Shared → Prop} {E : Value → Shared → Prop} {mt : List (Addr × Obj)}
    {name qual : Str} {params : Arguments} {body : List Stmt} {scope : Scope} {dV kV doc pm cdv ct oc : Value} {an od : Option Addr} {osl : Array (Option Value)} {f : Addr} {args : List Value} {kw : List (Str × Value)} {binds : List (Str × Value)}
    (C : Cx w mg mb R s.heap) (M : ∀ p ∈ mt, s.heap.get? p.1 = some p.2 ∧ R.get? p.1 = none)
    (ho : (frag.heap_1 w.params).lookup f = some ⟨oc, od, .func (fnOf name qual params body scope dV kV doc pm an cdv ct), osl⟩) (hcd : codeIn (frag.heap_1 w.params) cdv qual = true) (hroom : A.depth < recursionLimit)
    (hbind : BindsTo s (fnOf name qual params body scope dV kV doc pm an cdv ct) ⟨args, kw⟩ binds) (hloc : ∀ y ∈ binds, scope.names.lookup y.1 = some .local)
    (h : ∀ g L h₁, Ent s.heap g L mt → (frag.heap_1 w.params).In g → TopRead vw (looseW vw [Str.ofString "VOID", Str.ofString "Store"]) mg mb g → Fr g L h₁ (fun y => binds.reverse.lookup y) → News g L h₁ mt →
      wpAny (model prog w) (A.deeper (envOf qual scope L f cdv)) (execs body (envOf qual scope L f cdv)) (fun fl s' => Q (match fl with | .ret v => v | _ => .none) s') (fun _ _ => False) { s with heap := h₁, toks := s.toks + binds.length })
    (hco : scope.isCoroutine = false) (hgen : scope.isGenerator = false) (hk : scope.kind = .function)
    (hcell : ∀ x ∈ scope.names, x.2 ≠ .cell) : wpAny (model prog w) A (call (.ref f) args kw) Q E s :=
  wpAny_call (enterC C M ho hcd hroom hbind hloc h hco hgen hk hcell)

theorem inst_base {h₀ h : Heap} {L x C dx : Addr} {m : Str → Option Value} {od : Obj} {sl : Array (Option Value)} (F : Fr h₀ L h m) (h1 : h₀.get? x = some (⟨.ref C, some dx, .plain, sl⟩ : Obj)) (h2 : h₀.get? dx = some od) :
    InstAt h x ⟨.ref C, some dx, .plain, sl⟩ C (some od) := ⟨F.keep _ _ h1, rfl, rfl, F.keep _ _ h2⟩
theorem Kept.all {h h' : Heap} (k : Kept [] h h') : ∀ b o, h.get? b = some o → h'.get? b = some o := fun b o e => k b o e (by simp)

/-- a snapshot: all of a heap but the base, the frame and the objects told apart -/
noncomputable def Snap (g : Heap) (L : Addr) (W : List Addr) (hs : Heap) (rest : List (Addr × Obj)) : Prop := ∀ b o, hs.get? b = some o → b ≠ L → b ∉ W → g.get? b = some o ∨ (b, o) ∈ rest
open Classical in
theorem snap {g h : Heap} {L : Addr} {m : Str → Option Value} (F : Fr g L h m) (W : List Addr) : ∃ rest, News g L h rest ∧ Snap g L W h rest ∧ ∀ p ∈ rest, p.1 ∉ W := by
  refine ⟨(List.range h.objs.size).filterMap fun a => if a = L ∨ a ∈ W ∨ g.get? a ≠ none then none else (h.get? a).map fun o => (a, o), fun p hp => ?_, fun b o e n1 n2 => ?_, fun p hp => ?_⟩
  · obtain ⟨a, _, ha⟩ := List.mem_filterMap.mp hp
    split at ha
    · cases ha
    · rename_i q
      obtain ⟨o, ho, rfl⟩ := Option.map_eq_some_iff.mp ha
      refine ⟨ho, fun e => q (.inl e), ?_⟩
      cases z : g.get? a with
      | none => rfl
      | some _ => exact absurd (.inr (.inr (by rw [z]; simp))) q
  · cases z : g.get? b with
    | some o' => left; rw [← z]; have := F.keep _ _ z; rw [e] at this; rw [z, this]
    | none =>
      right
      refine List.mem_filterMap.mpr ⟨b, List.mem_range.mpr (Heap.lt_size e), ?_⟩
      rw [if_neg (by simp [n1, n2, z]), e]; rfl
  · obtain ⟨a, _, ha⟩ := List.mem_filterMap.mp hp
    split at ha
    · cases ha
    · rename_i q
      obtain ⟨o, ho, rfl⟩ := Option.map_eq_some_iff.mp ha
      exact fun e => q (.inr (.inl e))
theorem Snap.kept {g hs h : Heap} {L : Addr} {W : List Addr} {m : Str → Option Value} {rest : List (Addr × Obj)} (S : Snap g L W hs rest) (F : Fr g L h m) (N : News g L h rest) : Kept (L :: W) hs h := fun b o e n => by
  rcases S b o e (fun q => n (q ▸ .head _)) (fun q => n (.tail _ q)) with z | z
  · exact F.keep _ _ z
  · exact (N _ z).1
/-- the end of a turn -/
noncomputable def TurnEnd (g : Heap) (L : Addr) (x : Str) (stored : List Str) (m₀ : Str → Option Value) (J : List (Addr × Obj) → Prop) (own : List (Addr × Obj)) (s s' : Shared) : Prop :=
  ∃ h' tk m' nx, s' = { s with heap := h', toks := tk } ∧ Fr g L h' m' ∧ News g L h' (nx ++ own) ∧ (∀ z, z ≠ x → stored.contains z = false → m' z = m₀ z) ∧ (∀ p ∈ own, ∀ q ∈ nx, p.1 ≠ q.1) ∧ J nx
noncomputable def TurnPost (g : Heap) (L : Addr) (x : Str) (stored : List Str) (m₀ : Str → Option Value) (J : List (Addr × Obj) → Prop) (own : List (Addr × Obj)) (s : Shared) (Q : Flow → Shared → Prop) (f : Flow) (s' : Shared) : Prop :=
  match f with
  | .ret v => Q (.ret v) s'
  | .brk => Q .next s'
  | _ => TurnEnd g L x stored m₀ J own s s'
theorem TurnEnd.intro {g : Heap} {L : Addr} {x : Str} {stored : List Str} {m₀ m' : Str → Option Value} {J : List (Addr × Obj) → Prop} {own nx news : List (Addr × Obj)} {s : Shared} {h' : Heap} {tk : Nat}
    (F : Fr g L h' m') (N : News g L h' news) (hs : ∀ p ∈ nx ++ own, p ∈ news) (hm : ∀ z, z ≠ x → stored.contains z = false → m' z = m₀ z) (hc : ∀ p ∈ own, ∀ q ∈ nx, p.1 ≠ q.1) (hJ : J nx) :
    TurnEnd g L x stored m₀ J own s { s with heap := h', toks := tk } := ⟨h', tk, m', nx, rfl, F, fun p hp => N p (hs p hp), hm, hc, hJ⟩

section
variable {prog : Program} {w : World} {A : Around} {E : Value → Shared → Prop} {s : Shared} {env : Env} {g : Heap} {x : Str} {body : List Stmt} {Q : Flow → Shared → Prop}
theorem fr_same {g h : Heap} {L : Addr} {m m' : Str → Option Value} (F : Fr g L h m) (e : m = m') : Fr g L h m' := e ▸ F
theorem loop_gen {I : Addr} {fp : List Addr} {n : Nat} {P : Nat → Value → Prop} {St : Nat → Heap → Prop} {m₀ : Str → Option Value} {nx₀ : List (Addr × Obj)} (stored : List Str) (J : Nat → List (Addr × Obj) → Prop)
    (W : Walks prog w A I fp [I] n P St) (hI : I ∈ fp) (hic : ∀ i h, St i h → ∃ o, h.get? I = some o ∧ o.cls ≠ .type "tuple") (hLf : env.locals ∉ fp) (hI0 : g.get? I = none) (hst : St 0 s.heap)
    (hx : ∀ a ∈ fp, a ≠ I → (∃ o, g.get? a = some o) ∨ ∃ o, ∀ i nx, J i nx → (a, o) ∈ nx)
    (F : Fr g env.locals s.heap m₀) (N : News g env.locals s.heap nx₀) (hn0 : ∀ p ∈ nx₀, p.1 ∉ [I]) (hj : J 0 nx₀)
    (turn : ∀ (i : Nat) (v : Value) (u : Str → Option Value) (nx : List (Addr × Obj)) (h : Heap) (tk : Nat) (own : List (Addr × Obj)), i < n → P i v → J i nx → (∀ p ∈ own, ∀ q ∈ nx, p.1 ≠ q.1) → (∀ p ∈ own, p.2.cls ≠ .type "tuple") →
      Fr g env.locals h (fun y => if y = x then some v else if stored.contains y then u y else m₀ y) → News g env.locals h (nx ++ own) →
      wpAny (model prog w) A (execs body env) (TurnPost g env.locals x stored m₀ (J (i + 1)) own s Q) E { s with heap := h, toks := tk })
    (done : ∀ (u : Str → Option Value) (nx : List (Addr × Obj)) (h : Heap) (tk : Nat), J n nx → Fr g env.locals h (fun y => if y = x then u y else if stored.contains y then u y else m₀ y) → News g env.locals h nx → Q .next { s with heap := h, toks := tk }) :
    LoopAtV prog w A g env x body Q E (.ref I) s := by
  refine ⟨I, fp, [I], n, P, St, m₀, nx₀, fun i m nx => (∀ z, z ≠ x → stored.contains z = false → m z = m₀ z) ∧ J i nx, rfl, W, hLf, fun b hb => by rw [List.mem_singleton.mp hb]; exact hI0, hn0, hst, F, N, ⟨fun _ _ _ => rfl, hj⟩, ?_, ?_⟩
  · rintro i v m₁ nx s₁ own ⟨h, tk, rfl⟩ hin hP ⟨hm, hJ⟩ hoff hown hget hmem hst' F₁ N₁
    have F₂ := fr_same (m' := fun y => if y = x then some v else if stored.contains y then m₁ y else m₀ y) F₁ (by
      funext y
      by_cases h1 : y = x
      · simp [h1]
      · simp only [if_neg h1]
        cases h2 : stored.contains y with
        | true => simp
        | false => simpa using hm y h1 h2)
    obtain ⟨oI, hoI, hcI⟩ := hic _ _ hst'
    have hIown : (I, oI) ∈ own := hmem I hI hI0 oI hoI
    have own1 : ∀ p ∈ own.filter (fun p => decide (p.1 = I)), p.1 = I := fun p hp => by simpa using (List.mem_filter.mp hp).2
    have N₂ : News g env.locals h (nx ++ own.filter fun p => decide (p.1 = I)) := fun p hp => N₁ p ((List.mem_append.mp hp).elim (fun h => List.mem_append.mpr (.inr h)) fun h => List.mem_append.mpr (.inl (List.mem_filter.mp h).1))
    refine wpAny_mono (turn i v m₁ nx h tk _ hin hP hJ (fun p hp q hq e => hoff q hq (List.mem_singleton.mpr (e ▸ own1 p hp))) (fun p hp => by
      have e1 := (N₂ p (List.mem_append.mpr (.inr hp))).1
      rw [own1 p hp, hoI] at e1
      exact Option.some.inj e1 ▸ hcI) F₂ N₂) (fun f s₂ p => ?_) fun _ _ e => e
    have fin : TurnEnd g env.locals x stored m₀ (J (i + 1)) (own.filter fun p => decide (p.1 = I)) s s₂ → LoopStepU g env.locals [I] own (fun m nx => (∀ z, z ≠ x → stored.contains z = false → m z = m₀ z) ∧ J (i + 1) nx) { s with heap := h, toks := tk } .next s₂ := by
      rintro ⟨h', tk', m', nx', e, F', N', hm', hc', hJ'⟩
      refine ⟨rfl, h', tk', m', nx', e, F', fun p hp => ?_, fun p hp q => ?_, hm', hJ'⟩
      · rcases List.mem_append.mp hp with hp | hp
        · by_cases hpI : p.1 = I
          · exact N' p (List.mem_append.mpr (.inr (List.mem_filter.mpr ⟨hp, by simpa using hpI⟩)))
          · rcases hx p.1 (hown p hp) hpI with ⟨o, ho⟩ | ⟨o, ho⟩
            · have := (N₁ p (List.mem_append.mpr (.inl hp))).2.2
              rw [ho] at this; cases this
            · have h1 := (N₁ p (List.mem_append.mpr (.inl hp))).1
              have h2 := (N₁ _ (List.mem_append.mpr (.inr (ho i nx hJ)))).1
              rw [h2] at h1
              have h3 := N' _ (List.mem_append.mpr (.inl (ho (i + 1) nx' hJ')))
              have h4 : p = (p.1, o) := Prod.ext rfl (Option.some.inj h1).symm
              rw [h4]; exact h3
        · exact N' p (List.mem_append.mpr (.inl hp))
      exact hc' (I, oI) (List.mem_filter.mpr ⟨hIown, by simp⟩) p hp (List.mem_singleton.mp q).symm
    cases f with
    | ret v => exact .ret p
    | brk => exact .brk p
    | next => exact .next (fin p)
    | cont => exact .cont (fin p)
  · rintro h' tk m' nx F' N' _ ⟨hm, hJ⟩
    refine done m' nx h' tk hJ (fr_same F' ?_) N'
    funext y
    by_cases h1 : y = x
    · simp [h1]
    · simp only [if_neg h1]
      cases h2 : stored.contains y with
      | true => simp
      | false => simpa using hm y h1 h2

theorem range_loop {r : Addr} {a₀ b₀ : Int} {t₀ u₀ v₀ : Tok} {n : Nat} {m₀ : Str → Option Value} {nx₀ : List (Addr × Obj)} (stored : List Str) (J : Nat → List (Addr × Obj) → Prop)
    (hh : A.handled = none) (hr : IsRange s.heap r a₀ b₀ 1 t₀ u₀ v₀) (hsmall : Builtin.Range.small a₀ b₀ 1 = true) (hsz : Builtin.Range.rangeSize a₀ b₀ 1 = (n : Int))
    (F : Fr g env.locals s.heap m₀) (N : News g env.locals s.heap nx₀) (hj : J 0 nx₀)
    (turn : ∀ (i : Nat) (t : Tok) (u : Str → Option Value) (nx : List (Addr × Obj)) (h : Heap) (tk : Nat) (own : List (Addr × Obj)), i < n → J i nx → (∀ p ∈ own, ∀ q ∈ nx, p.1 ≠ q.1) → (∀ p ∈ own, p.2.cls ≠ .type "tuple") →
      Fr g env.locals h (fun y => if y = x then some (.int (a₀ + (i : Nat)) t) else if stored.contains y then u y else m₀ y) → News g env.locals h (nx ++ own) →
      wpAny (model prog w) A (execs body env) (TurnPost g env.locals x stored m₀ (J (i + 1)) own s Q) E { s with heap := h, toks := tk })
    (done : ∀ (u : Str → Option Value) (nx : List (Addr × Obj)) (h : Heap) (tk : Nat), J n nx → Fr g env.locals h (fun y => if y = x then u y else if stored.contains y then u y else m₀ y) → News g env.locals h nx → Q .next { s with heap := h, toks := tk }) :
    wpAny (model prog w) A (pyIter (.ref r)) (fun it s₂ => LoopAtV prog w A g env x body Q E it s₂) E s := by
  refine wpAny_pyIter_range hr hsmall ?_
  have W : Walks prog w A s.heap.objs.size [s.heap.objs.size] [s.heap.objs.size] n (fun i v => ∃ t, v = .int (a₀ + i * 1) t)
      (fun i h => IsRangeIter h s.heap.objs.size (a₀ + (i : Nat) * 1) ((n : Int) - (i : Nat)) 1) := Walks.range hh _ a₀ 1 n
  refine loop_gen (s := { s with heap := _ }) stored J W (.head _) (fun i h st => ⟨_, st, fun e => absurd (PySem.Value.type.inj e) (by decide)⟩) ?_ (next_is_new F) (by show IsRangeIter _ _ _ _ _; rw [hsz]; simpa using Heap.get?_push_size _ rfl) (fun a ha hn => absurd (List.mem_singleton.mp ha) hn) (F.push _) (N.pushKeep _) (fun p hp q => N.apart p hp (List.mem_singleton.mp q)) hj ?_ done
  · intro hm
    exact absurd F.ns.lt ((List.mem_singleton.mp hm) ▸ Nat.lt_irrefl _)
  · rintro i v u nx h tk own hi ⟨t, rfl⟩ hJ ho ht F₁ N₁
    have e1 : a₀ + (i : Int) * 1 = a₀ + (i : Int) := by omega
    rw [e1] at F₁
    exact turn i t u nx h tk own hi hJ ho ht F₁ N₁

theorem range_loop0 {r : Addr} {b₀ : Int} {t₀ u₀ v₀ : Tok} {n : Nat} {m₀ : Str → Option Value} {nx₀ : List (Addr × Obj)} (stored : List Str) (J : Nat → List (Addr × Obj) → Prop)
    (hh : A.handled = none) (hr : IsRange s.heap r 0 b₀ 1 t₀ u₀ v₀) (hb : b₀ = (n : Int)) (hn : b₀ < 2 ^ 30)
    (F : Fr g env.locals s.heap m₀) (N : News g env.locals s.heap nx₀) (hj : J 0 nx₀)
    (turn : ∀ (i : Nat) (t : Tok) (u : Str → Option Value) (nx : List (Addr × Obj)) (h : Heap) (tk : Nat) (own : List (Addr × Obj)), i < n → J i nx → (∀ p ∈ own, ∀ q ∈ nx, p.1 ≠ q.1) → (∀ p ∈ own, p.2.cls ≠ .type "tuple") →
      Fr g env.locals h (fun y => if y = x then some (.int (i : Nat) t) else if stored.contains y then u y else m₀ y) → News g env.locals h (nx ++ own) →
      wpAny (model prog w) A (execs body env) (TurnPost g env.locals x stored m₀ (J (i + 1)) own s Q) E { s with heap := h, toks := tk })
    (done : ∀ (u : Str → Option Value) (nx : List (Addr × Obj)) (h : Heap) (tk : Nat), J n nx → Fr g env.locals h (fun y => if y = x then u y else if stored.contains y then u y else m₀ y) → News g env.locals h nx → Q .next { s with heap := h, toks := tk }) :
    wpAny (model prog w) A (pyIter (.ref r)) (fun it s₂ => LoopAtV prog w A g env x body Q E it s₂) E s := by
  have hsz : Builtin.Range.rangeSize 0 b₀ 1 = (n : Int) := by subst hb; unfold Builtin.Range.rangeSize; split <;> (try split) <;> omega
  have hsm : Builtin.Range.small 0 b₀ 1 = true := by
    unfold Builtin.Range.small Builtin.Range.rangeFitsLong
    simp only [hsz, Bool.and_eq_true, Bool.or_eq_true, decide_eq_true_eq]
    simp
    omega
  exact range_loop stored J hh hr hsm hsz F N hj (fun i t u nx h tk own h1 h2 h3 h4 F₁ N₁ => turn i t u nx h tk own h1 h2 h3 h4 (fr_same F₁ (by simp only [Int.zero_add])) N₁) done

/-- over a list or a tuple that stands anywhere in the heap -/
theorem list_loop {l : Addr} {vs : List Value} {m₀ : Str → Option Value} {nx₀ : List (Addr × Obj)} (stored : List Str) (J : Nat → List (Addr × Obj) → Prop)
    (hh : A.handled = none) (hl : s.heap.IsList l vs.toArray) (hL : l ≠ env.locals) (hx : (∃ o, g.get? l = some o) ∨ ∃ o, ∀ i nx, J i nx → (l, o) ∈ nx)
    (F : Fr g env.locals s.heap m₀) (N : News g env.locals s.heap nx₀) (hj : J 0 nx₀)
    (turn : ∀ (i : Nat) (v : Value) (u : Str → Option Value) (nx : List (Addr × Obj)) (h : Heap) (tk : Nat) (own : List (Addr × Obj)), vs[i]? = some v → J i nx → (∀ p ∈ own, ∀ q ∈ nx, p.1 ≠ q.1) → (∀ p ∈ own, p.2.cls ≠ .type "tuple") →
      Fr g env.locals h (fun y => if y = x then some v else if stored.contains y then u y else m₀ y) → News g env.locals h (nx ++ own) →
      wpAny (model prog w) A (execs body env) (TurnPost g env.locals x stored m₀ (J (i + 1)) own s Q) E { s with heap := h, toks := tk })
    (done : ∀ (u : Str → Option Value) (nx : List (Addr × Obj)) (h : Heap) (tk : Nat), J vs.length nx → Fr g env.locals h (fun y => if y = x then u y else if stored.contains y then u y else m₀ y) → News g env.locals h nx → Q .next { s with heap := h, toks := tk }) :
    wpAny (model prog w) A (pyIter (.ref l)) (fun it s₂ => LoopAtV prog w A g env x body Q E it s₂) E s := by
  refine wpAny_pyIter_list hl ?_
  have hlt : l < s.heap.objs.size := by obtain ⟨o, ho, _⟩ := hl; exact Heap.lt_size ho
  have W := Walks.list (prog := prog) (w := w) hh s.heap.objs.size l (Nat.ne_of_lt hlt) vs.toArray
  have hlen : vs.toArray.size = vs.length := by simp
  rw [hlen] at W
  refine loop_gen (s := { s with heap := _ }) stored J W (.head _) (fun i h st => by obtain ⟨⟨o, ho, hc, _⟩, _⟩ := st; exact ⟨o, ho, by rw [hc]; exact fun e => absurd (PySem.Value.type.inj e) (by decide)⟩) ?_ (next_is_new F) ⟨⟨_, Heap.get?_push_size _ rfl, rfl, rfl⟩, hl.at fun o e => Heap.get?_push_of_some _ e⟩ (fun a ha hn => by rcases List.mem_cons.mp ha with e | e; exact absurd e hn; rw [List.mem_singleton.mp e]; exact hx) (F.push _) (N.pushKeep _) (fun p hp q => N.apart p hp (List.mem_singleton.mp q)) hj ?_ done
  · intro hm
    rcases List.mem_cons.mp hm with e | hm
    · exact absurd F.ns.lt (e ▸ Nat.lt_irrefl _)
    · exact hL (List.mem_singleton.mp hm).symm
  · rintro i v u nx h tk own hi hP hJ ho ht F₁ N₁
    exact turn i v u nx h tk own (by simpa using hP) hJ ho ht F₁ N₁
theorem tuple_loop {l : Addr} {vs : List Value} {m₀ : Str → Option Value} {nx₀ : List (Addr × Obj)} (stored : List Str) (J : Nat → List (Addr × Obj) → Prop)
    (hh : A.handled = none) (hl : s.heap.IsTuple l vs.toArray) (hL : l ≠ env.locals) (hx : (∃ o, g.get? l = some o) ∨ ∃ o, ∀ i nx, J i nx → (l, o) ∈ nx)
    (F : Fr g env.locals s.heap m₀) (N : News g env.locals s.heap nx₀) (hj : J 0 nx₀)
    (turn : ∀ (i : Nat) (v : Value) (u : Str → Option Value) (nx : List (Addr × Obj)) (h : Heap) (tk : Nat) (own : List (Addr × Obj)), vs[i]? = some v → J i nx → (∀ p ∈ own, ∀ q ∈ nx, p.1 ≠ q.1) → (∀ p ∈ own, p.2.cls ≠ .type "tuple") →
      Fr g env.locals h (fun y => if y = x then some v else if stored.contains y then u y else m₀ y) → News g env.locals h (nx ++ own) →
      wpAny (model prog w) A (execs body env) (TurnPost g env.locals x stored m₀ (J (i + 1)) own s Q) E { s with heap := h, toks := tk })
    (done : ∀ (u : Str → Option Value) (nx : List (Addr × Obj)) (h : Heap) (tk : Nat), J vs.length nx → Fr g env.locals h (fun y => if y = x then u y else if stored.contains y then u y else m₀ y) → News g env.locals h nx → Q .next { s with heap := h, toks := tk }) :
    wpAny (model prog w) A (pyIter (.ref l)) (fun it s₂ => LoopAtV prog w A g env x body Q E it s₂) E s := by
  refine wpAny_pyIter_tuple hl ?_
  have hlt : l < s.heap.objs.size := by obtain ⟨o, ho, _⟩ := hl; exact Heap.lt_size ho
  have W := Walks.tuple (prog := prog) (w := w) hh s.heap.objs.size l (Nat.ne_of_lt hlt) vs.toArray
  have hlen : vs.toArray.size = vs.length := by simp
  rw [hlen] at W
  refine loop_gen (s := { s with heap := _ }) stored J W (.head _) (fun i h st => by obtain ⟨⟨o, ho, hc, _⟩, _⟩ := st; exact ⟨o, ho, by rw [hc]; exact fun e => absurd (PySem.Value.type.inj e) (by decide)⟩) ?_ (next_is_new F) ⟨⟨_, Heap.get?_push_size _ rfl, rfl, rfl⟩, hl.at fun o e => Heap.get?_push_of_some _ e⟩ (fun a ha hn => by rcases List.mem_cons.mp ha with e | e; exact absurd e hn; rw [List.mem_singleton.mp e]; exact hx) (F.push _) (N.pushKeep _) (fun p hp q => N.apart p hp (List.mem_singleton.mp q)) hj ?_ done
  · intro hm
    rcases List.mem_cons.mp hm with e | hm
    · exact absurd F.ns.lt (e ▸ Nat.lt_irrefl _)
    · exact hL (List.mem_singleton.mp hm).symm
  · rintro i v u nx h tk own hi hP hJ ho ht F₁ N₁
    exact turn i v u nx h tk own (by simpa using hP) hJ ho ht F₁ N₁
end
noncomputable def CellV (h : Heap) (v : Value) (c : Int × Int) : Prop := ∃ r k1 k2, v = .ref r ∧ IsTup h r #[.int c.1 k1, .int c.2 k2]
noncomputable def CellsV (h : Heap) (vs : List Value) (cs : List (Int × Int)) : Prop := vs.length = cs.length ∧ ∀ (i : Nat) (c : Int × Int), cs[i]? = some c → ∃ v, vs[i]? = some v ∧ CellV h v c
theorem CellV.keeps {h h' : Heap} {v : Value} {c : Int × Int} (x : CellV h v c) (k : ∀ b o, h.get? b = some o → h'.get? b = some o) : CellV h' v c := let ⟨r, k1, k2, e, t⟩ := x; ⟨r, k1, k2, e, t.keeps k⟩
theorem CellsV.keeps {h h' : Heap} {vs : List Value} {cs : List (Int × Int)} (x : CellsV h vs cs) (k : ∀ b o, h.get? b = some o → h'.get? b = some o) : CellsV h' vs cs := ⟨x.1, fun i c e => let ⟨v, a, b⟩ := x.2 i c e; ⟨v, a, b.keeps k⟩⟩
theorem isList_keeps {h h' : Heap} {l : Addr} {its : Array Value} (x : h.IsList l its) (k : ∀ b o, h.get? b = some o → h'.get? b = some o) : h'.IsList l its := let ⟨o, ho, r⟩ := x; ⟨o, k _ _ ho, r⟩

noncomputable abbrev pairObj (a b : Value) (n : Nat) : Obj := { cls := .type "tuple", data := .seq #[a, b] n }
structure NAd where
  N : Addr
  dN : Addr
  tx : Addr
  an : Addr
  fx : Addr
  fn : Addr
  n : Nat
  t1 : Tok
  t2 : Tok
  t3 : Tok
  t4 : Tok
structure SAd where
  S : Addr
  dS : Addr
  N : Addr
  hp : Addr
  sk : Addr
  tr : Addr
  n : Nat
  t1 : Tok
  t2 : Tok
  t3 : Tok
  t4 : Tok
  t5 : Tok
  t6 : Tok
  t7 : Tok
  mx : Tok
  hb : Tok
  bb : Tok
noncomputable abbrev stEs (P : Params) (a : SAd) : List DictEntry := [⟨PyData.keyHash P (Str.ofString "symbols"), .str (Str.ofString "symbols") a.t1, .ref a.N⟩, ⟨PyData.keyHash P (Str.ofString "max_heap"), .str (Str.ofString "max_heap") a.t2, .int 100000 a.mx⟩,
  ⟨PyData.keyHash P (Str.ofString "heap"), .str (Str.ofString "heap") a.t3, .ref a.hp⟩, ⟨PyData.keyHash P (Str.ofString "stack"), .str (Str.ofString "stack") a.t4, .ref a.sk⟩, ⟨PyData.keyHash P (Str.ofString "trail"), .str (Str.ofString "trail") a.t5, .ref a.tr⟩,
  ⟨PyData.keyHash P (Str.ofString "hb"), .str (Str.ofString "hb") a.t6, .int 0 a.hb⟩, ⟨PyData.keyHash P (Str.ofString "bb"), .str (Str.ofString "bb") a.t7, .int 0 a.bb⟩]
noncomputable abbrev nmEs (P : Params) (a : NAd) : List DictEntry := [⟨PyData.keyHash P (Str.ofString "texts"), .str (Str.ofString "texts") a.t1, .ref a.tx⟩, ⟨PyData.keyHash P (Str.ofString "atom_numbers"), .str (Str.ofString "atom_numbers") a.t2, .ref a.an⟩,
  ⟨PyData.keyHash P (Str.ofString "functors"), .str (Str.ofString "functors") a.t3, .ref a.fx⟩, ⟨PyData.keyHash P (Str.ofString "functor_numbers"), .str (Str.ofString "functor_numbers") a.t4, .ref a.fn⟩]
/-- the store's object and its dict (the lists apart) -/
structure StoreAt (w : World) (h : Heap) (a : SAd) : Prop where
  s : h.get? a.S = some (instObj 374 a.dS)
  d : h.get? a.dS = some (dictOf (stEs w.params a) a.n)
structure NamesAt (w : World) (h : Heap) (a : NAd) : Prop where
  s : h.get? a.N = some (instObj 154 a.dN)
  d : h.get? a.dN = some (dictOf (nmEs w.params a) a.n)
theorem StoreAt.keeps {w : World} {h h' : Heap} {a : SAd} (x : StoreAt w h a) (k : ∀ b o, h.get? b = some o → h'.get? b = some o) : StoreAt w h' a := ⟨k _ _ x.s, k _ _ x.d⟩
theorem NamesAt.keeps {w : World} {h h' : Heap} {a : NAd} (x : NamesAt w h a) (k : ∀ b o, h.get? b = some o → h'.get? b = some o) : NamesAt w h' a := ⟨k _ _ x.s, k _ _ x.d⟩

noncomputable def cAt (cs : List (Int × Int)) (i : Nat) : Int × Int := cs.getD i (0, 0)
theorem cAt_get {cs : List (Int × Int)} {i : Nat} {c : Int × Int} (h : cs[i]? = some c) : cAt cs i = c := by simp [cAt, List.getD_eq_getElem?_getD, h]
theorem cAt_lt {cs : List (Int × Int)} {i : Nat} (h : i < cs.length) : cs[i]? = some (cAt cs i) := by rw [cAt_get (List.getElem?_eq_getElem h)]; exact List.getElem?_eq_getElem h
noncomputable def FunOk (fs cs : List (Int × Int)) : Prop := ∀ i, i < cs.length → (cAt cs i).1 = 6 → 0 ≤ (cAt cs i).2 ∧ (cAt cs i).2 < fs.length
section
variable {prog : Program} {w : World} {A : Around} {E : Value → Shared → Prop} {s : Shared} {g : Heap} {L l : Addr} {m : Str → Option Value} {vs : List Value} {cs : List (Int × Int)}
theorem sub_cells {value slice : PySem.Expr} {k : Int} {u : Tok} {Q : Value → Shared → Prop} (F : Fr g L s.heap m) (hl : g.IsList l vs.toArray) (hc : CellsV g vs cs) (h0 : 0 ≤ k) (hk : k < cs.length) (hhi : (cs.length : Int) < 2 ^ 63)
    (h : ∀ r k1 k2, IsTup g r #[.int (cAt cs k.toNat).1 k1, .int (cAt cs k.toNat).2 k2] → Q (.ref r) s)
    (hs : subscripted slice false (.ref l) (.int k u) = operate [.ref l, .int k u] (getItem (.ref l) (.int k u)) := by with_unfolding_all rfl) :
    wpAny (model prog w) A (subscriptTail value slice (.ref l) (.int k u)) Q E s := by
  have hlt : k.toNat < cs.length := by omega
  obtain ⟨v, hv, r, k1, k2, rfl, ht⟩ := hc.2 k.toNat _ (cAt_lt hlt)
  have hL : s.heap.IsList l vs.toArray := F.lst hl
  exact tail_any hL.typeIs slot_list_getitem.lookup (wpAny_getItem_list hL h0 (by omega) (by simpa using hv) (h r k1 k2 ht)) hs
theorem len_cells {Q : Value → Shared → Prop} (F : Fr g L s.heap m) (hl : g.IsList l vs.toArray) (hc : CellsV g vs cs) (hhi : (cs.length : Int) < 2 ^ 63)
    (h : Q (.int cs.length (s.toks + 1)) { s with toks := s.toks + 1 + 1 }) : wpAny (model prog w) A (call (.builtin "len") [.ref l]) Q E s :=
  have e : vs.toArray.size = cs.length := by simp [hc.1]
  len_list (F.lst hl) (by rw [e]; exact hhi) (by rw [e]; exact h)
theorem item_pair {value slice : PySem.Expr} {t : Addr} {k : Int} {u : Tok} {j : Nat} {items : List Value} {v : Value} {Q : Value → Shared → Prop} (F : Fr g L s.heap m) (ht : IsTup g t items.toArray) (hlo : -(2 ^ 63) ≤ k) (hhi : k < 2 ^ 63) (hj : seqIndex? k items.length = some j) (hx : items[j]? = some v) (h : Q v s)
    (hs : subscripted slice false (.ref t) (.int k u) = operate [.ref t, .int k u] (getItem (.ref t) (.int k u)) := by with_unfolding_all rfl) :
    wpAny (model prog w) A (subscriptTail value slice (.ref t) (.int k u)) Q E s := item_tupleT (F.tup ht) hlo hhi (by simpa using hj) (by simpa using hx) h hs
end
theorem append_L {prog : Program} {w : World} {A : Around} {E : Value → Shared → Prop} {s : Shared} {g : Heap} {L D : Addr} {m : Str → Option Value} {news news' : List (Addr × Obj)} {vs : List Value} {n : Nat} {x : Value} {Q : Value → Shared → Prop}
    (F : Fr g L s.heap m) (N : News g L s.heap news) (U : Upd D (W.listOf (List.toArray vs) n) (W.listOf (List.toArray (vs ++ [x])) (n + 1)) news news')
    (h : ∀ h', Fr g L h' m → News g L h' news' → Q .none { s with heap := h' }) (hsz : vs.length ≤ sizeLine) : wpAny (model prog w) A (call (.builtin "list.append") [.ref D, x]) Q E s :=
  append_K (its := vs.toArray) (n := n) F N (by rw [show vs.toArray.push x = (vs ++ [x]).toArray by simp]; exact U) h (by simpa using hsz)
theorem none_of_up {h g : Heap} {b : Addr} {L : Addr} {m : Str → Option Value} (F : Fr g L h m) (e : h.get? b = none) : g.get? b = none := by
  cases q : g.get? b with
  | none => rfl
  | some o => rw [F.keep _ _ q] at e; cases e
theorem news_add {g h h' : Heap} {L : Addr} {m : Str → Option Value} {news lg : List (Addr × Obj)} (F : Fr g L h m) (N : News g L h news) (kp : Kept [] h h') (hlg : ∀ p ∈ lg, h'.get? p.1 = some p.2 ∧ h.get? p.1 = none) : News g L h' (lg ++ news) := by
  intro p hp
  rcases List.mem_append.mp hp with hp | hp
  · refine ⟨(hlg p hp).1, fun e => ?_, none_of_up F (hlg p hp).2⟩
    obtain ⟨o, _, _, ho, _⟩ := F.ns
    have := (hlg p hp).2
    rw [e, ho] at this; cases this
  · exact ⟨kp.all _ _ (N p hp).1, (N p hp).2⟩
theorem Ent.fresh {h g h' : Heap} {L : Addr} {lg : List (Addr × Obj)} (e : Ent h g L []) (N : News g L h' lg) : ∀ p ∈ lg, h'.get? p.1 = some p.2 ∧ h.get? p.1 = none := fun p hp => ⟨(N p hp).1, by
  cases q : h.get? p.1 with
  | none => rfl
  | some o => have := (N p hp).2.2; rw [e.up0 _ _ q] at this; cases this⟩
/-- none of these is a tuple -/
noncomputable def NT (h : Heap) (W : List Addr) : Prop := ∀ w ∈ W, ∀ o, h.get? w = some o → (∃ its n, o.data = .seq its n) → o.cls ≠ .type "tuple"
theorem isTup_kept {h h' : Heap} {W : List Addr} {r : Addr} {its : Array Value} (k : Kept W h h') (nt : NT h W) (t : IsTup h r its) : IsTup h' r its :=
  let ⟨o, ho, hc, d⟩ := t; ⟨o, k r o ho (fun m => nt r m o ho (let ⟨n, e⟩ := d; ⟨_, n, e⟩) hc), hc, d⟩
theorem CellV.kept {h h' : Heap} {W : List Addr} {v : Value} {c : Int × Int} (x : CellV h v c) (k : Kept W h h') (nt : NT h W) : CellV h' v c := let ⟨r, k1, k2, e, t⟩ := x; ⟨r, k1, k2, e, isTup_kept k nt t⟩
theorem CellsV.kept {h h' : Heap} {W : List Addr} {vs : List Value} {cs : List (Int × Int)} (x : CellsV h vs cs) (k : Kept W h h') (nt : NT h W) : CellsV h' vs cs := ⟨x.1, fun i c e => let ⟨v, a, b⟩ := x.2 i c e; ⟨v, a, b.kept k nt⟩⟩
theorem CellsV.snoc {h : Heap} {vs : List Value} {cs : List (Int × Int)} {v : Value} {c : Int × Int} (x : CellsV h vs cs) (y : CellV h v c) : CellsV h (vs ++ [v]) (cs ++ [c]) := by
  refine ⟨by simp [x.1], fun i d e => ?_⟩
  rcases Nat.lt_or_ge i cs.length with hi | hi
  · rw [List.getElem?_append_left hi] at e
    obtain ⟨u, a, b⟩ := x.2 i d e
    exact ⟨u, by rw [List.getElem?_append_left (by rw [x.1]; exact hi)]; exact a, b⟩
  · rw [List.getElem?_append_right hi] at e
    have h0 : i - cs.length = 0 := by
      rcases Nat.eq_zero_or_pos (i - cs.length) with z | z
      · exact z
      · rw [List.getElem?_eq_none (by simp; omega)] at e; cases e
    rw [h0] at e
    cases e
    exact ⟨v, by rw [List.getElem?_append_right (by rw [x.1]; exact hi), x.1, h0]; rfl, y⟩
noncomputable def CellL (h : Heap) (l : Addr) (cs : List (Int × Int)) : Prop := ∃ vs n, h.get? l = some (W.listOf (List.toArray vs) n) ∧ CellsV h vs cs
theorem CellL.kept {h h' : Heap} {W : List Addr} {l : Addr} {cs : List (Int × Int)} (x : CellL h l cs) (k : Kept W h h') (hl : l ∉ W) (nt : NT h W) : CellL h' l cs := let ⟨vs, n, e, c⟩ := x; ⟨vs, n, k _ _ e hl, c.kept k nt⟩
theorem CellL.nt {h : Heap} {l : Addr} {cs : List (Int × Int)} (x : CellL h l cs) : NT h [l] := fun w hw o ho => by
  obtain ⟨vs, n, e, _⟩ := x
  rw [List.mem_singleton.mp hw, e] at ho
  cases ho
  exact fun _ e => absurd (PySem.Value.type.inj e) (by decide)
structure StoreS (w : World) (h : Heap) (a : SAd) (cs st : List (Int × Int)) : Prop where
  i : StoreAt w h a
  hp : CellL h a.hp cs
  sk : CellL h a.sk st
  ne : a.hp ≠ a.sk
theorem StoreS.kept {w : World} {h h' : Heap} {W : List Addr} {a : SAd} {cs st : List (Int × Int)} (x : StoreS w h a cs st) (k : Kept W h h') (n1 : a.S ∉ W) (n2 : a.dS ∉ W) (n3 : a.hp ∉ W) (n4 : a.sk ∉ W) (nt : NT h W) : StoreS w h' a cs st :=
  ⟨⟨k _ _ x.i.s n1, k _ _ x.i.d n2⟩, x.hp.kept k n3 nt, x.sk.kept k n4 nt, x.ne⟩
theorem ne_of_objs {h : Heap} {a b : Addr} {o o' : Obj} (ha : h.get? a = some o) (hb : h.get? b = some o') (n : o ≠ o') : a ≠ b := fun e => by subst e; rw [ha] at hb; exact n (Option.some.inj hb)
theorem len_news {prog : Program} {w : World} {A : Around} {E : Value → Shared → Prop} {s : Shared} {g : Heap} {L l : Addr} {news : List (Addr × Obj)} {vs : List Value} {n : Nat} {Q : Value → Shared → Prop}
    (N : News g L s.heap news) (hl : (l, W.listOf (List.toArray vs) n) ∈ news) (hhi : (vs.length : Int) < 2 ^ 63)
    (h : Q (.int vs.length (s.toks + 1)) { s with toks := s.toks + 1 + 1 }) : wpAny (model prog w) A (call (.builtin "len") [.ref l]) Q E s :=
  have e : (List.toArray vs).size = vs.length := by simp
  len_list (items := List.toArray vs) ⟨_, N.get hl, rfl, n, rfl⟩ (by rw [e]; exact hhi) (by rw [e]; exact h)
theorem nt_any {M : Model} {A : Around} {E : Value → Shared → Prop} {s : Shared} {g : Heap} {L : Addr} {m : Str → Option Value} {news : List (Addr × Obj)} {vs : List Value} {Q : Value → Shared → Prop} (F : Fr g L s.heap m) (N : News g L s.heap news)
    (h : ∀ D h' (tk : Nat), Fr g L h' m → News g L h' ((D, ({ cls := .type "tuple", data := .seq vs.toArray } : Obj)) :: news) → (∀ p ∈ news, p.1 < D) → Q (.ref D) { s with heap := h', toks := tk }) (hz : vs.length ≤ sizeLine) : wpAny M A (newTuple vs) Q E s :=
  kup_newTuple F N (fun D h' F' N' l => h D h' s.toks F' N' l) hz
theorem w_nil {P : Addr → Prop} : ∀ q ∈ ([] : List Addr), P q := fun _ h => nomatch h
theorem w_cons {P : Addr → Prop} {a : Addr} {l : List Addr} (h : P a) (t : ∀ q ∈ l, P q) : ∀ q ∈ a :: l, P q := fun q m => by
  rcases List.mem_cons.mp m with e | m
  · exact e ▸ h
  · exact t q m
local macro_rules | `(tactic| kbt_sums) => `(tactic| (k_asm; k_asm; k_asm; k_asm))
local macro_rules | `(tactic| kbt_ne) => `(tactic| (rfl; kbt_words; kbt_words))
local macro_rules | `(tactic| kbt_words) => `(tactic| exact Nat.le_of_ble_eq_true rfl)
local macro_rules | `(tactic| kbd_text) => `(tactic| first | exact fun _ h => h | (intro p hp; repeat' (first | exact hp | refine List.Mem.tail _ ?_)))
local macro_rules | `(tactic| kby_none) => `(tactic| focus (first | exact fun _ _ => .inr rfl | (exact .inr rfl) | ((repeat' (first | exact w_nil | refine w_cons ?_ ?_ | exact .inl (.head _) | exact .inl (.tail _ (.head _)) | exact .inl (.tail _ (.tail _ (.head _))) | exact .inl (.tail _ (.tail _ (.tail _ (.head _)))) | exact .inl (.tail _ (.tail _ (.tail _ (.tail _ (.head _))))) | exact .inr (by assumption))); done) | (simp; done) | (simp [*]; done)))
local macro_rules | `(tactic| kfm_hd) => `(tactic| first | decide | omega | (simp only [List.length_set, List.length_append, List.length_cons, List.length_nil]; omega))
local macro_rules | `(tactic| k_inst) => `(tactic| (refine' inst_base ?F ?h1 ?h2; (case F => k_asm); (case h1 | h2 => assumption)))
local macro_rules | `(tactic| walk_at "subscriptTail") => `(tactic| (k_here; (with_reducible show wpAny _ _ (subscriptTail _ _ (Value.ref _) (Value.int _ _)) _ _ _); k_dflt (refine' sub_cells ?F ?l ?c ?a ?b ?d ?_; (case F => k_asm); (case l | c => assumption); (case a | b | d => omega); k_whole); intro _ _ _ _))
local macro_rules | `(tactic| walk_at "subscriptTail") => `(tactic| (k_here; (with_reducible show wpAny _ _ (subscriptTail _ _ (Value.ref _) (Value.int _ _)) _ _ _); k_dflt (refine' item_pair ?F ?t ?a ?b ?j ?x ?_; (case F => k_asm); (case t => assumption); (case a | b => decide); (case j | x => rfl); k_whole)))
local macro_rules | `(tactic| walk_at "call builtin:len") => `(tactic| (k_here; (with_reducible show wpAny _ _ (call (Value.builtin "len") [Value.ref _]) _ _ _); k_dflt (refine' len_cells ?F ?l ?c ?d ?_; (case F => k_asm); (case l | c => assumption); (case d => omega); k_whole)))
section
theorem fill_a (w : World) : (PySem.Challenge.rw_ok0022_01.Holds ∧ (frag.heap_1 w.params).In default) → True := by k_fill; intro _; trivial
theorem arity_spec {w : World} {mg mb : Str → Option Value} {R : Heap} {s : Shared} {a : NAd} {k : Int} {t : Tok} {vs : List Value} {fs : List (Int × Int)} {Q E : Value → Shared → Prop}
    (C : Cx w mg mb R s.heap) (hS : NamesAt w s.heap a) (hl : s.heap.IsList a.fx vs.toArray) (hc : CellsV s.heap vs fs) (h0 : 0 ≤ k) (hk : k < fs.length) (hz : fs.length < 1000)
    (hQ : ∀ h' tk' t', Kept [] s.heap h' → Q (.int (cAt fs k.toNat).2 t') { s with heap := h', toks := tk' }) :
    wpAny (model PySem.Challenge.rw_ok0022_01.row.prog w) (AA 800 8000) (call (.ref 123) [.ref a.N, .int k t]) Q E s := by
  refine' enter (mt := []) (binds := [(Str.ofString "self", .ref a.N), (Str.ofString "functor", .int k t)]) C (fun _ h => nomatch h) ?k6 ?k7 ?k8 ?k9 ?kB ?_ ?c2 ?c3 ?c4 ?c5
  case k6 => k_is
  case k7 => k_is
  case k8 => decide
  case k9 => exact BindsTo.of_eq rfl
  case kB => exact locs rfl
  case c2 => rfl
  case c3 => rfl
  case c4 => rfl
  case c5 => decide
  intro g L h₁ en X T F N
  obtain ⟨hS1, hS2⟩ := hS.keeps en.up0
  have hl' := isList_keeps hl en.up0
  have hc' := hc.keeps en.up0
  clear hS hl hc
  (try dsimp only)
  (try k_fold)
  repeat' (first | (k_unfold; (try dsimp only)) | walk1 | (dsimp only; walk1) | fail "no step")
  exact hQ _ _ _ (en.kept0 (by assumption))

theorem use_arity {w : World} {mg mb : Str → Option Value} {g : Heap} {L : Addr} {m : Str → Option Value} {news : List (Addr × Obj)} {A : Around} {s : Shared} {a : NAd} {k : Int} {t : Tok} {vs : List Value} {fs : List (Int × Int)} {Q E : Value → Shared → Prop}
    (F : Fr g L s.heap m) (N : News g L s.heap news) (X : (frag.heap_1 w.params).In g) (T : TopRead vw (looseW vw [Str.ofString "VOID", Str.ofString "Store"]) mg mb g) (hS : NamesAt w g a) (hl : g.IsList a.fx vs.toArray) (hc : CellsV g vs fs) (h0 : 0 ≤ k) (hk : k < fs.length) (hz : fs.length < 1000)
    (hh : A.handled = none) (hd : A.depth ≤ 800) (hu : A.units ≤ 8000)
    (hQ : ∀ h' tk' t', Fr g L h' m → News g L h' news → Q (.int (cAt fs k.toNat).2 t') { s with heap := h', toks := tk' }) :
    wpAny (model PySem.Challenge.rw_ok0022_01.row.prog w) A (call (.ref 123) [.ref a.N, .int k t]) Q E s :=
  wp_big hh hd hu (arity_spec ⟨X, T, F.keep⟩ (hS.keeps F.keep) (isList_keeps hl F.keep) (hc.keeps F.keep) h0 hk hz fun h' tk' t' kp =>
    hQ h' tk' t' (F.keeps kp.all) (N.keeps kp.all))

noncomputable def cellFault (fs cs : List (Int × Int)) (k : Nat) : Str :=
  let c := cAt cs k
  if c.1 = 1 then Str.ofString "stack reference on the heap"
  else if c.1 = 6 then (if c.2 = 0 then Str.ofString "list functor in a functor cell" else Str.ofString "")
  else if c.1 = 0 then (if c.2 < 0 ∨ (cs.length : Int) ≤ c.2 then Str.ofString "reference beyond the heap" else if (k : Int) < c.2 then Str.ofString "reference to a younger cell" else Str.ofString "")
  else if c.1 = 3 then (if c.2 < 0 ∨ (cs.length : Int) ≤ c.2 + 1 then Str.ofString "list cell beyond the heap" else Str.ofString "")
  else if c.1 = 2 then (if c.2 < 0 ∨ (cs.length : Int) ≤ c.2 ∨ (cAt cs c.2.toNat).1 ≠ 6 then Str.ofString "structure without a functor cell"
    else if (cs.length : Int) ≤ c.2 + (cAt fs (cAt cs c.2.toNat).2.toNat).2 then Str.ofString "structure beyond the heap" else Str.ofString "")
  else Str.ofString ""
theorem FunOk.at {fs cs : List (Int × Int)} (h : FunOk fs cs) {i : Nat} (hi : i < cs.length) (h6 : (cAt cs i).1 = 6) : 0 ≤ (cAt cs i).2 ∧ (cAt cs i).2 < fs.length := h i hi h6
local macro_rules | `(tactic| walk_at "call ref") => `(tactic| (k_here; k_dflt (apply use_arity; kbt_sums; exact ⟨by assumption, by assumption⟩; assumption; assumption; exact (FunOk.at (by assumption) (by omega) (by assumption)).1; exact (FunOk.at (by assumption) (by omega) (by assumption)).2; omega; kbt_ne; k_whole); intro _ _ _ _ _; k_sweep))
theorem cell_fault_spec {w : World} {mg mb : Str → Option Value} {R : Heap} {s : Shared} {a : SAd} {nm : NAd} {k : Nat} {t : Tok} {vs rs : List Value} {cs fs : List (Int × Int)} {Q E : Value → Shared → Prop}
    (C : Cx w mg mb R s.heap) (hS : StoreAt w s.heap a) (hN : NamesAt w s.heap nm) (eN : a.N = nm.N) (hl : s.heap.IsList a.hp vs.toArray) (hc : CellsV s.heap vs cs) (hlf : s.heap.IsList nm.fx rs.toArray) (hcf : CellsV s.heap rs fs)
    (hk : k < cs.length) (hz : cs.length < 1000) (hzf : fs.length < 1000) (hF : FunOk fs cs)
    (hQ : ∀ h' tk' t', Kept [] s.heap h' → Q (.str (cellFault fs cs k) t') { s with heap := h', toks := tk' }) :
    wpAny (model PySem.Challenge.rw_ok0022_01.row.prog w) (AA 600 6000) (call (.ref 390) [.ref a.S, .int k t]) Q E s := by
  refine' enter (mt := []) (binds := [(Str.ofString "store", .ref a.S), (Str.ofString "address", .int k t)]) C (fun _ h => nomatch h) ?k6 ?k7 ?k8 ?k9 ?kB ?_ ?c2 ?c3 ?c4 ?c5
  case k6 => k_is
  case k7 => k_is
  case k8 => decide
  case k9 => exact BindsTo.of_eq rfl
  case kB => exact locs rfl
  case c2 => rfl
  case c3 => rfl
  case c4 => rfl
  case c5 => decide
  intro g L h₁ en X T F N
  obtain ⟨hS1, hS2⟩ := hS.keeps en.up0
  have hl' := isList_keeps hl en.up0
  have hc' := hc.keeps en.up0
  have hlf' := isList_keeps hlf en.up0
  have hcf' := hcf.keeps en.up0
  obtain ⟨hN1, hN2⟩ := hN.keeps en.up0
  clear hS hl hc hlf hcf hN
  obtain ⟨S, dS, N₀, hp, sk, tr, n, t1, t2, t3, t4, t5, t6, t7, mx, hb, bb⟩ := a
  dsimp only at *
  subst eN
  (try dsimp only)
  (try k_fold)
  have key : ∀ x h' tk' t', cellFault fs cs k = x → Kept [] s.heap h' → Q (.str x t') { s with heap := h', toks := tk' } := by rintro _ _ _ _ rfl kp; exact hQ _ _ _ kp
  repeat' (first | (k_unfold; (try dsimp only)) | walk1 | (dsimp only; walk1) | fail "no step")
  all_goals (try dsimp only)
  all_goals (refine key _ _ _ _ ?_ (en.kept0 (by assumption)))
  all_goals (simp only [Int.toNat_natCast] at *)
  all_goals (try (simp [cellFault, *]; done))
end
local macro_rules | `(tactic| k_all) => `(tactic| assumption)
local macro_rules | `(tactic| walk_at "call builtin:list.append") => `(tactic| (k_here; (with_reducible show wpAny _ _ (call (Value.builtin _) [Value.ref _, _]) _ _ _); k_dflt (refine' append_L ?k1 ?k2 ?k3 ?_ ?z; (case k1 | k2 => k_asm); (case k3 => k_upd); (case z => (rw [sizeLine_eq]; omega)); k_whole); intro _ _ _; (try k_sweep)))
local macro_rules | `(tactic| walk_at "call builtin:len") => `(tactic| (k_here; (with_reducible show wpAny _ _ (call (Value.builtin "len") [Value.ref _]) _ _ _); k_dflt (refine' len_news ?N ?l ?d ?_; (case N => k_asm); (case l => k_mem); (case d => omega); k_whole)))
local macro_rules | `(tactic| walk_at "newTuple") => `(tactic| (k_here; k_dflt (refine' nt_any ?F ?N ?_ ?z; (case F | N => k_asm); (case z => kmk_size)); intro _ _ _ _ _ l1; (try k_lt l1); (try k_sweep)))
section
theorem use_cell_fault {w : World} {mg mb : Str → Option Value} {g : Heap} {L : Addr} {m : Str → Option Value} {news : List (Addr × Obj)} {A : Around} {s : Shared} {a : SAd} {nm : NAd} {k : Int} {t : Tok} {vs rs : List Value} {cs fs : List (Int × Int)} {Q E : Value → Shared → Prop}
    (F : Fr g L s.heap m) (N : News g L s.heap news) (X : (frag.heap_1 w.params).In g) (T : TopRead vw (looseW vw [Str.ofString "VOID", Str.ofString "Store"]) mg mb g) (hS : StoreAt w g a) (hN : NamesAt w g nm) (eN : a.N = nm.N) (hl : g.IsList a.hp vs.toArray) (hc : CellsV g vs cs) (hlf : g.IsList nm.fx rs.toArray) (hcf : CellsV g rs fs)
    (h0 : 0 ≤ k) (hk : k < cs.length) (hz : cs.length < 1000) (hzf : fs.length < 1000) (hF : FunOk fs cs) (hh : A.handled = none) (hd : A.depth ≤ 600) (hu : A.units ≤ 6000)
    (hQ : ∀ h' tk' t', Fr g L h' m → News g L h' news → Q (.str (cellFault fs cs k.toNat) t') { s with heap := h', toks := tk' }) :
    wpAny (model PySem.Challenge.rw_ok0022_01.row.prog w) A (call (.ref 390) [.ref a.S, .int k t]) Q E s := by
  obtain ⟨n, rfl⟩ := Int.eq_ofNat_of_zero_le h0
  exact wp_big hh hd hu (cell_fault_spec ⟨X, T, F.keep⟩ (hS.keeps F.keep) (hN.keeps F.keep) eN (isList_keeps hl F.keep) (hc.keeps F.keep) (isList_keeps hlf F.keep) (hcf.keeps F.keep) (by omega) hz hzf hF fun h' tk' t' kp =>
    hQ h' tk' t' (F.keeps kp.all) (N.keeps kp.all))
local macro_rules | `(tactic| walk_at "call ref") => `(tactic| (k_here; k_dflt (apply use_cell_fault; kbt_sums; exact ⟨by assumption, by assumption⟩; exact ⟨by assumption, by assumption⟩; assumption; assumption; assumption; assumption; assumption; omega; omega; omega; omega; assumption; kbt_ne; k_whole); intro _ _ _ _ _; k_sweep))
noncomputable def FaultsIn (lg : List (Addr × Obj)) (vs : List Value) (fl : List (Int × Str)) : Prop :=
  vs.length = fl.length ∧ ∀ (i : Nat) (p : Int × Str), fl[i]? = some p → ∃ r k1 k2 n', vs[i]? = some (.ref r) ∧ (r, ({ cls := .type "tuple", data := .seq #[.int p.1 k1, .str p.2 k2] n' } : Obj)) ∈ lg
noncomputable def faultAt (fs cs : List (Int × Int)) (k : Nat) : List (Int × Str) := if cellFault fs cs k = Str.ofString "" then [] else [((k : Int), cellFault fs cs k)]
noncomputable def faultsTo (fs cs : List (Int × Int)) : Nat → List (Int × Str)
  | 0 => []
  | n + 1 => faultsTo fs cs n ++ faultAt fs cs n
noncomputable def FaultJ (fs cs : List (Int × Int)) (l : Addr) (i : Nat) (nx : List (Addr × Obj)) : Prop :=
  ∃ vs' n' tl, nx = (l, W.listOf (List.toArray vs') n') :: tl ∧ (∀ p ∈ tl, p.1 ≠ l) ∧ (∀ p ∈ tl, p.2.cls = .type "tuple") ∧ FaultsIn tl vs' (faultsTo fs cs i) ∧ vs'.length ≤ i
theorem faultJ0 {fs cs : List (Int × Int)} {l : Addr} {n : Nat} : FaultJ fs cs l 0 [(l, W.listOf #[] n)] := ⟨[], n, [], rfl, (fun _ h => nomatch h), (fun _ h => nomatch h), ⟨rfl, fun _ _ h => by simp [faultsTo] at h⟩, Nat.le_refl _⟩
noncomputable def FaultList (lg : List (Addr × Obj)) (l : Addr) (fl : List (Int × Str)) : Prop :=
  ∃ vs' n' tl, lg = (l, W.listOf (List.toArray vs') n') :: tl ∧ (∀ p ∈ tl, p.1 ≠ l) ∧ (∀ p ∈ tl, p.2.cls = .type "tuple") ∧ FaultsIn tl vs' fl
theorem FaultsIn.snoc {lg : List (Addr × Obj)} {vs : List Value} {fl : List (Int × Str)} {D : Addr} {o : Obj} {p : Int × Str} {k1 k2 : Tok} {n' : Nat} (h : FaultsIn lg vs fl) (ho : o = { cls := .type "tuple", data := .seq #[.int p.1 k1, .str p.2 k2] n' }) :
    FaultsIn ((D, o) :: lg) (vs ++ [.ref D]) (fl ++ [p]) := by
  subst ho
  refine ⟨by simp [h.1], fun i q e => ?_⟩
  rcases Nat.lt_or_ge i fl.length with hi | hi
  · rw [List.getElem?_append_left hi] at e
    obtain ⟨r, a, b, c, h1, h2⟩ := h.2 i q e
    exact ⟨r, a, b, c, by rw [List.getElem?_append_left (by rw [h.1]; exact hi)]; exact h1, .tail _ h2⟩
  · rw [List.getElem?_append_right hi] at e
    have h0 : i - fl.length = 0 := by
      rcases Nat.eq_zero_or_pos (i - fl.length) with z | z
      · exact z
      · rw [List.getElem?_eq_none (by simp; omega)] at e; cases e
    rw [h0] at e
    cases e
    exact ⟨D, k1, k2, n', by rw [List.getElem?_append_right (by rw [h.1]; exact hi), h.1, h0]; rfl, .head _⟩
theorem faultJ_app {g h' : Heap} {L D l : Addr} {m₀ m' : Str → Option Value} {fs cs : List (Int × Int)} {i n0 n1 n2 tk : Nat} {k1 k2 : Tok} {vs : List Value} {tl own : List (Addr × Obj)} {x : Str} {stored : List Str} {s : Shared}
    (F : Fr g L h' m') (N : News g L h' ((D, { cls := .type "tuple", data := .seq #[.int (i : Int) k1, .str (cellFault fs cs (Int.toNat i)) k2] n2 }) :: (l, W.listOf (List.toArray (vs ++ [.ref D])) n1) :: (tl ++ own)))
    (htl : ∀ p ∈ tl, p.1 ≠ l) (hcl : ∀ p ∈ tl, p.2.cls = .type "tuple") (hf : FaultsIn tl vs (faultsTo fs cs i)) (hvl : vs.length ≤ i) (lt : @LT.lt Nat _ l D) (lt2 : AllLt D (tl ++ own)) (hne : (cellFault fs cs (Int.toNat i) != Str.ofString "") = true)
    (hm : ∀ z, z ≠ x → stored.contains z = false → m' z = m₀ z) (hoff : ∀ p ∈ own, ∀ q ∈ (l, W.listOf (List.toArray vs) n0) :: tl, p.1 ≠ q.1) : TurnEnd g L x stored m₀ (FaultJ fs cs l (i + 1)) own s { s with heap := h', toks := tk } := by
  refine TurnEnd.intro (nx := (l, W.listOf (List.toArray (vs ++ [.ref D])) n1) :: (D, pairObj (.int (i : Int) k1) (.str (cellFault fs cs (Int.toNat i)) k2) n2) :: tl) F N (fun p hp => ?_) hm (fun p hp => ?_) ⟨vs ++ [.ref D], n1, (D, pairObj (.int (i : Int) k1) (.str (cellFault fs cs (Int.toNat i)) k2) n2) :: tl, rfl, ?_, ?_, ?_, by simp; omega⟩
  · simp only [List.cons_append, List.mem_cons] at hp ⊢
    rcases hp with h | h | h
    · exact .inr (.inl h)
    · exact .inl h
    · exact .inr (.inr h)
  · intro q hq
    rcases List.mem_cons.mp hq with rfl | hq
    · exact hoff p hp (l, W.listOf (List.toArray vs) n0) (.head _)
    rcases List.mem_cons.mp hq with rfl | hq
    · exact Nat.ne_of_lt (tb_ltOf lt2 p (List.mem_append.mpr (.inr hp)))
    · exact hoff p hp _ (.tail _ hq)
  · intro p hp
    rcases List.mem_cons.mp hp with rfl | hp
    · exact Nat.ne_of_gt lt
    · exact htl p hp
  · intro p hp
    rcases List.mem_cons.mp hp with rfl | hp
    · rfl
    · exact hcl p hp
  · rw [faultsTo, faultAt, if_neg (by simpa using hne)]
    exact hf.snoc (k1 := k1) (k2 := k2) (n' := n2) (by simp)
theorem faultJ_same {g h' : Heap} {L l : Addr} {m₀ m' : Str → Option Value} {fs cs : List (Int × Int)} {i n0 n1 tk : Nat} {vs : List Value} {tl own : List (Addr × Obj)} {x : Str} {stored : List Str} {s : Shared}
    (F : Fr g L h' m') (N : News g L h' ((l, W.listOf (List.toArray vs) n1) :: (tl ++ own)))
    (htl : ∀ p ∈ tl, p.1 ≠ l) (hcl : ∀ p ∈ tl, p.2.cls = .type "tuple") (hf : FaultsIn tl vs (faultsTo fs cs i)) (hvl : vs.length ≤ i) (hne : (cellFault fs cs (Int.toNat i) != Str.ofString "") = false)
    (hm : ∀ z, z ≠ x → stored.contains z = false → m' z = m₀ z) (hoff : ∀ p ∈ own, ∀ q ∈ (l, W.listOf (List.toArray vs) n0) :: tl, p.1 ≠ q.1) : TurnEnd g L x stored m₀ (FaultJ fs cs l (i + 1)) own s { s with heap := h', toks := tk } := by
  refine TurnEnd.intro (nx := (l, W.listOf (List.toArray vs) n1) :: tl) F N (fun p hp => hp) hm (fun p hp q hq => ?_) ⟨vs, n1, tl, rfl, htl, hcl, ?_, by omega⟩
  · rcases List.mem_cons.mp hq with rfl | hq
    · exact hoff p hp (l, W.listOf (List.toArray vs) n0) (.head _)
    · exact hoff p hp _ (.tail _ hq)
  · rw [faultsTo, faultAt, if_pos (by simpa using hne), List.append_nil]
    exact hf
theorem heap_faults_spec {w : World} {mg mb : Str → Option Value} {R : Heap} {s : Shared} {a : SAd} {nm : NAd} {vs rs : List Value} {cs fs : List (Int × Int)} {Q E : Value → Shared → Prop}
    (C : Cx w mg mb R s.heap) (hS : StoreAt w s.heap a) (hN : NamesAt w s.heap nm) (eN : a.N = nm.N) (hl : s.heap.IsList a.hp vs.toArray) (hc : CellsV s.heap vs cs) (hlf : s.heap.IsList nm.fx rs.toArray) (hcf : CellsV s.heap rs fs)
    (hz : cs.length < 1000) (hzf : fs.length < 1000) (hF : FunOk fs cs)
    (hQ : ∀ h' tk' l lg, Kept [] s.heap h' → (∀ p ∈ lg, h'.get? p.1 = some p.2 ∧ s.heap.get? p.1 = none) → FaultList lg l (faultsTo fs cs cs.length) → Q (.ref l) { s with heap := h', toks := tk' }) :
    wpAny (model PySem.Challenge.rw_ok0022_01.row.prog w) (AA 500 5000) (call (.ref 383) [.ref a.S]) Q E s := by
  refine' enter (mt := []) (binds := [(Str.ofString "store", .ref a.S)]) C (fun _ h => nomatch h) ?k6 ?k7 ?k8 ?k9 ?kB ?_ ?c2 ?c3 ?c4 ?c5
  case k6 => k_is
  case k7 => k_is
  case k8 => decide
  case k9 => exact BindsTo.of_eq rfl
  case kB => exact locs rfl
  case c2 => rfl
  case c3 => rfl
  case c4 => rfl
  case c5 => decide
  intro g L h₁ en X T F N
  obtain ⟨hS1, hS2⟩ := hS.keeps en.up0
  have hl' := isList_keeps hl en.up0
  have hc' := hc.keeps en.up0
  have hlf' := isList_keeps hlf en.up0
  have hcf' := hcf.keeps en.up0
  obtain ⟨hN1, hN2⟩ := hN.keeps en.up0
  clear hS hl hc hlf hcf hN
  (try dsimp only)
  (try k_fold)
  repeat' ((fail_if_success (with_reducible show wpAny _ _ (pyIter _) _ _ _)); first | (k_unfold; (try dsimp only)) | walk1 | (dsimp only; walk1) | fail "no step")
  refine' range_loop0 (n := cs.length) [Str.ofString "fault"] (FaultJ fs cs _) ?hh ?hr ?hz ?hs ?F ?N ?hj ?turn ?done
  case hh => rfl
  case hr => assumption
  case F => assumption
  case N => assumption
  case hj => exact faultJ0
  case hs => omega
  case hz => rfl
  case turn =>
    rintro i t u nx h tk own hi ⟨vs', n', tl, rfl, htl, hcl, hf, hvl⟩ hoff _ F N
    replace F : Fr g L h _ := F
    replace N : News g L h _ := N
    simp only [List.cons_append] at N
    have htlo : ∀ p ∈ tl ++ own, p.1 ≠ _ := fun p hp => (List.mem_append.mp hp).elim (htl p) fun q => hoff p q _ (.head _)
    (try dsimp only)
    (try k_fold)
    repeat' ((fail_if_success (with_reducible show wpAny _ _ (pyIter _) _ _ _)); first | (k_unfold; (try dsimp only)) | walk1 | (dsimp only; walk1) | fail "no step")
    all_goals (try dsimp only)
    · exact faultJ_app (by assumption) (by assumption) (by assumption) (by assumption) (by assumption) (by assumption) (And.left (by assumption)) (And.right (by assumption)) (by assumption) (by intro z h1 h2; simp only [List.contains_cons, List.contains_nil, Bool.or_false, Bool.or_eq_false_iff, beq_eq_false_iff_ne, ne_eq] at h2; simp [h1, h2]) hoff
    · exact faultJ_same (by assumption) (by assumption) (by assumption) (by assumption) (by assumption) (by assumption) (by assumption) (by intro z h1 h2; simp only [List.contains_cons, List.contains_nil, Bool.or_false, Bool.or_eq_false_iff, beq_eq_false_iff_ne, ne_eq] at h2; simp [h1, h2]) hoff
  case done =>
    rintro u nx h tk ⟨vs', n', tl, rfl, htl, hcl, hf, hvl⟩ F N
    replace F : Fr g L h _ := F
    replace N : News g L h _ := N
    (try dsimp only)
    (try k_fold)
    repeat' ((fail_if_success (with_reducible show wpAny _ _ (pyIter _) _ _ _)); first | (k_unfold; (try dsimp only)) | walk1 | (dsimp only; walk1) | fail "no step")
    all_goals (try dsimp only)
    exact hQ _ _ _ _ (en.kept0 F) (en.fresh N) ⟨vs', n', tl, rfl, htl, hcl, hf⟩
end
section
theorem push_spec {w : World} {mg mb : Str → Option Value} {R : Heap} {s : Shared} {a : SAd} {v : Value} {vs : List Value} {n : Nat} {Q E : Value → Shared → Prop}
    (C : Cx w mg mb R s.heap) (hS : StoreAt w s.heap a) (hl : s.heap.get? a.hp = some (W.listOf (List.toArray vs) n)) (hR : R.get? a.hp = none) (hz : vs.length < 10000)
    (hQ : ∀ h' tk' t', Kept [a.hp] s.heap h' → h'.get? a.hp = some (W.listOf (List.toArray (vs ++ [v])) (n + 1)) → Q (.int vs.length t') { s with heap := h', toks := tk' }) :
    wpAny (model PySem.Challenge.rw_ok0022_01.row.prog w) (AA 800 8000) (call (.ref 202) [.ref a.S, v]) Q E s := by
  refine' enter (mt := [(a.hp, W.listOf (List.toArray vs) n)]) (binds := [(Str.ofString "self", .ref a.S), (Str.ofString "cell", v)]) C (fun p hp => by rw [List.mem_singleton.mp hp]; exact ⟨hl, hR⟩) ?k6 ?k7 ?k8 ?k9 ?kB ?_ ?c2 ?c3 ?c4 ?c5
  case k6 => k_is
  case k7 => k_is
  case k8 => decide
  case k9 => exact BindsTo.of_eq rfl
  case kB => exact locs rfl
  case c2 => rfl
  case c3 => rfl
  case c4 => rfl
  case c5 => decide
  intro g L h₁ en X T F N
  have hS1 := en.up _ _ hS.s (by simpa using ne_of_objs hS.s hl (by simp))
  have hS2 := en.up _ _ hS.d (by simpa using ne_of_objs hS.d hl (by simp))
  clear hS hl
  (try dsimp only)
  (try k_fold)
  repeat' ((fail_if_success (with_reducible show wpAny _ _ (pyIter _) _ _ _)); first | (k_unfold; (try dsimp only)) | walk1 | (dsimp only; walk1) | fail "no step")
  (try dsimp only)
  rename Fr _ _ _ _ => Fe
  rename News _ _ _ _ => Ne
  exact hQ _ _ _ (en.kept Fe) (Ne _ (.head _)).1

theorem fr_kept {g h h' : Heap} {L : Addr} {W : List Addr} {m : Str → Option Value} (F : Fr g L h m) (kp : Kept W h h') (hW : ∀ x ∈ W, g.get? x = none) (hL : L ∉ W) : Fr g L h' m := by
  obtain ⟨o, a1, a2, ho, a3⟩ := F.ns
  refine ⟨⟨o, a1, a2, kp _ _ ho hL, a3⟩, fun b o' e => kp _ _ (F.keep _ _ e) (fun m => by rw [hW b m] at e; exact (nomatch e)), F.above⟩
theorem upd_kept {g h h' : Heap} {L D : Addr} {news news' : List (Addr × Obj)} {o o' : Obj} (N : News g L h news) (U : Upd D o o' news news') (kp : Kept [D] h h') (ho : h'.get? D = some o') : News g L h' news' := by
  obtain ⟨pre, post, rfl, rfl, a, b⟩ := U.split
  intro p hp
  rcases List.mem_append.mp hp with hp | hp
  · have z := N p (List.mem_append.mpr (.inl hp))
    exact ⟨kp _ _ z.1 (by simpa using a p hp), z.2⟩
  · rcases List.mem_cons.mp hp with rfl | hp
    · exact ⟨ho, (N (D, o) (List.mem_append.mpr (.inr (.head _)))).2⟩
    · have z := N p (List.mem_append.mpr (.inr (.tail _ hp)))
      exact ⟨kp _ _ z.1 (by simpa using b p hp), z.2⟩
theorem use_push {w : World} {mg mb : Str → Option Value} {g : Heap} {L : Addr} {m : Str → Option Value} {news : List (Addr × Obj)} {A : Around} {s : Shared} {a : SAd} {v : Value} {vs : List Value} {n : Nat} {news' : List (Addr × Obj)} {Q E : Value → Shared → Prop}
    (F : Fr g L s.heap m) (N : News g L s.heap news) (X : (frag.heap_1 w.params).In g) (T : TopRead vw (looseW vw [Str.ofString "VOID", Str.ofString "Store"]) mg mb g) (hS : StoreAt w g a) (U : Upd a.hp (W.listOf (List.toArray vs) n) (W.listOf (List.toArray (vs ++ [v])) (n + 1)) news news') (hz : vs.length < 10000) (hh : A.handled = none) (hd : A.depth ≤ 800) (hu : A.units ≤ 8000)
    (hQ : ∀ h' tk' t', Fr g L h' m → News g L h' news' → Q (.int vs.length t') { s with heap := h', toks := tk' }) :
    wpAny (model PySem.Challenge.rw_ok0022_01.row.prog w) A (call (.ref 202) [.ref a.S, v]) Q E s := by
  have hm : (a.hp, W.listOf (List.toArray vs) n) ∈ news := by obtain ⟨pre, post, rfl, _⟩ := U.split; simp
  exact wp_big hh hd hu (push_spec (R := g) ⟨X, T, F.keep⟩ (hS.keeps F.keep) (N _ hm).1 (N _ hm).2.2 hz fun h' tk' t' kp ho =>
    hQ h' tk' t' (fr_kept F kp (by simpa using (N _ hm).2.2) (by simpa using Ne.symm (N _ hm).2.1)) (upd_kept N U kp ho))
local macro_rules | `(tactic| walk_at "call ref") => `(tactic| (k_here; k_dflt (apply use_push; kbt_sums; exact ⟨by assumption, by assumption⟩; k_upd; omega; kbt_ne; k_whole); intro _ _ _ _ _; k_sweep))
theorem new_var_spec {w : World} {mg mb : Str → Option Value} {R : Heap} {s : Shared} {a : SAd} {vs : List Value} {n : Nat} {Q E : Value → Shared → Prop}
    (C : Cx w mg mb R s.heap) (hS : StoreAt w s.heap a) (hl : s.heap.get? a.hp = some (W.listOf (List.toArray vs) n)) (hR : R.get? a.hp = none) (hz : vs.length < 10000)
    (hQ : ∀ h' tk' r k1 k2, Kept [a.hp] s.heap h' → h'.get? a.hp = some (W.listOf (List.toArray (vs ++ [.ref r])) (n + 1)) → IsTup h' r #[.int 0 k1, .int vs.length k2] → Q (.ref r) { s with heap := h', toks := tk' }) :
    wpAny (model PySem.Challenge.rw_ok0022_01.row.prog w) (AA 700 7000) (call (.ref 209) [.ref a.S]) Q E s := by
  refine' enter (mt := [(a.hp, W.listOf (List.toArray vs) n)]) (binds := [(Str.ofString "self", .ref a.S)]) C (fun p hp => by rw [List.mem_singleton.mp hp]; exact ⟨hl, hR⟩) ?k6 ?k7 ?k8 ?k9 ?kB ?_ ?c2 ?c3 ?c4 ?c5
  case k6 => k_is
  case k7 => k_is
  case k8 => decide
  case k9 => exact BindsTo.of_eq rfl
  case kB => exact locs rfl
  case c2 => rfl
  case c3 => rfl
  case c4 => rfl
  case c5 => decide
  intro g L h₁ en X T F N
  have hS1 := en.up _ _ hS.s (by simpa using ne_of_objs hS.s hl (by simp))
  have hS2 := en.up _ _ hS.d (by simpa using ne_of_objs hS.d hl (by simp))
  clear hS hl
  (try dsimp only)
  (try k_fold)
  repeat' ((fail_if_success (with_reducible show wpAny _ _ (pyIter _) _ _ _)); first | (k_unfold; (try dsimp only)) | walk1 | (dsimp only; walk1) | fail "no step")
  (try dsimp only)
  rename Fr _ _ _ _ => Fe
  rename News _ _ _ _ => Ne
  exact hQ _ _ _ _ _ (en.kept Fe) (Ne _ (.tail _ (.head _))).1 ⟨_, (Ne _ (.head _)).1, rfl, _, rfl⟩
end
noncomputable def takeV (rem : List Int) (lim : Int) : Int := match rem with
  | [] => 0
  | c :: _ => (c.natAbs : Int) % lim
structure PurseS (h : Heap) (pu sc : Addr) (rem : List Int) : Prop where
  p : ∃ vs ns pos kp n, h.get? pu = some (W.listOf (List.toArray [.ref sc, .int pos kp]) n) ∧ h.IsList sc (List.toArray vs) ∧ IntsAre vs ns ∧ 0 ≤ pos ∧ ns.length < 1000 ∧ rem = ns.drop pos.toNat
  ne : pu ≠ sc
theorem PurseS.kept {h h' : Heap} {W : List Addr} {pu sc : Addr} {rem : List Int} (x : PurseS h pu sc rem) (k : Kept W h h') (n1 : pu ∉ W) (n2 : sc ∉ W) : PurseS h' pu sc rem :=
  let ⟨vs, ns, pos, kp, n, a, ⟨o, b, c⟩, d⟩ := x.p; ⟨⟨vs, ns, pos, kp, n, k _ _ a n1, ⟨o, k _ _ b n2, c⟩, d⟩, x.ne⟩
theorem drop_ge {ns : List Int} {pos : Int} (h : (ns.length : Int) ≤ pos) : ns.drop pos.toNat = [] := List.drop_eq_nil_of_le (by omega)
theorem drop_lt {ns : List Int} {pos : Int} (h0 : 0 ≤ pos) (h : ¬ (ns.length : Int) ≤ pos) : ns.drop pos.toNat = ns.getD pos.toNat 0 :: ns.drop (pos + 1).toNat := by
  have hl : pos.toNat < ns.length := by omega
  rw [List.drop_eq_getElem_cons hl, List.getD_eq_getElem?_getD, List.getElem?_eq_getElem hl, show (pos + 1).toNat = pos.toNat + 1 by omega]; rfl
theorem takeV_val (c lim : Int) (h : 0 < lim) : (if c < 0 then -c else c).fmod lim = (c.natAbs : Int) % lim := by
  rw [Int.fmod_eq_emod_of_nonneg _ (Int.le_of_lt h)]
  congr 1
  split <;> omega
theorem take_spec {w : World} {mg mb : Str → Option Value} {R : Heap} {s : Shared} {pu sc : Addr} {lim : Int} {kl : Tok} {rem : List Int} {Q E : Value → Shared → Prop}
    (C : Cx w mg mb R s.heap) (hP : PurseS s.heap pu sc rem) (hR : R.get? pu = none) (hlim : 0 < lim)
    (hQ : ∀ h' tk' t', Kept [pu] s.heap h' → PurseS h' pu sc rem.tail → Q (.int (takeV rem lim) t') { s with heap := h', toks := tk' }) :
    wpAny (model PySem.Challenge.rw_ok0022_01.row.prog w) (AA 800 8000) (call (.ref 404) [.ref pu, .int lim kl]) Q E s := by
  obtain ⟨⟨vs, ns, pos, kp, n, hp, hl, hi, h0, hz, hrem⟩, hne⟩ := hP
  refine' enter (mt := [(pu, W.listOf (List.toArray [.ref sc, .int pos kp]) n)]) (binds := [(Str.ofString "purse", .ref pu), (Str.ofString "limit", .int lim kl)]) C (fun p q => by rw [List.mem_singleton.mp q]; exact ⟨hp, hR⟩) ?k6 ?k7 ?k8 ?k9 ?kB ?_ ?c2 ?c3 ?c4 ?c5
  case k6 => k_is
  case k7 => k_is
  case k8 => decide
  case k9 => exact BindsTo.of_eq rfl
  case kB => exact locs rfl
  case c2 => rfl
  case c3 => rfl
  case c4 => rfl
  case c5 => decide
  intro g L h₁ en X T F N
  have hl' : g.IsList sc vs.toArray := by obtain ⟨o, ho, r⟩ := hl; exact ⟨o, en.up _ _ ho (by simpa using Ne.symm hne), r⟩
  have hlen := hi.length
  clear hl hp
  (try dsimp only)
  (try k_fold)
  repeat' ((fail_if_success (with_reducible show wpAny _ _ (pyIter _) _ _ _)); first | (k_unfold; (try dsimp only)) | walk1 | (dsimp only; walk1) | fail "no step")
  all_goals (try dsimp only)
  all_goals (rename Fr _ _ _ _ => Fe)
  all_goals (rename News _ _ _ _ => Ne)
  · have hsc : (L : Nat) ≠ 0 ∨ True := .inr trivial
    have e : rem = [] := by rw [hrem]; exact drop_ge (by assumption)
    subst e
    exact hQ _ _ _ (en.kept Fe) ⟨⟨vs, ns, pos, _, _, (Ne _ (.head _)).1, Fe.lst hl', hi, h0, hz, hrem⟩, hne⟩
  · have e := drop_lt h0 (by assumption)
    rw [takeV_val _ _ hlim]
    rw [e] at hrem
    subst hrem
    exact hQ _ _ _ (en.kept Fe) ⟨⟨vs, ns, pos + 1, _, _, (Ne _ (.head _)).1, Fe.lst hl', hi, by omega, hz, rfl⟩, hne⟩
section
noncomputable def symD' (k : Nat) (ts : List Str) : List (PyData × PyData) := (ts.zipIdx k).map fun p => (PyData.str p.1, PyData.int p.2)
noncomputable abbrev symD (ts : List Str) : List (PyData × PyData) := symD' 0 ts
noncomputable def atomGet (ts : List Str) (x : Str) : Int := if x ∈ ts then (ts.idxOf x : Int) else -1
theorem lookup_symD (x : Str) : ∀ (ts : List Str) (k : Nat), PySem.Spec.lookup (.str x) (symD' k ts) = if x ∈ ts then some (.int ((ts.idxOf x + k : Nat) : Int)) else none := by
  intro ts
  induction ts with
  | nil => intro k; simp [symD', PySem.Spec.lookup]
  | cons t r ih =>
    intro k
    have e : symD' k (t :: r) = (PyData.str t, PyData.int k) :: symD' (k + 1) r := by simp [symD', List.zipIdx_cons]
    rw [e, PySem.Spec.lookup, PyProof.V.same_str, ih]
    by_cases h : t = x
    · subst h; simp
    · have h2 : ¬ x = t := fun e => h e.symm
      simp only [h, decide_false, Bool.false_eq_true, if_false, List.mem_cons, h2, false_or]
      split
      · rw [List.idxOf_cons, beq_false_of_ne h]; simp; omega
      · rfl
theorem lookup_atom (ts : List Str) (x : Str) : (PySem.Spec.lookup (.str x) (symD ts)).getD (.int (-1)) = .int (atomGet ts x) := by
  rw [lookup_symD]; unfold atomGet; split <;> simp
theorem symD'_append (ts : List Str) (x : Str) (k : Nat) : symD' k (ts ++ [x]) = symD' k ts ++ [(.str x, .int ((ts.length + k : Nat) : Int))] := by
  simp [symD', List.zipIdx_append, Nat.add_comm]
theorem symD'_any (ts : List Str) (x : Str) : ∀ k : Nat, x ∉ ts → (symD' k ts).any (fun p => PySem.Spec.same p.1 (.str x)) = false := by
  induction ts with
  | nil => intro k _; simp [symD']
  | cons t r ih =>
    intro k h
    have e : symD' k (t :: r) = (PyData.str t, PyData.int k) :: symD' (k + 1) r := by simp [symD', List.zipIdx_cons]
    simp only [List.mem_cons, not_or] at h
    rw [e, List.any_cons, ih _ h.2, PyProof.V.same_str, Bool.or_false]
    exact decide_eq_false fun e => h.1 e.symm
theorem putD_symD {ts : List Str} {x : Str} (h : x ∉ ts) : PyProof.V.putD (.str x) (.int ts.length) (symD ts) = symD (ts ++ [x]) := by
  unfold PyProof.V.putD
  rw [symD'_any ts x 0 h]; unfold symD; rw [symD'_append]; simp
theorem get_atom {w : World} {A : Around} {E : Value → Shared → Prop} {s : Shared} {d : Addr} {ts : List Str} {x : Str} {kx k1 : Tok} {Q : Value → Shared → Prop} (T : TabAt (strKind PySem.Challenge.rw_ok0022_01.row.prog w) PyData.str s.heap d (symD ts))
    (h : ∀ t, Q (.int (atomGet ts x) t) { s with toks := s.toks + 1 }) : wpAny (model PySem.Challenge.rw_ok0022_01.row.prog w) A (call (.builtin "dict.get") [.ref d, .str x kx, .int (-1) k1]) Q E s :=
  call_get2_strTab T (PyProof.V.Flat.int _ _) fun v hv => by
    rw [lookup_atom] at hv
    obtain ⟨t, rfl⟩ := hv.int_inv
    exact h t
theorem atomGet_neg {ts : List Str} {x : Str} (h : ¬ 0 ≤ atomGet ts x) : x ∉ ts := fun m => h (by simp [atomGet, m])
theorem atomGet_pos {ts : List Str} {x : Str} (h : 0 ≤ atomGet ts x) : x ∈ ts ∧ atomGet ts x = ts.idxOf x := by
  by_cases m : x ∈ ts
  · exact ⟨m, by simp [atomGet, m]⟩
  · simp [atomGet, m] at h
theorem set_atom {w : World} {A : Around} {E : Value → Shared → Prop} {s : Shared} {g : Heap} {L d : Addr} {m : Str → Option Value} {news : List (Addr × Obj)} {gg : Obj → List (Addr × Obj)} {o : Obj} {kvs : List (Str × Value)} {ts : List Str} {x : Str} {kx k1 : Tok} {z : Int} {Q : Unit → Shared → Prop}
    (F : Fr g L s.heap m) (N : News g L s.heap news) (U : UpdF d o news gg) (hd' : o.IsDictOf (strKind PySem.Challenge.rw_ok0022_01.row.prog w) kvs) (hf : PyProof.V.FlatPairs PyData.str kvs (symD ts)) (hx : x ∉ ts) (hz : ts.length < 1000) (e : z = ts.length)
    (h : ∀ h' o' kvs', Fr g L h' m → News g L h' (gg o') → o'.IsDictOf (strKind PySem.Challenge.rw_ok0022_01.row.prog w) kvs' → PyProof.V.FlatPairs PyData.str kvs' (symD (ts ++ [x])) → Q () { s with heap := h', toks := s.toks + 1 }) :
    wpAny (model PySem.Challenge.rw_ok0022_01.row.prog w) A (setItem (.ref d) (.str x kx) (.int z k1)) Q E s := by
  subst e
  refine setItem_K PyProof.V.same_str (strKind_is _ _ _ _) (PyProof.V.Flat.int _ _) F N U hd' hf (fun h' o' F' N' h1 h2 => h h' o' _ F' N' h1 ?_) (by rw [sizeLine_eq]; simp [symD, symD']; omega)
  rw [putD_symD hx] at h2; exact h2
local macro_rules | `(tactic| walk_at "setItem ref str") => `(tactic| (k_here; k_dflt (refine' set_atom ?F ?N ?U ?d ?f ?x ?z ?e ?_; (case F | N => k_asm); (case U => k_updF); (case d | f => k_asm); (case x => exact atomGet_neg (by assumption)); (case z | e => omega)); intro _ _ _ _ N' _ _; (try dsimp only at N'); (try k_sweep)))
local macro_rules | `(tactic| walk_at "call builtin:dict.get") => `(tactic| (k_here; k_dflt (refine' get_atom ?T ?_; (case T => k_tabat); k_whole); intro _))

noncomputable def funD' (k : Nat) (fs : List (Int × Int)) : List (PyData × PyData) := (fs.zipIdx k).map fun p => (PyData.tuple [.int p.1.1, .int p.1.2], PyData.int p.2)
noncomputable abbrev funD (fs : List (Int × Int)) : List (PyData × PyData) := funD' 0 fs
noncomputable def addA (ts : List Str) (x : Str) : List Str := if x ∈ ts then ts else ts ++ [x]
noncomputable def addF (fs : List (Int × Int)) (c : Int × Int) : List (Int × Int) := if c ∈ fs then fs else fs ++ [c]
theorem addA_pos {ts : List Str} {x : Str} (h : x ∈ ts) : addA ts x = ts := by simp [addA, h]
theorem addA_neg {ts : List Str} {x : Str} (h : x ∉ ts) : addA ts x = ts ++ [x] := by simp [addA, h]
noncomputable abbrev FunTab (w : World) (h : Heap) (d : Addr) (fs : List (Int × Int)) : Prop := TabAtH (tupleKind (intKind PySem.Challenge.rw_ok0022_01.row.prog w)) (encTuple PyData.int) h d (funD fs)
structure NamesS (w : World) (h : Heap) (a : NAd) (ts : List Str) (fs : List (Int × Int)) : Prop where
  i : NamesAt w h a
  tx : ∃ vs n, h.get? a.tx = some (W.listOf (List.toArray vs) n) ∧ vs.length = ts.length
  an : ∃ o kvs, h.get? a.an = some o ∧ o.IsDictOf (strKind PySem.Challenge.rw_ok0022_01.row.prog w) kvs ∧ PyProof.V.FlatPairs PyData.str kvs (symD ts)
  fx : CellL h a.fx fs
  fn : FunTab w h a.fn fs
  lo : (a.an == sysModules) = false
  n1 : a.tx ≠ a.an
  n2 : a.tx ≠ a.fx
  n3 : a.tx ≠ a.fn
  n4 : a.an ≠ a.fx
  n5 : a.an ≠ a.fn
  n6 : a.fx ≠ a.fn
  ni : a.N ∉ [a.tx, a.an, a.fx, a.fn] ∧ a.dN ∉ [a.tx, a.an, a.fx, a.fn]
theorem funTab_kept {w : World} {h h' : Heap} {W : List Addr} {d : Addr} {fs : List (Int × Int)} (x : FunTab w h d fs) (k : Kept W h h') (hd : d ∉ W) (nt : NT h W) : FunTab w h' d fs := by
  obtain ⟨lo, xs, ⟨o, es, ep, ho, e1, e2, e3, e4, e5⟩, e6⟩ := x
  refine ⟨lo, xs, ⟨o, es, ep, k _ _ ho hd, e1, e2, e3, fun y hy => ?_, e5⟩, e6⟩
  obtain ⟨oy, it, n, h1, h2, h3⟩ := e4 y hy
  exact ⟨oy, it, n, k _ _ h1 (fun m => nt _ m _ h1 ⟨_, _, h3.1⟩ h2), h2, h3⟩
theorem NamesS.kept {w : World} {h h' : Heap} {W : List Addr} {a : NAd} {ts : List Str} {fs : List (Int × Int)} (x : NamesS w h a ts fs) (k : Kept W h h') (m1 : a.N ∉ W) (m2 : a.dN ∉ W) (m3 : a.tx ∉ W) (m4 : a.an ∉ W) (m5 : a.fx ∉ W) (m6 : a.fn ∉ W) (nt : NT h W) : NamesS w h' a ts fs :=
  ⟨⟨k _ _ x.i.s m1, k _ _ x.i.d m2⟩, (let ⟨vs, n, e, l⟩ := x.tx; ⟨vs, n, k _ _ e m3, l⟩), (let ⟨o, kvs, e, l⟩ := x.an; ⟨o, kvs, k _ _ e m4, l⟩), x.fx.kept k m5 nt, funTab_kept x.fn k m6 nt, x.lo, x.n1, x.n2, x.n3, x.n4, x.n5, x.n6, x.ni⟩
theorem dict_cls {w : World} {o : Obj} {kvs : List (Str × Value)} (h : o.IsDictOf (strKind PySem.Challenge.rw_ok0022_01.row.prog w) kvs) : o.cls = .type "dict" := by obtain ⟨es, ep, hc, _⟩ := h; exact hc.1
theorem NamesS.tx_an {w : World} {h : Heap} {a : NAd} {ts : List Str} {fs : List (Int × Int)} (x : NamesS w h a ts fs) : NT h [a.tx, a.an] := by
  intro q hq o ho
  rcases List.mem_cons.mp hq with rfl | hq
  · obtain ⟨vs, n, e, _⟩ := x.tx
    rw [e] at ho; cases ho
    exact fun _ e => absurd (PySem.Value.type.inj e) (by decide)
  · obtain ⟨o', kvs, e, hd, _⟩ := x.an
    rw [List.mem_singleton.mp hq, e] at ho; cases ho
    rw [dict_cls hd]
    exact fun _ e => absurd (PySem.Value.type.inj e) (by decide)
theorem NamesS.fx_fn {w : World} {h : Heap} {a : NAd} {ts : List Str} {fs : List (Int × Int)} (x : NamesS w h a ts fs) : NT h [a.fx, a.fn] := by
  intro q hq o ho
  rcases List.mem_cons.mp hq with rfl | hq
  · obtain ⟨vs, n, e, _⟩ := x.fx
    rw [e] at ho; cases ho
    exact fun _ e => absurd (PySem.Value.type.inj e) (by decide)
  · obtain ⟨_, xs, ⟨o', es, ep, e, hd, _⟩, _⟩ := x.fn
    rw [List.mem_singleton.mp hq, e] at ho; cases ho
    rw [hd.1]
    exact fun _ e => absurd (PySem.Value.type.inj e) (by decide)
theorem atom_spec {w : World} {mg mb : Str → Option Value} {R : Heap} {s : Shared} {a : NAd} {x : Str} {kx : Tok} {ts : List Str} {fs : List (Int × Int)} {Q E : Value → Shared → Prop}
    (C : Cx w mg mb R s.heap) (hN : NamesS w s.heap a ts fs) (hR1 : R.get? a.tx = none) (hR2 : R.get? a.an = none) (hz : ts.length < 1000)
    (hQ : ∀ h' tk' t', Kept [a.tx, a.an] s.heap h' → NamesS w h' a (addA ts x) fs → Q (.int ((addA ts x).idxOf x) t') { s with heap := h', toks := tk' }) :
    wpAny (model PySem.Challenge.rw_ok0022_01.row.prog w) (AA 900 9000) (call (.ref 88) [.ref a.N, .str x kx]) Q E s := by
  obtain ⟨vs, n, ht, hvl⟩ := hN.tx
  obtain ⟨o, kvs, ho, hd', hf⟩ := hN.an
  have lo := hN.lo
  have hne := neN hN.n1
  refine' enter (mt := [(a.tx, W.listOf (List.toArray vs) n), (a.an, o)]) (binds := [(Str.ofString "self", .ref a.N), (Str.ofString "text", .str x kx)]) C (fun p q => by rcases List.mem_cons.mp q with rfl | q; exact ⟨ht, hR1⟩; rw [List.mem_singleton.mp q]; exact ⟨ho, hR2⟩) ?k6 ?k7 ?k8 ?k9 ?kB ?_ ?c2 ?c3 ?c4 ?c5
  case k6 => k_is
  case k7 => k_is
  case k8 => decide
  case k9 => exact BindsTo.of_eq rfl
  case kB => exact locs rfl
  case c2 => rfl
  case c3 => rfl
  case c4 => rfl
  case c5 => decide
  intro g L h₁ en X T F N
  have hW : ∀ b, b ∉ [a.tx, a.an] → b ∉ ([(a.tx, W.listOf (List.toArray vs) n), (a.an, o)] : List (Addr × Obj)).map (·.1) := fun b hb => hb
  have hS1 : g.get? a.N = some (instObj 154 a.dN) := en.up _ _ hN.i.s (hW _ fun m => hN.ni.1 (by simp only [List.mem_cons] at m ⊢; simp at m; rcases m with m | m <;> simp [m]))
  have hS2 : g.get? a.dN = some (dictOf (nmEs w.params a) a.n) := en.up _ _ hN.i.d (hW _ fun m => hN.ni.2 (by simp only [List.mem_cons] at m ⊢; simp at m; rcases m with m | m <;> simp [m]))
  (try dsimp only)
  (try k_fold)
  repeat' ((fail_if_success (with_reducible show wpAny _ _ (pyIter _) _ _ _)); first | (k_unfold; (try dsimp only)) | walk1 | (dsimp only; walk1) | fail "no step")
  all_goals (try dsimp only)
  all_goals (rename Fr _ _ _ _ => Fe)
  all_goals (rename News _ _ _ _ => Ne)
  · obtain ⟨hm, e⟩ := atomGet_pos (ts := ts) (x := x) (by assumption)
    rw [e]
    rw [addA_pos hm] at hQ
    have kp := en.kept Fe
    exact hQ _ _ _ kp ⟨⟨kp _ _ hN.i.s (fun m => hN.ni.1 (by simp at m ⊢; rcases m with m | m <;> simp [m])), kp _ _ hN.i.d (fun m => hN.ni.2 (by simp at m ⊢; rcases m with m | m <;> simp [m]))⟩, ⟨vs, n, (Ne _ (.head _)).1, hvl⟩, ⟨o, kvs, (Ne _ (.tail _ (.head _))).1, hd', hf⟩, hN.fx.kept kp (by simp [hN.n2.symm, hN.n4.symm]) hN.tx_an, funTab_kept hN.fn kp (by simp [hN.n3.symm, hN.n5.symm]) hN.tx_an, hN.lo, hN.n1, hN.n2, hN.n3, hN.n4, hN.n5, hN.n6, hN.ni⟩
  · have hx := atomGet_neg (ts := ts) (x := x) (by assumption)
    rw [addA_neg hx] at hQ
    have kp := en.kept Fe
    have hidx : (List.idxOf x (ts ++ [x]) : Int) = (vs.length : Int) := by rw [List.idxOf_append, if_neg hx, hvl]; simp
    rw [← hidx]
    exact hQ _ _ _ kp ⟨⟨kp _ _ hN.i.s (fun m => hN.ni.1 (by simp at m ⊢; rcases m with m | m <;> simp [m])), kp _ _ hN.i.d (fun m => hN.ni.2 (by simp at m ⊢; rcases m with m | m <;> simp [m]))⟩, ⟨_, _, (Ne _ (.head _)).1, by simp [hvl]⟩, ⟨_, _, (Ne _ (.tail _ (.head _))).1, by assumption, by assumption⟩, hN.fx.kept kp (by simp [hN.n2.symm, hN.n4.symm]) hN.tx_an, funTab_kept hN.fn kp (by simp [hN.n3.symm, hN.n5.symm]) hN.tx_an, hN.lo, hN.n1, hN.n2, hN.n3, hN.n4, hN.n5, hN.n6, hN.ni⟩
end
section
noncomputable def funGet (fs : List (Int × Int)) (c : Int × Int) : Int := if c ∈ fs then (fs.idxOf c : Int) else -1
noncomputable abbrev keyOf (c : Int × Int) : PyData := .tuple [.int c.1, .int c.2]
theorem same_key (a b : Int × Int) : PySem.Spec.same (keyOf a) (keyOf b) = decide (a = b) := by
  have e := same_encTuple (enc := PyData.int) PyProof.V.same_int [a.1, a.2] [b.1, b.2]
  simp only [encTuple, List.map_cons, List.map_nil] at e
  rw [keyOf, keyOf, e]
  obtain ⟨a1, a2⟩ := a
  obtain ⟨b1, b2⟩ := b
  simp [Prod.ext_iff]
theorem lookup_funD (x : Int × Int) : ∀ (ts : List (Int × Int)) (k : Nat), PySem.Spec.lookup (keyOf x) (funD' k ts) = if x ∈ ts then some (.int ((ts.idxOf x + k : Nat) : Int)) else none := by
  intro ts
  induction ts with
  | nil => intro k; simp [funD', PySem.Spec.lookup]
  | cons t r ih =>
    intro k
    have e : funD' k (t :: r) = (keyOf t, PyData.int k) :: funD' (k + 1) r := by simp [funD', List.zipIdx_cons]
    rw [e, PySem.Spec.lookup, same_key, ih]
    by_cases h : t = x
    · subst h; simp
    · have h2 : ¬ x = t := fun e => h e.symm
      simp only [h, decide_false, Bool.false_eq_true, if_false, List.mem_cons, h2, false_or]
      split
      · rw [List.idxOf_cons, beq_false_of_ne h]; simp; omega
      · rfl
theorem lookup_fun (ts : List (Int × Int)) (x : Int × Int) : (PySem.Spec.lookup (keyOf x) (funD ts)).getD (.int (-1)) = .int (funGet ts x) := by
  rw [lookup_funD]; unfold funGet; split <;> simp
theorem funD'_append (ts : List (Int × Int)) (x : Int × Int) (k : Nat) : funD' k (ts ++ [x]) = funD' k ts ++ [(keyOf x, .int ((ts.length + k : Nat) : Int))] := by
  simp [funD', List.zipIdx_append, Nat.add_comm]
theorem funD'_any (ts : List (Int × Int)) (x : Int × Int) : ∀ k : Nat, x ∉ ts → (funD' k ts).any (fun p => PySem.Spec.same p.1 (keyOf x)) = false := by
  induction ts with
  | nil => intro k _; simp [funD']
  | cons t r ih =>
    intro k h
    have e : funD' k (t :: r) = (keyOf t, PyData.int k) :: funD' (k + 1) r := by simp [funD', List.zipIdx_cons]
    simp only [List.mem_cons, not_or] at h
    rw [e, List.any_cons, ih _ h.2, same_key, Bool.or_false]
    exact decide_eq_false fun e => h.1 e.symm
theorem putD_funD {ts : List (Int × Int)} {x : Int × Int} (h : x ∉ ts) : PyProof.V.putD (keyOf x) (.int ts.length) (funD ts) = funD (ts ++ [x]) := by
  unfold PyProof.V.putD
  rw [funD'_any ts x 0 h]; unfold funD; rw [funD'_append]; simp
theorem funGet_neg {ts : List (Int × Int)} {x : Int × Int} (h : ¬ 0 ≤ funGet ts x) : x ∉ ts := fun m => h (by simp [funGet, m])
theorem funGet_pos {ts : List (Int × Int)} {x : Int × Int} (h : 0 ≤ funGet ts x) : x ∈ ts ∧ funGet ts x = ts.idxOf x := by
  by_cases m : x ∈ ts
  · exact ⟨m, by simp [funGet, m]⟩
  · simp [funGet, m] at h
theorem addF_pos {ts : List (Int × Int)} {x : Int × Int} (h : x ∈ ts) : addF ts x = ts := by simp [addF, h]
theorem addF_neg {ts : List (Int × Int)} {x : Int × Int} (h : x ∉ ts) : addF ts x = ts ++ [x] := by simp [addF, h]
noncomputable def FunO (w : World) (g : Heap) (o : Obj) (fs : List (Int × Int)) : Prop := ∃ es ep xs, o.ExactDict ∧ o.data = .dict es ep ∧ es.toList = xs.map (entryOfKey (tupleKind (intKind PySem.Challenge.rw_ok0022_01.row.prog w))) ∧ (∀ x ∈ xs, IsTupleKey (intKind PySem.Challenge.rw_ok0022_01.row.prog w) g x.1 x.2.1) ∧ (xs.map (·.1)).Nodup ∧ PyProof.V.FlatPairs (encTuple PyData.int) (kvsOf xs) (funD fs)
theorem FunO.dict {w : World} {g h : Heap} {o : Obj} {fs : List (Int × Int)} {d : Addr} (x : FunO w g o fs) (ho : h.get? d = some o) (k : ∀ b o, g.get? b = some o → h.get? b = some o) : ∃ xs, h.DictOfH (tupleKind (intKind PySem.Challenge.rw_ok0022_01.row.prog w)) d xs ∧ PyProof.V.FlatPairs (encTuple PyData.int) (kvsOf xs) (funD fs) := by
  obtain ⟨es, ep, xs, e1, e2, e3, e4, e5, e6⟩ := x
  exact ⟨xs, ⟨o, es, ep, ho, e1, e2, e3, fun y hy => (let ⟨oy, it, n, h1, h2, h3⟩ := e4 y hy; ⟨oy, it, n, k _ _ h1, h2, h3⟩), e5⟩, e6⟩
theorem pair_key {w : World} {h : Heap} {D : Addr} {a b : Int} {k1 k2 : Tok} {n : Nat} (hD : h.get? D = some (pairObj (.int a k1) (.int b k2) n)) : IsTupleKey (intKind PySem.Challenge.rw_ok0022_01.row.prog w) h [a, b] D :=
  ⟨_, _, n, hD, rfl, rfl, .cons (by simp [intKind, Value.isInt]) (.cons (by simp [intKind, Value.isInt]) .nil)⟩
theorem get_fun {w : World} {A : Around} {E : Value → Shared → Prop} {s : Shared} {g : Heap} {L d D : Addr} {m : Str → Option Value} {news : List (Addr × Obj)} {o : Obj} {fs : List (Int × Int)} {a b : Int} {k1 k2 k3 : Tok} {n : Nat} {Q : Value → Shared → Prop}
    (F : Fr g L s.heap m) (N : News g L s.heap news) (hm : (d, o) ∈ news) (hfo : FunO w g o fs) (lo : (d == sysModules) = false) (hD : (D, pairObj (.int a k1) (.int b k2) n) ∈ news) (hu : A.units + 1 < cLine)
    (h : ∀ t tk', Q (.int (funGet fs (a, b)) t) { s with toks := tk' }) : wpAny (model PySem.Challenge.rw_ok0022_01.row.prog w) A (call (.builtin "dict.get") [.ref d, .ref D, .int (-1) k3]) Q E s := by
  obtain ⟨xs, h1, h2⟩ := hfo.dict (N.get hm) F.keep
  refine call_get2_tabH (knd := tupleKind (intKind PySem.Challenge.rw_ok0022_01.row.prog w)) (k := [a, b]) (same_encTuple PyProof.V.same_int) (tupleKind_room_in1 hu) (pair_key (N.get hD)) ⟨lo, xs, h1, h2⟩ (PyProof.V.Flat.int _ _) fun v hv => ?_
  have e : encTuple PyData.int [a, b] = keyOf (a, b) := rfl
  rw [e, lookup_fun] at hv
  obtain ⟨t, rfl⟩ := hv.int_inv
  exact h t _
theorem set_fun {w : World} {A : Around} {E : Value → Shared → Prop} {s : Shared} {g : Heap} {L d D : Addr} {m : Str → Option Value} {news : List (Addr × Obj)} {gg : Obj → List (Addr × Obj)} {o : Obj} {fs : List (Int × Int)} {a b z : Int} {k1 k2 k3 : Tok} {n : Nat} {Q : Unit → Shared → Prop}
    (F : Fr g L s.heap m) (N : News g L s.heap news) (U : UpdF d o news gg) (hfo : FunO w g o fs) (lo : (d == sysModules) = false) (hD : (D, pairObj (.int a k1) (.int b k2) n) ∈ news) (hu : A.units + 1 < cLine) (hx : (a, b) ∉ fs) (hz : fs.length < 1000) (e : z = fs.length)
    (h : ∀ h' o' tk', Fr g L h' m → News g L h' (gg o') → FunTab w h' d (fs ++ [(a, b)]) → Q () { s with heap := h', toks := tk' }) :
    wpAny (model PySem.Challenge.rw_ok0022_01.row.prog w) A (setItem (.ref d) (.ref D) (.int z k3)) Q E s := by
  subst e
  obtain ⟨pre, post, rfl, hg, n1, n2⟩ := U.split
  have hm : (d, o) ∈ pre ++ (d, o) :: post := List.mem_append.mpr (.inr (.head _))
  obtain ⟨xs, h1, h2⟩ := hfo.dict (N.get hm) F.keep
  have hl : xs.length ≤ sizeLine := by
    have e := h2.length
    simp only [kvsOf, List.length_map, funD, funD', List.length_zipIdx] at e
    rw [sizeLine_eq]; omega
  refine wpAny_setItem_heap (hsz := hl) (knd := tupleKind (intKind PySem.Challenge.rw_ok0022_01.row.prog w)) (k := [a, b]) (tupleKind_room_in1 hu) (pair_key (N.get hD)) h1 fun h' hm' hs => ?_
  have hm2 := hm'
  obtain ⟨o', es', ep', ho', _⟩ := hm'
  refine h h' o' _ (F.change hs (N _ hm).2.1 (N.fresh hm)) (hg o' ▸ news_set N n1 n2 hs ho') ⟨lo, _, hm2, ?_⟩
  rw [kvsOf_storedH, ← putD_funD hx]
  exact h2.stored (same_encTuple PyProof.V.same_int) [a, b] (PyProof.V.Flat.int _ _)
theorem meth_fun {w : World} {A : Around} {E : Value → Shared → Prop} {s : Shared} {g : Heap} {L d : Addr} {m : Str → Option Value} {news : List (Addr × Obj)} {o : Obj} {fs : List (Int × Int)} {pl : Sem Bool} {Q : Value × List Value → Shared → Prop}
    (F : Fr g L s.heap m) (N : News g L s.heap news) (hm : (d, o) ∈ news) (hfo : FunO w g o fs) (lo : (d == sysModules) = false) (h : Q (.builtin "dict.get", [.ref d]) s) : wpAny (model PySem.Challenge.rw_ok0022_01.row.prog w) A (getMethod (.ref d) "get" pl) Q E s := by
  obtain ⟨xs, h1, h2⟩ := hfo.dict (N.get hm) F.keep
  exact getMethod_tabH (knd := tupleKind (intKind PySem.Challenge.rw_ok0022_01.row.prog w)) (enc := encTuple PyData.int) (D := funD fs) PySem.F.slot_dict_get PySem.F.type_dict_get ⟨lo, xs, h1, h2⟩ h
local macro_rules | `(tactic| walk_at "getMethod ref") => `(tactic| (k_here; k_dflt (refine' meth_fun ?F ?N ?m ?o ?l ?_; (case F | N => k_asm); (case m => k_mem); (case o | l => assumption); k_whole)))
local macro_rules | `(tactic| walk_at "call builtin:dict.get") => `(tactic| (k_here; k_dflt (refine' get_fun ?F ?N ?m ?o ?l ?D ?u ?_; (case F | N => k_asm); (case m => k_mem); (case o | l => assumption); (case D => k_mem); (case u => kbt_words); k_whole); intro _ _))
local macro_rules | `(tactic| walk_at "setItem ref") => `(tactic| (k_here; (with_reducible show wpAny _ _ (setItem (Value.ref _) (Value.ref _) _) _ _ _); k_dflt (refine' set_fun ?F ?N ?U ?o ?l ?D ?u ?x ?z ?e ?_; (case F | N => k_asm); (case U => k_updF); (case o | l => assumption); (case D => k_mem); (case u => kbt_words); (case x => exact funGet_neg (by assumption)); (case z | e => omega)); intro _ _ _ _ N' _; (try dsimp only at N'); (try k_sweep)))
theorem functor_spec {w : World} {mg mb : Str → Option Value} {R : Heap} {s : Shared} {a : NAd} {c1 c2 : Int} {k1 k2 : Tok} {ts : List Str} {fs : List (Int × Int)} {Q E : Value → Shared → Prop}
    (C : Cx w mg mb R s.heap) (hN : NamesS w s.heap a ts fs) (hR1 : R.get? a.fx = none) (hR2 : R.get? a.fn = none) (hz : fs.length < 1000)
    (hQ : ∀ h' tk' t', Kept [a.fx, a.fn] s.heap h' → NamesS w h' a ts (addF fs (c1, c2)) → Q (.int ((addF fs (c1, c2)).idxOf (c1, c2)) t') { s with heap := h', toks := tk' }) :
    wpAny (model PySem.Challenge.rw_ok0022_01.row.prog w) (AA 900 9000) (call (.ref 102) [.ref a.N, .int c1 k1, .int c2 k2]) Q E s := by
  obtain ⟨vs, n, ht, hcv⟩ := hN.fx
  obtain ⟨lo, xs, ⟨o, es, ep, ho, q1, q2, q3, q4, q5⟩, q6⟩ := hN.fn
  have hvl := hcv.1
  have hne := neN hN.n6
  refine' enter (mt := [(a.fx, W.listOf (List.toArray vs) n), (a.fn, o)]) (binds := [(Str.ofString "self", .ref a.N), (Str.ofString "atom", .int c1 k1), (Str.ofString "arity", .int c2 k2)]) C (fun p q => by rcases List.mem_cons.mp q with rfl | q; exact ⟨ht, hR1⟩; rw [List.mem_singleton.mp q]; exact ⟨ho, hR2⟩) ?k6 ?k7 ?k8 ?k9 ?kB ?_ ?c2 ?c3 ?c4 ?c5
  case k6 => k_is
  case k7 => k_is
  case k8 => decide
  case k9 => exact BindsTo.of_eq rfl
  case kB => exact locs rfl
  case c2 => rfl
  case c3 => rfl
  case c4 => rfl
  case c5 => decide
  intro g L h₁ en X T F N
  have hW : ∀ b, b ∉ [a.fx, a.fn] → b ∉ ([(a.fx, W.listOf (List.toArray vs) n), (a.fn, o)] : List (Addr × Obj)).map (·.1) := fun b hb => hb
  have hS1 : g.get? a.N = some (instObj 154 a.dN) := en.up _ _ hN.i.s (hW _ fun m => hN.ni.1 (by simp at m ⊢; rcases m with m | m <;> simp [m]))
  have hS2 : g.get? a.dN = some (dictOf (nmEs w.params a) a.n) := en.up _ _ hN.i.d (hW _ fun m => hN.ni.2 (by simp at m ⊢; rcases m with m | m <;> simp [m]))
  have hfo : FunO w g o fs := ⟨es, ep, xs, q1, q2, q3, fun y hy => (let ⟨oy, it, n, h1, h2, h3⟩ := q4 y hy; ⟨oy, it, n, en.up _ _ h1 (hW _ fun m => hN.fx_fn _ m _ h1 ⟨_, _, h3.1⟩ h2), h2, h3⟩), q5, q6⟩
  (try dsimp only)
  (try k_fold)
  repeat' ((fail_if_success (with_reducible show wpAny _ _ (pyIter _) _ _ _)); first | (k_unfold; (try dsimp only)) | walk1 | (dsimp only; walk1) | fail "no step")
  all_goals (try dsimp only)
  all_goals (rename Fr _ _ _ _ => Fe)
  all_goals (rename News _ _ _ _ => Ne)
  · obtain ⟨hm, e⟩ := funGet_pos (ts := fs) (x := (c1, c2)) (by assumption)
    rw [e]
    rw [addF_pos hm] at hQ
    have kp := en.kept Fe
    exact hQ _ _ _ kp ⟨⟨kp _ _ hN.i.s (fun m => hN.ni.1 (by simp at m ⊢; rcases m with m | m <;> simp [m])), kp _ _ hN.i.d (fun m => hN.ni.2 (by simp at m ⊢; rcases m with m | m <;> simp [m]))⟩, (let ⟨vs1, n1, e1, l1⟩ := hN.tx; ⟨vs1, n1, kp _ _ e1 (by simp [hN.n2, hN.n3]), l1⟩), (let ⟨o1, kv1, e1, l1⟩ := hN.an; ⟨o1, kv1, kp _ _ e1 (by simp [hN.n4, hN.n5]), l1⟩),
      ⟨vs, n, (Ne _ (.tail _ (.head _))).1, hcv.kept kp hN.fx_fn⟩, ⟨lo, hfo.dict (Ne _ (.tail _ (.tail _ (.head _)))).1 Fe.keep⟩, hN.lo, hN.n1, hN.n2, hN.n3, hN.n4, hN.n5, hN.n6, hN.ni⟩
  · have hx := funGet_neg (ts := fs) (x := (c1, c2)) (by assumption)
    rw [addF_neg hx] at hQ
    have kp := en.kept Fe
    have hidx : (List.idxOf (c1, c2) (fs ++ [(c1, c2)]) : Int) = (vs.length : Int) := by rw [List.idxOf_append, if_neg hx, hvl]; simp
    rw [← hidx]
    exact hQ _ _ _ kp ⟨⟨kp _ _ hN.i.s (fun m => hN.ni.1 (by simp at m ⊢; rcases m with m | m <;> simp [m])), kp _ _ hN.i.d (fun m => hN.ni.2 (by simp at m ⊢; rcases m with m | m <;> simp [m]))⟩, (let ⟨vs1, n1, e1, l1⟩ := hN.tx; ⟨vs1, n1, kp _ _ e1 (by simp [hN.n2, hN.n3]), l1⟩), (let ⟨o1, kv1, e1, l1⟩ := hN.an; ⟨o1, kv1, kp _ _ e1 (by simp [hN.n4, hN.n5]), l1⟩),
      ⟨_, _, (Ne _ (.tail _ (.head _))).1, (hcv.kept kp hN.fx_fn).snoc ⟨_, _, _, rfl, ⟨_, (Ne _ (.head _)).1, rfl, _, rfl⟩⟩⟩, by assumption, hN.lo, hN.n1, hN.n2, hN.n3, hN.n4, hN.n5, hN.n6, hN.ni⟩
end
/-- the ground of a walk that stands on the root alone: all else is in the ledger `lst`, which is a snapshot of `hs`; `h0` is the heap at the def's entry, `W` what the def may change of it -/
structure Gl (g : Heap) (L : Addr) (W : List Addr) (h0 hs : Heap) (lst : List (Addr × Obj)) : Prop where
  sn : ∀ b o, hs.get? b = some o → b ≠ L → g.get? b = some o ∨ (b, o) ∈ lst
  nt : NT hs [L]
  kp : Kept (L :: W) h0 hs
theorem Gl.kept {g h0 hs h : Heap} {L : Addr} {W : List Addr} {m : Str → Option Value} {lst news : List (Addr × Obj)} (S : Gl g L W h0 hs lst) (F : Fr g L h m) (N : News g L h news) (hl : ∀ p ∈ lst, p ∈ news) : Kept [L] hs h := fun b o e n => by
  rcases S.sn b o e (fun q => n (q ▸ .head _)) with z | z
  · exact F.keep _ _ z
  · exact (N _ (hl _ z)).1
theorem Gl.mem {g h0 hs : Heap} {L a : Addr} {W : List Addr} {o : Obj} {lst : List (Addr × Obj)} (S : Gl g L W h0 hs lst) (h : hs.get? a = some o) (n : a ≠ L) (hg : g.get? a = none) : (a, o) ∈ lst := by
  rcases S.sn a o h n with z | z
  · rw [hg] at z; cases z
  · exact z
theorem Gl.step {g h0 hs h h' : Heap} {L : Addr} {W Wi : List Addr} {m : Str → Option Value} {lst news : List (Addr × Obj)} (S : Gl g L W h0 hs lst) (F : Fr g L h m) (N : News g L h news) (hl : ∀ p ∈ lst, p ∈ news) (k : Kept Wi h h') (hW : ∀ x ∈ Wi, x ∈ W ∨ h0.get? x = none) : Kept (L :: W) h0 h' := fun b o e n => by
  have k1 := S.kept F N hl
  refine k b o (k1 b o (S.kp b o e n) fun m => n ?_) fun m => ?_
  · rw [List.mem_singleton.mp m]; exact .head _
  · rcases hW b m with q | q
    · exact n (.tail _ q)
    · rw [e] at q; cases q
theorem nt_frame {g h : Heap} {L : Addr} {m : Str → Option Value} (F : Fr g L h m) : NT h [L] := by
  intro q hq o ho ⟨its, n, e⟩
  obtain ⟨oL, es, ep, h1, h2, _⟩ := F.ns
  rw [List.mem_singleton.mp hq, h1] at ho
  cases ho
  rw [h2] at e; cases e
theorem glue {g h0 h : Heap} {L : Addr} {W : List Addr} {m : Str → Option Value} (F : Fr g L h m) (kp : Kept (L :: W) h0 h) : ∃ lst, News g L h lst ∧ Gl g L W h0 h lst := by
  obtain ⟨rest, N, S, _⟩ := snap F []
  exact ⟨rest, N, fun b o e n => S b o e n (by simp), nt_frame F, kp⟩
theorem Gl.fin {g h0 hs h : Heap} {L : Addr} {W : List Addr} {m : Str → Option Value} {lst news : List (Addr × Obj)} (S : Gl g L W h0 hs lst) (F : Fr g L h m) (N : News g L h news) (hl : ∀ p ∈ lst, p ∈ news) (e : h0.get? L = none) : Kept W h0 h := fun b o q n => by
  have := S.step F N hl (Kept.refl [] h) (fun _ h => nomatch h)
  refine this b o q fun m => ?_
  rcases List.mem_cons.mp m with rfl | m
  · rw [e] at q; cases q
  · exact n m
theorem Kept.drop {h h' : Heap} {L : Addr} {W : List Addr} (k : Kept (L :: W) h h') (e : h.get? L = none) : Kept W h h' := fun b o q n => k b o q fun m => by
  rcases List.mem_cons.mp m with rfl | m
  · rw [e] at q; cases q
  · exact n m
theorem get_size (h : Heap) : h.get? h.objs.size = none := by
  cases q : h.get? h.objs.size with
  | none => rfl
  | some o => exact absurd (Heap.lt_size q) (Nat.lt_irrefl _)
theorem get_ge {h : Heap} {a : Addr} (e : h.objs.size ≤ a) : h.get? a = none := by
  cases q : h.get? a with
  | none => rfl
  | some o => exact absurd (Heap.lt_size q) (Nat.not_lt.mpr e)
open Classical in
theorem enterS {w : World} {prog : Program} {A : Around} {s : Shared} {mg mb : Str → Option Value} {R : Heap} {Q : Value → Shared → Prop} {E : Value → Shared → Prop}
    {name qual : Str} {params : Arguments} {body : List Stmt} {scope : Scope} {dV kV doc pm cdv ct oc : Value} {an od : Option Addr} {osl : Array (Option Value)} {f : Addr} {args : List Value} {kw : List (Str × Value)} {binds : List (Str × Value)}
    (C : Cx w mg mb R s.heap)
    (ho : (frag.heap_1 w.params).lookup f = some ⟨oc, od, .func (fnOf name qual params body scope dV kV doc pm an cdv ct), osl⟩) (hcd : codeIn (frag.heap_1 w.params) cdv qual = true) (hroom : A.depth < recursionLimit)
    (hbind : BindsTo s (fnOf name qual params body scope dV kV doc pm an cdv ct) ⟨args, kw⟩ binds) (hloc : ∀ y ∈ binds, scope.names.lookup y.1 = some .local)
    (W : List Addr) (h : ∀ g L h₁ lst, L = s.heap.objs.size → Gl g L W s.heap s.heap lst → (∀ b, R.get? b = none → g.get? b = none) → (frag.heap_1 w.params).In g → TopRead vw (looseW vw [Str.ofString "VOID", Str.ofString "Store"]) mg mb g → Fr g L h₁ (fun y => binds.reverse.lookup y) → News g L h₁ lst →
      wpAny (model prog w) (A.deeper (envOf qual scope L f cdv)) (execs body (envOf qual scope L f cdv)) (fun fl s' => Q (match fl with | .ret v => v | _ => .none) s') (fun _ _ => False) { s with heap := h₁, toks := s.toks + binds.length })
    (hco : scope.isCoroutine = false) (hgen : scope.isGenerator = false) (hk : scope.kind = .function)
    (hcell : ∀ x ∈ scope.names, x.2 ≠ .cell) : wpAny (model prog w) A (call (.ref f) args kw) Q E s := by
  let mt : List (Addr × Obj) := (List.range s.heap.objs.size).filterMap fun a => if R.get? a ≠ none then none else (s.heap.get? a).map fun o => (a, o)
  have M : ∀ p ∈ mt, s.heap.get? p.1 = some p.2 ∧ R.get? p.1 = none := fun p hp => by
    obtain ⟨a, _, ha⟩ := List.mem_filterMap.mp hp
    split at ha
    · cases ha
    · rename_i q
      obtain ⟨o, ho, rfl⟩ := Option.map_eq_some_iff.mp ha
      exact ⟨ho, Classical.byContradiction q⟩
  have M2 : ∀ b o, s.heap.get? b = some o → R.get? b = none → (b, o) ∈ mt := fun b o e r => List.mem_filterMap.mpr ⟨b, List.mem_range.mpr (Heap.lt_size e), by rw [if_neg (by simp [r]), e]; rfl⟩
  refine enter (mt := mt) C M ho hcd hroom hbind hloc (fun g L h₁ en X T F N => ?_) hco hgen hk hcell
  refine h g L h₁ mt en.sz ⟨fun b o e n => ?_, fun q hq o ho' => ?_, Kept.refl _ _⟩ (fun b r => ?_) X T F N
  · by_cases r : R.get? b = none
    · exact .inr (M2 b o e r)
    · refine .inl (en.up b o e fun m => r ?_)
      obtain ⟨p, hp, rfl⟩ := List.mem_map.mp m
      exact (M p hp).2
  · rw [List.mem_singleton.mp hq, en.sz, get_size] at ho'; cases ho'
  · cases q : g.get? b with
    | none => rfl
    | some o =>
      have := (N _ (M2 b o (en.dn _ _ q) r)).2.2
      rw [q] at this; cases this

/-- the end of a turn of a walk on a snapshot -/
noncomputable def GEnd (g : Heap) (L : Addr) (x : Str) (stored : List Str) (m₀ : Str → Option Value) (W : List Addr) (P : Heap → Prop) (h0 : Heap) (s s' : Shared) : Prop :=
  ∃ h' tk m' news lst hs, s' = { s with heap := h', toks := tk } ∧ Fr g L h' m' ∧ News g L h' news ∧ Gl g L W h0 hs lst ∧ (∀ p ∈ lst, p ∈ news) ∧ (∀ z, z ≠ x → stored.contains z = false → m' z = m₀ z) ∧ P hs
noncomputable def GPost (g : Heap) (L : Addr) (x : Str) (stored : List Str) (m₀ : Str → Option Value) (W : List Addr) (P : Heap → Prop) (h0 : Heap) (s : Shared) (Q : Flow → Shared → Prop) (f : Flow) (s' : Shared) : Prop :=
  match f with
  | .ret v => Q (.ret v) s'
  | .brk => Q .next s'
  | _ => GEnd g L x stored m₀ W P h0 s s'
theorem hideAll_kept (h : Heap) (W : List Addr) : Kept W h (hideAll h W) := fun _ _ e n => hideAll_get W e n
theorem nt_own {h g : Heap} {L : Addr} {own : List (Addr × Obj)} (N : News g L h own) (hc : ∀ p ∈ own, p.2.cls ≠ .type "tuple") : NT h (own.map (·.1)) := by
  intro q hq o ho _
  obtain ⟨p, hp, rfl⟩ := List.mem_map.mp hq
  rw [(N p hp).1] at ho
  cases ho
  exact hc p hp

/-- a state word that lives on the objects at `as` (and on tuples) -/
structure Word (P : Heap → Prop) (as : List Addr) : Prop where
  st : ∀ {h h' : Heap} {W : List Addr}, P h → Kept W h h' → (∀ x ∈ W, x ∉ as) → NT h W → P h'
  lv : ∀ {h : Heap}, P h → ∀ x ∈ as, ∃ o, h.get? x = some o
section
variable {prog : Program} {w : World} {A : Around} {E : Value → Shared → Prop} {s : Shared} {env : Env} {g h0 hs : Heap} {x : Str} {body : List Stmt} {Q : Flow → Shared → Prop}
theorem glue_loop {r : Addr} {b₀ : Int} {t₀ u₀ v₀ : Tok} {n : Nat} {m₀ : Str → Option Value} {news lst : List (Addr × Obj)} {W W' as : List Addr} (stored : List Str) (P : Nat → Heap → Prop)
    (hh : A.handled = none) (hr : IsRange s.heap r 0 b₀ 1 t₀ u₀ v₀) (hb : b₀ = (n : Int)) (hn : b₀ < 2 ^ 30)
    (F : Fr g env.locals s.heap m₀) (N : News g env.locals s.heap news) (S : Gl g env.locals W h0 hs lst) (hl : ∀ p ∈ lst, p ∈ news)
    (hP : P 0 hs) (hw : ∀ i, Word (P i) as) (has : ∀ a ∈ as, a ≠ env.locals ∧ g.get? a = none) (hW : ∀ a ∈ W', a ∈ as ∧ (a ∈ W ∨ h0.get? a = none))
    (turn : ∀ (i : Nat) (t : Tok) (u : Str → Option Value) (h : Heap) (tk : Nat) (lst : List (Addr × Obj)), i < n → P i h →
      Fr g env.locals h (fun y => if y = x then some (.int (i : Nat) t) else if stored.contains y then u y else m₀ y) → News g env.locals h lst → Gl g env.locals W' h h lst →
      wpAny (model prog w) A (execs body env) (GPost g env.locals x stored m₀ W' (P (i + 1)) h s Q) E { s with heap := h, toks := tk })
    (done : ∀ (u : Str → Option Value) (h : Heap) (tk : Nat) (lst : List (Addr × Obj)), P n h → Fr g env.locals h (fun y => if y = x then u y else if stored.contains y then u y else m₀ y) → News g env.locals h lst → Gl g env.locals W h0 h lst → Q .next { s with heap := h, toks := tk }) :
    wpAny (model prog w) A (pyIter (.ref r)) (fun it s₂ => LoopAtV prog w A g env x body Q E it s₂) E s := by
  have nL : ∀ a ∈ [env.locals], a ∉ as := fun a ha m => (has a m).1 (List.mem_singleton.mp ha)
  refine range_loop0 stored (fun i nx => ∃ hs, Gl g env.locals W h0 hs nx ∧ P i hs) hh hr hb hn F (fun p hp => N p (hl p hp)) ⟨hs, S, hP⟩ ?_ ?_
  · rintro i t u nx h tk own hi ⟨hs, S, hP⟩ hoff hcl F N
    have k1 := S.kept F N fun p hp => List.mem_append.mpr (.inl hp)
    have hP1 := (hw i).st hP k1 nL S.nt
    have No : News g env.locals h own := fun p hp => N p (List.mem_append.mpr (.inr hp))
    have oas : ∀ p ∈ own, p.1 ∉ as := fun p hp m => by
      obtain ⟨o, ho⟩ := (hw i).lv hP p.1 m
      exact hoff p hp _ (S.mem ho (has _ m).1 (has _ m).2) rfl
    obtain ⟨lst2, N2, S2⟩ := glue (W := W') (h0 := h) F (Kept.refl _ _)
    refine wpAny_mono (turn i t u h tk lst2 hi hP1 F N2 S2) (fun f s' p => ?_) fun _ _ e => e
    have fin : GEnd g env.locals x stored m₀ W' (P (i + 1)) h s s' → TurnEnd g env.locals x stored m₀ (fun nx => ∃ hs, Gl g env.locals W h0 hs nx ∧ P (i + 1) hs) own s s' := by
      rintro ⟨h', tk', m', news', lst', hs', e, F', N', S', hl', hm', hP'⟩
      have k2 := S'.kept F' N' hl'
      have k3 : Kept (env.locals :: W') h h' := S'.step F' N' hl' (Kept.refl [] h') (fun _ q => nomatch q)
      have own' : ∀ p ∈ own, h'.get? p.1 = some p.2 := fun p hp => k3 _ _ (No p hp).1 fun m => by
        rcases List.mem_cons.mp m with m | m
        · exact (No p hp).2.1 m
        · exact oas p hp (hW _ m).1
      have No' : News g env.locals h' own := fun p hp => ⟨own' p hp, (No p hp).2⟩
      obtain ⟨nx', Nx, Sx, hx⟩ := snap F' (own.map (·.1))
      refine ⟨h', tk', m', nx', e, F', fun p hp => (List.mem_append.mp hp).elim (Nx p) (No' p), hm', fun p hp q hq e => hx q hq (e ▸ List.mem_map_of_mem hp), hideAll h' (own.map (·.1)), ⟨fun b o e n => ?_, fun q hq o ho => ?_, fun b o e n => ?_⟩, ?_⟩
      · exact Sx b o (of_hideAll _ e) n fun m => by rw [hideAll_none _ m] at e; cases e
      · exact nt_frame F' q hq o (of_hideAll _ ho)
      · refine hideAll_get _ (k3 b o (k1 b o (S.kp b o e n) fun m => n ?_) fun m => ?_) fun m => ?_
        · rw [List.mem_singleton.mp m]; exact .head _
        · rcases List.mem_cons.mp m with m | m
          · exact n (m ▸ .head _)
          · rcases (hW b m).2 with z | z
            · exact n (.tail _ z)
            · rw [e] at z; cases z
        · obtain ⟨p, hp, rfl⟩ := List.mem_map.mp m
          have hbL : p.1 ≠ env.locals := (No p hp).2.1
          have q1 := S.kp _ _ e n
          rcases S.sn _ _ q1 hbL with z | z
          · rw [(No p hp).2.2] at z; cases z
          · exact hoff p hp _ z rfl
      · exact (hw (i + 1)).st ((hw (i + 1)).st hP' k2 nL S'.nt) (hideAll_kept h' _) (fun y hy => by obtain ⟨p, hp, rfl⟩ := List.mem_map.mp hy; exact oas p hp) (nt_own No' hcl)
    cases f with
    | ret v => exact p
    | brk => exact p
    | next => exact fin p
    | cont => exact fin p
  · rintro u nx h tk ⟨hs, S, hP⟩ F N
    have k1 := S.kept F N fun p hp => hp
    obtain ⟨lst2, N2, S2⟩ := glue F (S.step F N (fun p hp => hp) (Kept.refl [] h) (fun _ q => nomatch q))
    exact done u h tk lst2 ((hw n).st hP k1 nL S.nt) F N2 S2
theorem glue_loopT {l : Addr} {vs : List Value} {m₀ : Str → Option Value} {news lst : List (Addr × Obj)} {W W' as : List Addr} (stored : List Str) (P : Nat → Heap → Prop)
    (hh : A.handled = none) (hll : s.heap.IsTuple l vs.toArray) (hlL : l ≠ env.locals) (hx : (∃ o, g.get? l = some o) ∨ (∃ o, l ∈ as ∧ ∀ i h, P i h → h.get? l = some o))
    (F : Fr g env.locals s.heap m₀) (N : News g env.locals s.heap news) (S : Gl g env.locals W h0 hs lst) (hl : ∀ p ∈ lst, p ∈ news)
    (hP : P 0 hs) (hw : ∀ i, Word (P i) as) (has : ∀ a ∈ as, a ≠ env.locals ∧ g.get? a = none) (hW : ∀ a ∈ W', a ∈ as ∧ (a ∈ W ∨ h0.get? a = none))
    (turn : ∀ (i : Nat) (v : Value) (u : Str → Option Value) (h : Heap) (tk : Nat) (lst : List (Addr × Obj)), vs[i]? = some v → P i h →
      Fr g env.locals h (fun y => if y = x then some v else if stored.contains y then u y else m₀ y) → News g env.locals h lst → Gl g env.locals W' h h lst →
      wpAny (model prog w) A (execs body env) (GPost g env.locals x stored m₀ W' (P (i + 1)) h s Q) E { s with heap := h, toks := tk })
    (done : ∀ (u : Str → Option Value) (h : Heap) (tk : Nat) (lst : List (Addr × Obj)), P vs.length h → Fr g env.locals h (fun y => if y = x then u y else if stored.contains y then u y else m₀ y) → News g env.locals h lst → Gl g env.locals W h0 h lst → Q .next { s with heap := h, toks := tk }) :
    wpAny (model prog w) A (pyIter (.ref l)) (fun it s₂ => LoopAtV prog w A g env x body Q E it s₂) E s := by
  have nL : ∀ a ∈ [env.locals], a ∉ as := fun a ha m => (has a m).1 (List.mem_singleton.mp ha)
  refine tuple_loop stored (fun i nx => ∃ hs, Gl g env.locals W h0 hs nx ∧ P i hs) hh hll hlL (hx.imp id fun ⟨o, m, q⟩ => ⟨o, fun i nx ⟨hs, S, hP⟩ => S.mem (q i hs hP) (has _ m).1 (has _ m).2⟩) F (fun p hp => N p (hl p hp)) ⟨hs, S, hP⟩ ?_ ?_
  · rintro i v u nx h tk own hi ⟨hs, S, hP⟩ hoff hcl F N
    have k1 := S.kept F N fun p hp => List.mem_append.mpr (.inl hp)
    have hP1 := (hw i).st hP k1 nL S.nt
    have No : News g env.locals h own := fun p hp => N p (List.mem_append.mpr (.inr hp))
    have oas : ∀ p ∈ own, p.1 ∉ as := fun p hp m => by
      obtain ⟨o, ho⟩ := (hw i).lv hP p.1 m
      exact hoff p hp _ (S.mem ho (has _ m).1 (has _ m).2) rfl
    obtain ⟨lst2, N2, S2⟩ := glue (W := W') (h0 := h) F (Kept.refl _ _)
    refine wpAny_mono (turn i v u h tk lst2 hi hP1 F N2 S2) (fun f s' p => ?_) fun _ _ e => e
    have fin : GEnd g env.locals x stored m₀ W' (P (i + 1)) h s s' → TurnEnd g env.locals x stored m₀ (fun nx => ∃ hs, Gl g env.locals W h0 hs nx ∧ P (i + 1) hs) own s s' := by
      rintro ⟨h', tk', m', news', lst', hs', e, F', N', S', hl', hm', hP'⟩
      have k2 := S'.kept F' N' hl'
      have k3 : Kept (env.locals :: W') h h' := S'.step F' N' hl' (Kept.refl [] h') (fun _ q => nomatch q)
      have own' : ∀ p ∈ own, h'.get? p.1 = some p.2 := fun p hp => k3 _ _ (No p hp).1 fun m => by
        rcases List.mem_cons.mp m with m | m
        · exact (No p hp).2.1 m
        · exact oas p hp (hW _ m).1
      have No' : News g env.locals h' own := fun p hp => ⟨own' p hp, (No p hp).2⟩
      obtain ⟨nx', Nx, Sx, hx⟩ := snap F' (own.map (·.1))
      refine ⟨h', tk', m', nx', e, F', fun p hp => (List.mem_append.mp hp).elim (Nx p) (No' p), hm', fun p hp q hq e => hx q hq (e ▸ List.mem_map_of_mem hp), hideAll h' (own.map (·.1)), ⟨fun b o e n => ?_, fun q hq o ho => ?_, fun b o e n => ?_⟩, ?_⟩
      · exact Sx b o (of_hideAll _ e) n fun m => by rw [hideAll_none _ m] at e; cases e
      · exact nt_frame F' q hq o (of_hideAll _ ho)
      · refine hideAll_get _ (k3 b o (k1 b o (S.kp b o e n) fun m => n ?_) fun m => ?_) fun m => ?_
        · rw [List.mem_singleton.mp m]; exact .head _
        · rcases List.mem_cons.mp m with m | m
          · exact n (m ▸ .head _)
          · rcases (hW b m).2 with z | z
            · exact n (.tail _ z)
            · rw [e] at z; cases z
        · obtain ⟨p, hp, rfl⟩ := List.mem_map.mp m
          have hbL : p.1 ≠ env.locals := (No p hp).2.1
          have q1 := S.kp _ _ e n
          rcases S.sn _ _ q1 hbL with z | z
          · rw [(No p hp).2.2] at z; cases z
          · exact hoff p hp _ z rfl
      · exact (hw (i + 1)).st ((hw (i + 1)).st hP' k2 nL S'.nt) (hideAll_kept h' _) (fun y hy => by obtain ⟨p, hp, rfl⟩ := List.mem_map.mp hy; exact oas p hp) (nt_own No' hcl)
    cases f with
    | ret v => exact p
    | brk => exact p
    | next => exact fin p
    | cont => exact fin p
  · rintro u nx h tk ⟨hs, S, hP⟩ F N
    have k1 := S.kept F N fun p hp => hp
    obtain ⟨lst2, N2, S2⟩ := glue F (S.step F N (fun p hp => hp) (Kept.refl [] h) (fun _ q => nomatch q))
    exact done u h tk lst2 ((hw vs.length).st hP k1 nL S.nt) F N2 S2
theorem glue_loopL {l : Addr} {vs : List Value} {m₀ : Str → Option Value} {news lst : List (Addr × Obj)} {W W' as : List Addr} (stored : List Str) (P : Nat → Heap → Prop)
    (hh : A.handled = none) (hll : s.heap.IsList l vs.toArray) (hlL : l ≠ env.locals) (hx : (∃ o, g.get? l = some o) ∨ (∃ o, l ∈ as ∧ ∀ i h, P i h → h.get? l = some o))
    (F : Fr g env.locals s.heap m₀) (N : News g env.locals s.heap news) (S : Gl g env.locals W h0 hs lst) (hl : ∀ p ∈ lst, p ∈ news)
    (hP : P 0 hs) (hw : ∀ i, Word (P i) as) (has : ∀ a ∈ as, a ≠ env.locals ∧ g.get? a = none) (hW : ∀ a ∈ W', a ∈ as ∧ (a ∈ W ∨ h0.get? a = none))
    (turn : ∀ (i : Nat) (v : Value) (u : Str → Option Value) (h : Heap) (tk : Nat) (lst : List (Addr × Obj)), vs[i]? = some v → P i h →
      Fr g env.locals h (fun y => if y = x then some v else if stored.contains y then u y else m₀ y) → News g env.locals h lst → Gl g env.locals W' h h lst →
      wpAny (model prog w) A (execs body env) (GPost g env.locals x stored m₀ W' (P (i + 1)) h s Q) E { s with heap := h, toks := tk })
    (done : ∀ (u : Str → Option Value) (h : Heap) (tk : Nat) (lst : List (Addr × Obj)), P vs.length h → Fr g env.locals h (fun y => if y = x then u y else if stored.contains y then u y else m₀ y) → News g env.locals h lst → Gl g env.locals W h0 h lst → Q .next { s with heap := h, toks := tk }) :
    wpAny (model prog w) A (pyIter (.ref l)) (fun it s₂ => LoopAtV prog w A g env x body Q E it s₂) E s := by
  have nL : ∀ a ∈ [env.locals], a ∉ as := fun a ha m => (has a m).1 (List.mem_singleton.mp ha)
  refine list_loop stored (fun i nx => ∃ hs, Gl g env.locals W h0 hs nx ∧ P i hs) hh hll hlL (hx.imp id fun ⟨o, m, q⟩ => ⟨o, fun i nx ⟨hs, S, hP⟩ => S.mem (q i hs hP) (has _ m).1 (has _ m).2⟩) F (fun p hp => N p (hl p hp)) ⟨hs, S, hP⟩ ?_ ?_
  · rintro i v u nx h tk own hi ⟨hs, S, hP⟩ hoff hcl F N
    have k1 := S.kept F N fun p hp => List.mem_append.mpr (.inl hp)
    have hP1 := (hw i).st hP k1 nL S.nt
    have No : News g env.locals h own := fun p hp => N p (List.mem_append.mpr (.inr hp))
    have oas : ∀ p ∈ own, p.1 ∉ as := fun p hp m => by
      obtain ⟨o, ho⟩ := (hw i).lv hP p.1 m
      exact hoff p hp _ (S.mem ho (has _ m).1 (has _ m).2) rfl
    obtain ⟨lst2, N2, S2⟩ := glue (W := W') (h0 := h) F (Kept.refl _ _)
    refine wpAny_mono (turn i v u h tk lst2 hi hP1 F N2 S2) (fun f s' p => ?_) fun _ _ e => e
    have fin : GEnd g env.locals x stored m₀ W' (P (i + 1)) h s s' → TurnEnd g env.locals x stored m₀ (fun nx => ∃ hs, Gl g env.locals W h0 hs nx ∧ P (i + 1) hs) own s s' := by
      rintro ⟨h', tk', m', news', lst', hs', e, F', N', S', hl', hm', hP'⟩
      have k2 := S'.kept F' N' hl'
      have k3 : Kept (env.locals :: W') h h' := S'.step F' N' hl' (Kept.refl [] h') (fun _ q => nomatch q)
      have own' : ∀ p ∈ own, h'.get? p.1 = some p.2 := fun p hp => k3 _ _ (No p hp).1 fun m => by
        rcases List.mem_cons.mp m with m | m
        · exact (No p hp).2.1 m
        · exact oas p hp (hW _ m).1
      have No' : News g env.locals h' own := fun p hp => ⟨own' p hp, (No p hp).2⟩
      obtain ⟨nx', Nx, Sx, hx⟩ := snap F' (own.map (·.1))
      refine ⟨h', tk', m', nx', e, F', fun p hp => (List.mem_append.mp hp).elim (Nx p) (No' p), hm', fun p hp q hq e => hx q hq (e ▸ List.mem_map_of_mem hp), hideAll h' (own.map (·.1)), ⟨fun b o e n => ?_, fun q hq o ho => ?_, fun b o e n => ?_⟩, ?_⟩
      · exact Sx b o (of_hideAll _ e) n fun m => by rw [hideAll_none _ m] at e; cases e
      · exact nt_frame F' q hq o (of_hideAll _ ho)
      · refine hideAll_get _ (k3 b o (k1 b o (S.kp b o e n) fun m => n ?_) fun m => ?_) fun m => ?_
        · rw [List.mem_singleton.mp m]; exact .head _
        · rcases List.mem_cons.mp m with m | m
          · exact n (m ▸ .head _)
          · rcases (hW b m).2 with z | z
            · exact n (.tail _ z)
            · rw [e] at z; cases z
        · obtain ⟨p, hp, rfl⟩ := List.mem_map.mp m
          have hbL : p.1 ≠ env.locals := (No p hp).2.1
          have q1 := S.kp _ _ e n
          rcases S.sn _ _ q1 hbL with z | z
          · rw [(No p hp).2.2] at z; cases z
          · exact hoff p hp _ z rfl
      · exact (hw (i + 1)).st ((hw (i + 1)).st hP' k2 nL S'.nt) (hideAll_kept h' _) (fun y hy => by obtain ⟨p, hp, rfl⟩ := List.mem_map.mp hy; exact oas p hp) (nt_own No' hcl)
    cases f with
    | ret v => exact p
    | brk => exact p
    | next => exact fin p
    | cont => exact fin p
  · rintro u nx h tk ⟨hs, S, hP⟩ F N
    have k1 := S.kept F N fun p hp => hp
    obtain ⟨lst2, N2, S2⟩ := glue F (S.step F N (fun p hp => hp) (Kept.refl [] h) (fun _ q => nomatch q))
    exact done u h tk lst2 ((hw vs.length).st hP k1 nL S.nt) F N2 S2
end
section
structure NR (g : Heap) (a : NAd) : Prop where
  tx : g.get? a.tx = none
  an : g.get? a.an = none
  fx : g.get? a.fx = none
  fn : g.get? a.fn = none
structure LN (L : Addr) (a : NAd) : Prop where
  N : L ≠ a.N
  dN : L ≠ a.dN
  tx : L ≠ a.tx
  an : L ≠ a.an
  fx : L ≠ a.fx
  fn : L ≠ a.fn
theorem NamesS.frame {w : World} {hs h : Heap} {L : Addr} {a : NAd} {ts : List Str} {fs : List (Int × Int)} (x : NamesS w hs a ts fs) (k : Kept [L] hs h) (l : LN L a) (nt : NT hs [L]) : NamesS w h a ts fs :=
  x.kept k (by simpa using l.N.symm) (by simpa using l.dN.symm) (by simpa using l.tx.symm) (by simpa using l.an.symm) (by simpa using l.fx.symm) (by simpa using l.fn.symm) nt
theorem Kept.two {W W' : List Addr} {h₁ h₂ h₃ : Heap} (a : Kept W h₁ h₂) (b : Kept W' h₂ h₃) : Kept (W ++ W') h₁ h₃ := fun c o e n => b c o (a c o e fun m => n (List.mem_append.mpr (.inl m))) fun m => n (List.mem_append.mpr (.inr m))
theorem g_atom {w : World} {mg mb : Str → Option Value} {g h0 hs : Heap} {L : Addr} {W : List Addr} {m : Str → Option Value} {news lst : List (Addr × Obj)} {A : Around} {s : Shared} {a : NAd} {x : Str} {kx : Tok} {ts : List Str} {fs : List (Int × Int)} {Q E : Value → Shared → Prop}
    (F : Fr g L s.heap m) (N : News g L s.heap news) (X : (frag.heap_1 w.params).In g) (T : TopRead vw (looseW vw [Str.ofString "VOID", Str.ofString "Store"]) mg mb g) (S : Gl g L W h0 hs lst) (hl : ∀ p ∈ lst, p ∈ news) (hN : NamesS w hs a ts fs) (nr : NR g a) (ln : LN L a) (hz : ts.length < 1000) (hW : ∀ q ∈ [a.tx, a.an], q ∈ W ∨ h0.get? q = none) (hh : A.handled = none) (hd : A.depth ≤ 900) (hu : A.units ≤ 9000)
    (hQ : ∀ h' tk' t' lst', Fr g L h' m → News g L h' lst' → Gl g L W h0 h' lst' → NamesS w h' a (addA ts x) fs → Q (.int ((addA ts x).idxOf x) t') { s with heap := h', toks := tk' }) :
    wpAny (model PySem.Challenge.rw_ok0022_01.row.prog w) A (call (.ref 88) [.ref a.N, .str x kx]) Q E s := by
  have k1 := S.kept F N hl
  refine wp_big hh hd hu (atom_spec (R := g) ⟨X, T, F.keep⟩ (hN.frame k1 ln S.nt) nr.tx nr.an hz fun h' tk' t' kp hN' => ?_)
  have F' := fr_kept F kp (by simp [nr.tx, nr.an]) (by simp [ln.tx, ln.an])
  obtain ⟨lst', N', S'⟩ := glue F' (S.step F N hl kp hW)
  exact hQ _ _ _ _ F' N' S' hN'
theorem g_functor {w : World} {mg mb : Str → Option Value} {g h0 hs : Heap} {L : Addr} {W : List Addr} {m : Str → Option Value} {news lst : List (Addr × Obj)} {A : Around} {s : Shared} {a : NAd} {c1 c2 : Int} {k1 k2 : Tok} {ts : List Str} {fs : List (Int × Int)} {Q E : Value → Shared → Prop}
    (F : Fr g L s.heap m) (N : News g L s.heap news) (X : (frag.heap_1 w.params).In g) (T : TopRead vw (looseW vw [Str.ofString "VOID", Str.ofString "Store"]) mg mb g) (S : Gl g L W h0 hs lst) (hl : ∀ p ∈ lst, p ∈ news) (hN : NamesS w hs a ts fs) (nr : NR g a) (ln : LN L a) (hz : fs.length < 1000) (hW : ∀ q ∈ [a.fx, a.fn], q ∈ W ∨ h0.get? q = none) (hh : A.handled = none) (hd : A.depth ≤ 900) (hu : A.units ≤ 9000)
    (hQ : ∀ h' tk' t' lst', Fr g L h' m → News g L h' lst' → Gl g L W h0 h' lst' → NamesS w h' a ts (addF fs (c1, c2)) → Q (.int ((addF fs (c1, c2)).idxOf (c1, c2)) t') { s with heap := h', toks := tk' }) :
    wpAny (model PySem.Challenge.rw_ok0022_01.row.prog w) A (call (.ref 102) [.ref a.N, .int c1 k1, .int c2 k2]) Q E s := by
  have k1 := S.kept F N hl
  refine wp_big hh hd hu (functor_spec (R := g) ⟨X, T, F.keep⟩ (hN.frame k1 ln S.nt) nr.fx nr.fn hz fun h' tk' t' kp hN' => ?_)
  have F' := fr_kept F kp (by simp [nr.fx, nr.fn]) (by simp [ln.fx, ln.fn])
  obtain ⟨lst', N', S'⟩ := glue F' (S.step F N hl kp hW)
  exact hQ _ _ _ _ F' N' S' hN'
local macro_rules | `(tactic| walk_at "call ref") => `(tactic| (k_here; k_dflt (apply g_atom; kbt_sums; assumption; kbd_text; assumption; assumption; assumption; omega; kby_none; kbt_ne; k_whole); intro _ _ _ _ _ _ S' hN'; have hN1 := S'.mem hN'.i.s (Ne.symm (LN.N (by assumption))) (by assumption); have hN2 := S'.mem hN'.i.d (Ne.symm (LN.dN (by assumption))) (by assumption); k_sweep))
local macro_rules | `(tactic| walk_at "call ref") => `(tactic| (k_here; k_dflt (apply g_functor; kbt_sums; assumption; kbd_text; assumption; assumption; assumption; omega; kby_none; kbt_ne; k_whole); intro _ _ _ _ _ _ _ _; k_sweep))
theorem func_spec {w : World} {mg mb : Str → Option Value} {R : Heap} {s : Shared} {a : NAd} {x : Str} {kx : Tok} {c2 : Int} {k2 : Tok} {ts : List Str} {fs : List (Int × Int)} {Q E : Value → Shared → Prop}
    (C : Cx w mg mb R s.heap) (hN : NamesS w s.heap a ts fs) (nr : NR R a) (hi : R.get? a.N = none) (hi2 : R.get? a.dN = none) (hz1 : ts.length < 1000) (hz2 : fs.length < 1000)
    (hQ : ∀ h' tk' t', Kept [a.tx, a.an, a.fx, a.fn] s.heap h' → NamesS w h' a (addA ts x) (addF fs (((addA ts x).idxOf x : Int), c2)) → Q (.int ((addF fs (((addA ts x).idxOf x : Int), c2)).idxOf (((addA ts x).idxOf x : Int), c2)) t') { s with heap := h', toks := tk' }) :
    wpAny (model PySem.Challenge.rw_ok0022_01.row.prog w) (AA 850 8500) (call (.ref 109) [.ref a.N, .str x kx, .int c2 k2]) Q E s := by
  refine' enterS (binds := [(Str.ofString "self", .ref a.N), (Str.ofString "text", .str x kx), (Str.ofString "arity", .int c2 k2)]) C ?k6 ?k7 ?k8 ?k9 ?kB [a.tx, a.an, a.fx, a.fn] ?_ ?c2 ?c3 ?c4 ?c5
  case k6 => k_is
  case k7 => k_is
  case k8 => decide
  case k9 => exact BindsTo.of_eq rfl
  case kB => exact locs rfl
  case c2 => rfl
  case c3 => rfl
  case c4 => rfl
  case c5 => decide
  intro g L h₁ lst hL S gn X T F N
  have nr' : NR g a := ⟨gn _ nr.tx, gn _ nr.an, gn _ nr.fx, gn _ nr.fn⟩
  have gi := gn _ hi
  have gi2 := gn _ hi2
  have lt : ∀ {b : Addr} {o : Obj}, s.heap.get? b = some o → L ≠ b := fun e => hL ▸ Nat.ne_of_gt (Heap.lt_size e)
  have ln : LN L a := ⟨lt hN.i.s, lt hN.i.d, (let ⟨_, _, e, _⟩ := hN.tx; lt e), (let ⟨_, _, e, _⟩ := hN.an; lt e), (let ⟨_, _, e, _⟩ := hN.fx; lt e), (let ⟨_, _, ⟨_, _, _, e, _⟩, _⟩ := hN.fn; lt e)⟩
  have hN1 := S.mem hN.i.s ln.N.symm gi
  have hN2 := S.mem hN.i.d ln.dN.symm gi2
  (try dsimp only)
  (try k_fold)
  repeat' ((fail_if_success (with_reducible show wpAny _ _ (pyIter _) _ _ _)); first | (k_unfold; (try dsimp only)) | walk1 | (dsimp only; walk1) | fail "no step")
  all_goals (try dsimp only)
  all_goals (rename Fr _ _ _ _ => Fe)
  all_goals (rename News _ _ _ _ => Ne)
  exact hQ _ _ _ (Gl.fin (by assumption) Fe Ne (fun _ h => h) (hL ▸ get_size _)) (by assumption)
end
theorem Ent.fresh1 {h g h' : Heap} {L : Addr} {mt news : List (Addr × Obj)} {p : Addr × Obj} (e : Ent h g L mt) (N : News g L h' news) (hp : p ∈ news) (hm : p.1 ∉ mt.map (·.1)) : h.get? p.1 = none := by
  cases q : h.get? p.1 with
  | none => rfl
  | some o => have := (N p hp).2.2; rw [e.up _ _ q hm] at this; cases this
theorem store_init {w : World} {mg mb : Str → Option Value} {R : Heap} {s : Shared} {x dx N : Addr} {Rr : Result → Shared → Prop}
    (C : Cx w mg mb R s.heap) (hx : s.heap.get? x = some (instObj 374 dx)) (hd' : s.heap.get? dx = some (dictOf [] 0)) (hR1 : R.get? x = none) (hR2 : R.get? dx = none) (hlt : @LT.lt Nat _ dx x)
    (hQ : ∀ h' tk' a, a.S = x → a.dS = dx → a.N = N → Kept [x, dx] s.heap h' → StoreS w h' a [] [] → s.heap.get? a.hp = none → s.heap.get? a.sk = none → Rr (.ok (.ret .none)) { s with heap := h', toks := tk' }) :
    codeAny (model PySem.Challenge.rw_ok0022_01.row.prog w) (AA 750 7500) (.call (.ref 195) ⟨[.ref x, .ref N], []⟩) Rr s := by
  refine' enterC (mt := [(x, instObj 374 dx), (dx, dictOf [] 0)]) (binds := [(Str.ofString "self", .ref x), (Str.ofString "symbols", .ref N), (Str.ofString "max_heap", .int 100000 436)]) C (fun p q => by rcases List.mem_cons.mp q with rfl | q; exact ⟨hx, hR1⟩; rw [List.mem_singleton.mp q]; exact ⟨hd', hR2⟩) ?k6 ?k7 ?k8 ?k9 ?kB ?_ ?c2 ?c3 ?c4 ?c5
  case k6 => k_is
  case k7 => k_is
  case k8 => decide
  case k9 => exact binds_K (C.x.keeps C.k) rfl (by k_is) rfl rfl rfl
  case kB => exact locs rfl
  case c2 => rfl
  case c3 => rfl
  case c4 => rfl
  case c5 => decide
  intro g L h₁ en X T F N
  (try dsimp only)
  (try k_fold)
  repeat' ((fail_if_success (with_reducible show wpAny _ _ (pyIter _) _ _ _)); first | (k_unfold; (try dsimp only)) | walk1 | (dsimp only; walk1) | fail "no step")
  all_goals (try dsimp only)
  all_goals (rename Fr _ _ _ _ => Fe)
  all_goals (rename News _ _ _ _ => Ne)
  rename_i l3 q1 q2 q3 q4 q5 q6
  have kp := en.kept Fe
  have f1 := en.fresh1 Ne (.tail _ (.tail _ (.head _))) (by simp only [List.map_cons, List.map_nil, List.mem_cons, List.not_mem_nil, or_false, not_or]; exact ⟨Nat.ne_of_gt (by omega), Nat.ne_of_gt (by omega)⟩)
  have f2 := en.fresh1 Ne (.tail _ (.head _)) (by simp only [List.map_cons, List.map_nil, List.mem_cons, List.not_mem_nil, or_false, not_or]; exact ⟨Nat.ne_of_gt (by omega), Nat.ne_of_gt (by omega)⟩)
  exact hQ _ _ ⟨x, dx, N, _, _, _, _, _, _, _, _, _, _, _, _, _, _⟩ rfl rfl rfl kp ⟨⟨(Ne _ (.tail _ (.tail _ (.tail _ (.head _))))).1, (Ne _ (.tail _ (.tail _ (.tail _ (.tail _ (.head _)))))).1⟩, ⟨[], _, (Ne _ (.tail _ (.tail _ (.head _)))).1, rfl, fun _ _ h => by simp at h⟩, ⟨[], _, (Ne _ (.tail _ (.head _))).1, rfl, fun _ _ h => by simp at h⟩, Nat.ne_of_lt (by dsimp only; omega)⟩ f1 f2
theorem store_new {w : World} {mg mb : Str → Option Value} {R : Heap} {s : Shared} {N : Addr} {Q E : Value → Shared → Prop} (C : Cx w mg mb R s.heap)
    (hQ : ∀ h' tk' a, a.N = N → Kept [] s.heap h' → StoreS w h' a [] [] → s.heap.get? a.S = none → s.heap.get? a.dS = none → s.heap.get? a.hp = none → s.heap.get? a.sk = none → Q (.ref a.S) { s with heap := h', toks := tk' }) :
    wpAny (model PySem.Challenge.rw_ok0022_01.row.prog w) (AA 700 7000) (call (.ref 374) [.ref N]) Q E s := by
  obtain ⟨hh, gg, dd, tt, os⟩ := s
  have X := C.x.keeps C.k
  refine wpAny_call (make_core (makes_of (C := 374) X (by k_is)) (looks_findIn (r := some (.ref 195)) X (by k_is)) (fun self => bind_fn X self (by k_is)) (.inl rfl) ?_)
  have hlt : ∀ b o, R.get? b = some o → b < hh.objs.size := fun b o e => Heap.lt_size (C.k _ _ e)
  have rn : ∀ b, hh.objs.size ≤ b → R.get? b = none := fun b hb => by
    cases q : R.get? b with
    | none => rfl
    | some o => exact absurd (hlt b o q) (Nat.not_lt.mpr hb)
  have hk : ∀ b o, hh.get? b = some o → ((hh.push emptyDict).push (instObj 374 hh.objs.size)).get? b = some o := fun b o e => Heap.get?_push_of_some _ (Heap.get?_push_of_some _ e)
  refine code_big (d := 750) (u := 7500) rfl (by exact Nat.le_of_ble_eq_true rfl) (by exact Nat.le_of_ble_eq_true rfl) (store_init (R := R) (dx := hh.objs.size) ⟨C.x, C.t, fun b o e => hk b o (C.k b o e)⟩ ?_ ?_ (rn _ (Nat.le_succ _)) (rn _ (Nat.le_refl _)) (Nat.lt_succ_self _) fun h' tk' a e1 e2 e3 kp st f1 f2 => ?_)
  · have := Heap.get?_push_size (hh.push emptyDict) (o := instObj 374 hh.objs.size) rfl
    rwa [Heap.size_push] at this
  · exact Heap.get?_push_of_some _ (Heap.get?_push_size hh rfl)
  · have nx : ∀ b, ((hh.push emptyDict).push (instObj 374 hh.objs.size)).get? b = none → hh.get? b = none := fun b e => by
      cases q : hh.get? b with
      | none => rfl
      | some o => rw [hk b o q] at e; cases e
    refine ⟨rfl, e1 ▸ hQ h' tk' a e3 (fun b o e n => kp b o (hk b o e) fun m => ?_) st (e1 ▸ get_ge (Nat.le_succ _)) (e2 ▸ get_ge (Nat.le_refl _)) (nx _ f1) (nx _ f2)⟩
    have hb := Heap.lt_size e
    simp only [List.mem_cons, List.not_mem_nil, or_false] at m
    rcases m with m | m
    · exact absurd hb (by rw [m]; exact Nat.not_lt.mpr (Nat.le_succ _))
    · exact absurd hb (by rw [m]; exact Nat.lt_irrefl _)
section
/-- the store and the purse stand apart from the frame, the base and each other -/
structure AP (g : Heap) (L : Addr) (a : SAd) (pu sc : Addr) : Prop where
  lS : L ≠ a.S
  ldS : L ≠ a.dS
  lhp : L ≠ a.hp
  lsk : L ≠ a.sk
  lpu : L ≠ pu
  lsc : L ≠ sc
  gS : g.get? a.S = none
  gdS : g.get? a.dS = none
  ghp : g.get? a.hp = none
  gsk : g.get? a.sk = none
  gpu : g.get? pu = none
  pS : pu ≠ a.S
  pdS : pu ≠ a.dS
  php : pu ≠ a.hp
  psk : pu ≠ a.sk
  schp : sc ≠ a.hp
  scsk : sc ≠ a.sk
theorem StoreS.frame {w : World} {hs h : Heap} {L : Addr} {a : SAd} {cs st : List (Int × Int)} (x : StoreS w hs a cs st) (k : Kept [L] hs h) (l1 : L ≠ a.S) (l2 : L ≠ a.dS) (l3 : L ≠ a.hp) (l4 : L ≠ a.sk) (nt : NT hs [L]) : StoreS w h a cs st :=
  x.kept k (by simpa using l1.symm) (by simpa using l2.symm) (by simpa using l3.symm) (by simpa using l4.symm) nt
theorem PurseS.nt {h : Heap} {pu sc : Addr} {rem : List Int} (x : PurseS h pu sc rem) : NT h [pu] := by
  intro q hq o ho _
  obtain ⟨vs, ns, pos, kp, n, e, _⟩ := x.p
  rw [List.mem_singleton.mp hq, e] at ho
  cases ho
  exact fun e => absurd (PySem.Value.type.inj e) (by decide)
theorem g_take {w : World} {mg mb : Str → Option Value} {g h0 hs : Heap} {L : Addr} {W : List Addr} {m : Str → Option Value} {news lst : List (Addr × Obj)} {A : Around} {s : Shared} {a : SAd} {pu sc : Addr} {rem : List Int} {cs st : List (Int × Int)} {lim : Int} {kl : Tok} {Q E : Value → Shared → Prop}
    (F : Fr g L s.heap m) (N : News g L s.heap news) (X : (frag.heap_1 w.params).In g) (T : TopRead vw (looseW vw [Str.ofString "VOID", Str.ofString "Store"]) mg mb g) (S : Gl g L W h0 hs lst) (hl : ∀ p ∈ lst, p ∈ news) (hSt : StoreS w hs a cs st) (hP : PurseS hs pu sc rem) (ap : AP g L a pu sc) (hlim : 0 < lim) (hW : ∀ q ∈ [pu], q ∈ W ∨ h0.get? q = none) (hh : A.handled = none) (hd : A.depth ≤ 800) (hu : A.units ≤ 8000)
    (hQ : ∀ h' tk' t' lst', Fr g L h' m → News g L h' lst' → Gl g L W h0 h' lst' → StoreS w h' a cs st → PurseS h' pu sc rem.tail → Q (.int (takeV rem lim) t') { s with heap := h', toks := tk' }) :
    wpAny (model PySem.Challenge.rw_ok0022_01.row.prog w) A (call (.ref 404) [.ref pu, .int lim kl]) Q E s := by
  have k1 := S.kept F N hl
  have hSt1 := hSt.frame k1 ap.lS ap.ldS ap.lhp ap.lsk S.nt
  have hP1 := hP.kept k1 (by simpa using ap.lpu.symm) (by simpa using ap.lsc.symm)
  refine wp_big hh hd hu (take_spec (R := g) ⟨X, T, F.keep⟩ hP1 ap.gpu hlim fun h' tk' t' kp hP' => ?_)
  have F' := fr_kept F kp (by simp [ap.gpu]) (by simp [ap.lpu])
  obtain ⟨lst', N', S'⟩ := glue F' (S.step F N hl kp hW)
  exact hQ _ _ _ _ F' N' S' (hSt1.kept kp (by simpa using ap.pS.symm) (by simpa using ap.pdS.symm) (by simpa using ap.php.symm) (by simpa using ap.psk.symm) hP1.nt) hP'
noncomputable def simpleV (rem : List Int) (n : Int) : Int × Int := if takeV rem 3 = 1 then (4, takeV rem.tail 5) else if takeV rem 3 = 2 ∧ 0 < n then (0, takeV rem.tail n) else (5, takeV rem.tail 90)
theorem simple_2 {rem : List Int} {k n : Nat} (h1 : takeV rem 3 ≠ 1) (h2 : takeV rem 3 = 2) (h3 : 0 < (k : Int)) (e : k = n) : simpleV rem n = (0, takeV rem.tail k) := by subst e; simp [simpleV, h2]; intro h; omega
theorem simple_3 {rem : List Int} {k n : Nat} (h1 : takeV rem 3 ≠ 1) (h3 : ¬ 0 < (k : Int)) (e : k = n) : simpleV rem n = (5, takeV rem.tail 90) := by subst e; unfold simpleV; rw [if_neg h1, if_neg fun h => h3 h.2]
theorem gl_store {g h0 h : Heap} {w : World} {L : Addr} {W : List Addr} {lst : List (Addr × Obj)} {a : SAd} {cs st : List (Int × Int)} (S : Gl g L W h0 h lst) (x : StoreS w h a cs st) (l1 : L ≠ a.S) (l2 : L ≠ a.dS) (l3 : L ≠ a.hp) (g1 : g.get? a.S = none) (g2 : g.get? a.dS = none) (g3 : g.get? a.hp = none) :
    (a.S, instObj 374 a.dS) ∈ lst ∧ (a.dS, dictOf (stEs w.params a) a.n) ∈ lst ∧ ∃ vs n, (a.hp, PySem.W.listOf (List.toArray vs) n) ∈ lst ∧ CellsV h vs cs ∧ vs.length = cs.length := by
  obtain ⟨vs, n, e, c⟩ := x.hp
  exact ⟨S.mem x.i.s l1.symm g1, S.mem x.i.d l2.symm g2, vs, n, S.mem e l3.symm g3, c, c.1⟩
local macro_rules | `(tactic| walk_at "call ref") => `(tactic| (k_here; k_dflt (apply g_take; kbt_sums; assumption; kbd_text; assumption; assumption; assumption; omega; kby_none; kbt_ne; k_whole); intro _ _ _ _ _ _ S' hSt' _; have hS1 := gl_store S' hSt' (AP.lS (by assumption)) (AP.ldS (by assumption)) (AP.lhp (by assumption)) (AP.gS (by assumption)) (AP.gdS (by assumption)) (AP.ghp (by assumption)); obtain ⟨hm1, hm2, vs1, n1, hm3, hc1, hl1⟩ := hS1; k_sweep))
theorem simple_spec {w : World} {mg mb : Str → Option Value} {R : Heap} {s : Shared} {a : SAd} {pu sc : Addr} {rem : List Int} {cs st : List (Int × Int)} {Q E : Value → Shared → Prop}
    (C : Cx w mg mb R s.heap) (hSt : StoreS w s.heap a cs st) (hP : PurseS s.heap pu sc rem) (r1 : R.get? a.S = none) (r2 : R.get? a.dS = none) (r3 : R.get? a.hp = none) (r4 : R.get? a.sk = none) (r5 : R.get? pu = none)
    (pS : pu ≠ a.S) (pdS : pu ≠ a.dS) (php : pu ≠ a.hp) (psk : pu ≠ a.sk) (schp : sc ≠ a.hp) (scsk : sc ≠ a.sk) (hz : cs.length < 10000)
    (hQ : ∀ h' tk' r, Kept [pu] s.heap h' → PurseS h' pu sc rem.tail.tail → CellV h' (.ref r) (simpleV rem cs.length) → Q (.ref r) { s with heap := h', toks := tk' }) :
    wpAny (model PySem.Challenge.rw_ok0022_01.row.prog w) (AA 700 7000) (call (.ref 411) [.ref pu, .ref a.S]) Q E s := by
  refine' enterS (binds := [(Str.ofString "purse", .ref pu), (Str.ofString "store", .ref a.S)]) C ?k6 ?k7 ?k8 ?k9 ?kB [pu] ?_ ?c2 ?c3 ?c4 ?c5
  case k6 => k_is
  case k7 => k_is
  case k8 => decide
  case k9 => exact BindsTo.of_eq rfl
  case kB => exact locs rfl
  case c2 => rfl
  case c3 => rfl
  case c4 => rfl
  case c5 => decide
  intro g L h₁ lst hL S gn X T F N
  have lt : ∀ {b : Addr} {o : Obj}, s.heap.get? b = some o → L ≠ b := fun e => hL ▸ Nat.ne_of_gt (Heap.lt_size e)
  have ap : AP g L a pu sc := ⟨lt hSt.i.s, lt hSt.i.d, (let ⟨_, _, e, _⟩ := hSt.hp; lt e), (let ⟨_, _, e, _⟩ := hSt.sk; lt e), (let ⟨_, _, _, _, _, e, _⟩ := hP.p; lt e), (let ⟨_, _, _, _, _, _, ⟨_, e, _⟩, _⟩ := hP.p; lt e), gn _ r1, gn _ r2, gn _ r3, gn _ r4, gn _ r5, pS, pdS, php, psk, schp, scsk⟩
  obtain ⟨hm1, hm2, vs1, n1, hm3, hc1, hl1⟩ := gl_store S hSt ap.lS ap.ldS ap.lhp ap.gS ap.gdS ap.ghp
  (try dsimp only)
  (try k_fold)
  repeat' ((fail_if_success (with_reducible show wpAny _ _ (pyIter _) _ _ _)); first | (k_unfold; (try dsimp only)) | walk1 | (dsimp only; walk1) | fail "no step")
  all_goals (try dsimp only)
  all_goals (rename Fr _ _ _ _ => Fe)
  all_goals (rename News _ _ _ _ => Ne)
  all_goals (refine hQ _ _ _ (Gl.fin (by assumption) Fe Ne (fun _ h => .tail _ h) (hL ▸ get_size _)) (PurseS.kept (by assumption) (Gl.kept (by assumption) Fe Ne (fun _ h => .tail _ h)) (by simpa using ap.lpu.symm) (by simpa using ap.lsc.symm)) ?_)
  · rw [show simpleV rem cs.length = (4, takeV rem.tail 5) by simp [simpleV, *]]; exact ⟨_, _, _, rfl, _, (Ne _ (.head _)).1, rfl, _, rfl⟩
  · rw [simple_2 (by assumption) (by assumption) (by assumption) (by assumption)]; exact ⟨_, _, _, rfl, _, (Ne _ (.head _)).1, rfl, _, rfl⟩
  · rw [simple_3 (by assumption) (by assumption) (by assumption)]; exact ⟨_, _, _, rfl, _, (Ne _ (.head _)).1, rfl, _, rfl⟩
  · rw [show simpleV rem cs.length = (5, takeV rem.tail 90) by simp [simpleV, *]]; exact ⟨_, _, _, rfl, _, (Ne _ (.head _)).1, rfl, _, rfl⟩
end
noncomputable abbrev naddrs (a : NAd) : List Addr := [a.N, a.dN, a.tx, a.an, a.fx, a.fn]
noncomputable abbrev saddrs (a : SAd) : List Addr := [a.S, a.dS, a.hp, a.sk]
noncomputable def out' {W as : List Addr} (h : ∀ x ∈ W, x ∉ as) {x : Addr} (m : x ∈ as) : x ∉ W := fun q => h x q m
theorem names_word (w : World) (a : NAd) (ts : List Str) (fs : List (Int × Int)) : Word (fun h => NamesS w h a ts fs) (naddrs a) where
  st x k h nt := x.kept k (out' h (by simp)) (out' h (by simp)) (out' h (by simp)) (out' h (by simp)) (out' h (by simp)) (out' h (by simp)) nt
  lv x := by
    intro y hy
    simp only [List.mem_cons, List.not_mem_nil, or_false] at hy
    obtain ⟨_, _, e1, _⟩ := x.tx
    obtain ⟨_, _, e2, _⟩ := x.an
    obtain ⟨_, _, e3, _⟩ := x.fx
    obtain ⟨_, _, ⟨_, _, _, e4, _⟩, _⟩ := x.fn
    rcases hy with rfl | rfl | rfl | rfl | rfl | rfl
    · exact ⟨_, x.i.s⟩
    · exact ⟨_, x.i.d⟩
    · exact ⟨_, e1⟩
    · exact ⟨_, e2⟩
    · exact ⟨_, e3⟩
    · exact ⟨_, e4⟩
theorem store_word (w : World) (a : SAd) (cs st : List (Int × Int)) : Word (fun h => StoreS w h a cs st) (saddrs a) where
  st x k h nt := x.kept k (out' h (by simp)) (out' h (by simp)) (out' h (by simp)) (out' h (by simp)) nt
  lv x := by
    intro y hy
    simp only [List.mem_cons, List.not_mem_nil, or_false] at hy
    obtain ⟨_, _, e1, _⟩ := x.hp
    obtain ⟨_, _, e2, _⟩ := x.sk
    rcases hy with rfl | rfl | rfl | rfl
    · exact ⟨_, x.i.s⟩
    · exact ⟨_, x.i.d⟩
    · exact ⟨_, e1⟩
    · exact ⟨_, e2⟩
theorem purse_word (pu sc : Addr) (rem : List Int) : Word (fun h => PurseS h pu sc rem) [pu, sc] where
  st x k h _ := x.kept k (out' h (by simp)) (out' h (by simp))
  lv x := by
    intro y hy
    simp only [List.mem_cons, List.not_mem_nil, or_false] at hy
    obtain ⟨_, _, _, _, _, e1, ⟨_, e2, _⟩, _⟩ := x.p
    rcases hy with rfl | rfl
    · exact ⟨_, e1⟩
    · exact ⟨_, e2⟩
structure HV where
  rem : List Int
  cs : List (Int × Int)
  ts : List Str
  fs : List (Int × Int)
noncomputable abbrev addrs (nm : NAd) (a : SAd) (pu sc : Addr) : List Addr := naddrs nm ++ (saddrs a ++ [pu, sc])
structure HS (w : World) (nm : NAd) (a : SAd) (pu sc : Addr) (v : HV) (h : Heap) : Prop where
  nam : NamesS w h nm v.ts v.fs
  sto : StoreS w h a v.cs []
  pur : PurseS h pu sc v.rem
theorem hs_word (w : World) {nm : NAd} {a : SAd} {pu sc : Addr} (v : HV) : Word (HS w nm a pu sc v) (addrs nm a pu sc) where
  st x k h nt := ⟨(names_word w nm v.ts v.fs).st x.nam k (fun y hy m => h y hy (List.mem_append.mpr (.inl m))) nt, (store_word w a v.cs []).st x.sto k (fun y hy m => h y hy (List.mem_append.mpr (.inr (List.mem_append.mpr (.inl m))))) nt,
    (purse_word pu sc v.rem).st x.pur k (fun y hy m => h y hy (List.mem_append.mpr (.inr (List.mem_append.mpr (.inr m))))) nt⟩
  lv x := by
    intro y hy
    rcases List.mem_append.mp hy with hy | hy
    · exact (names_word w nm v.ts v.fs).lv x.nam y hy
    rcases List.mem_append.mp hy with hy | hy
    · exact (store_word w a v.cs []).lv x.sto y hy
    · exact (purse_word pu sc v.rem).lv x.pur y hy
structure AH (g : Heap) (L : Addr) (nm : NAd) (a : SAd) (pu sc : Addr) : Prop where
  nd : (addrs nm a pu sc).Nodup
  ok : ∀ x ∈ addrs nm a pu sc, x ≠ L ∧ g.get? x = none
section
variable {g : Heap} {L : Addr} {nm : NAd} {a : SAd} {pu sc : Addr}
theorem AH.ns (x : AH g L nm a pu sc) : ∀ p ∈ naddrs nm, ∀ q ∈ saddrs a, p ≠ q := fun p hp q hq => (List.nodup_append.mp x.nd).2.2 p hp q (List.mem_append.mpr (.inl hq))
theorem AH.np (x : AH g L nm a pu sc) : ∀ p ∈ naddrs nm, ∀ q ∈ [pu, sc], p ≠ q := fun p hp q hq => (List.nodup_append.mp x.nd).2.2 p hp q (List.mem_append.mpr (.inr hq))
theorem AH.sp (x : AH g L nm a pu sc) : ∀ p ∈ saddrs a, ∀ q ∈ [pu, sc], p ≠ q := fun p hp q hq => (List.nodup_append.mp (List.nodup_append.mp x.nd).2.1).2.2 p hp q hq
theorem AH.nr (x : AH g L nm a pu sc) : NR g nm := ⟨(x.ok _ (by simp)).2, (x.ok _ (by simp)).2, (x.ok _ (by simp)).2, (x.ok _ (by simp)).2⟩
theorem AH.ln (x : AH g L nm a pu sc) : LN L nm := ⟨(x.ok _ (by simp)).1.symm, (x.ok _ (by simp)).1.symm, (x.ok _ (by simp)).1.symm, (x.ok _ (by simp)).1.symm, (x.ok _ (by simp)).1.symm, (x.ok _ (by simp)).1.symm⟩
theorem AH.l0 (x : AH g L nm a pu sc) : ∀ q ∈ [L], q ∉ addrs nm a pu sc := fun q hq m => (x.ok q m).1 (List.mem_singleton.mp hq)
end
theorem h_take {w : World} {mg mb : Str → Option Value} {g h0 hs : Heap} {L : Addr} {W : List Addr} {m : Str → Option Value} {news lst : List (Addr × Obj)} {A : Around} {s : Shared} {nm : NAd} {a : SAd} {pu sc : Addr} {v : HV} {lim : Int} {kl : Tok} {Q E : Value → Shared → Prop}
    (F : Fr g L s.heap m) (N : News g L s.heap news) (X : (frag.heap_1 w.params).In g) (T : TopRead vw (looseW vw [Str.ofString "VOID", Str.ofString "Store"]) mg mb g) (S : Gl g L W h0 hs lst) (hl : ∀ p ∈ lst, p ∈ news) (H : HS w nm a pu sc v hs) (ah : AH g L nm a pu sc) (hlim : 0 < lim) (hW : ∀ q ∈ [pu], q ∈ W ∨ h0.get? q = none) (hh : A.handled = none) (hd : A.depth ≤ 800) (hu : A.units ≤ 8000)
    (hQ : ∀ h' tk' t' lst', Fr g L h' m → News g L h' lst' → Gl g L W h0 h' lst' → HS w nm a pu sc { v with rem := v.rem.tail } h' → Q (.int (takeV v.rem lim) t') { s with heap := h', toks := tk' }) :
    wpAny (model PySem.Challenge.rw_ok0022_01.row.prog w) A (call (.ref 404) [.ref pu, .int lim kl]) Q E s := by
  have H1 := (hs_word w v).st H (S.kept F N hl) ah.l0 S.nt
  refine wp_big hh hd hu (take_spec (R := g) ⟨X, T, F.keep⟩ H1.pur (ah.ok _ (by simp)).2 hlim fun h' tk' t' kp hP' => ?_)
  have F' := fr_kept F kp (by simpa using (ah.ok pu (by simp)).2) (by simpa using (ah.ok pu (by simp)).1.symm)
  obtain ⟨lst', N', S'⟩ := glue F' (S.step F N hl kp hW)
  exact hQ _ _ _ _ F' N' S' ⟨(names_word w nm v.ts v.fs).st H1.nam kp (fun y hy m => ah.np _ m _ (by rw [List.mem_singleton.mp hy]; simp) rfl) H1.pur.nt, (store_word w a v.cs []).st H1.sto kp (fun y hy m => ah.sp _ m _ (by rw [List.mem_singleton.mp hy]; simp) rfl) H1.pur.nt, hP'⟩
theorem h_simple {w : World} {mg mb : Str → Option Value} {g h0 hs : Heap} {L : Addr} {W : List Addr} {m : Str → Option Value} {news lst : List (Addr × Obj)} {A : Around} {s : Shared} {nm : NAd} {a : SAd} {pu sc : Addr} {v : HV} {Q E : Value → Shared → Prop}
    (F : Fr g L s.heap m) (N : News g L s.heap news) (X : (frag.heap_1 w.params).In g) (T : TopRead vw (looseW vw [Str.ofString "VOID", Str.ofString "Store"]) mg mb g) (S : Gl g L W h0 hs lst) (hl : ∀ p ∈ lst, p ∈ news) (H : HS w nm a pu sc v hs) (ah : AH g L nm a pu sc) (hz : v.cs.length < 10000) (hW : ∀ q ∈ [pu], q ∈ W ∨ h0.get? q = none) (hh : A.handled = none) (hd : A.depth ≤ 700) (hu : A.units ≤ 7000)
    (hQ : ∀ h' tk' r lst', Fr g L h' m → News g L h' lst' → Gl g L W h0 h' lst' → HS w nm a pu sc { v with rem := v.rem.tail.tail } h' → CellV h' (.ref r) (simpleV v.rem v.cs.length) → Q (.ref r) { s with heap := h', toks := tk' }) :
    wpAny (model PySem.Challenge.rw_ok0022_01.row.prog w) A (call (.ref 411) [.ref pu, .ref a.S]) Q E s := by
  have H1 := (hs_word w v).st H (S.kept F N hl) ah.l0 S.nt
  refine wp_big hh hd hu (simple_spec (R := g) ⟨X, T, F.keep⟩ H1.sto H1.pur (ah.ok _ (by simp)).2 (ah.ok _ (by simp)).2 (ah.ok _ (by simp)).2 (ah.ok _ (by simp)).2 (ah.ok _ (by simp)).2
    (ah.sp _ (by simp) _ (by simp)).symm (ah.sp _ (by simp) _ (by simp)).symm (ah.sp _ (by simp) _ (by simp)).symm (ah.sp _ (by simp) _ (by simp)).symm (ah.sp _ (by simp) _ (by simp)).symm (ah.sp _ (by simp) _ (by simp)).symm hz fun h' tk' r kp hP' hc => ?_)
  have F' := fr_kept F kp (by simpa using (ah.ok pu (by simp)).2) (by simpa using (ah.ok pu (by simp)).1.symm)
  obtain ⟨lst', N', S'⟩ := glue F' (S.step F N hl kp hW)
  exact hQ _ _ _ _ F' N' S' ⟨(names_word w nm v.ts v.fs).st H1.nam kp (fun y hy m => ah.np _ m _ (by rw [List.mem_singleton.mp hy]; simp) rfl) H1.pur.nt, (store_word w a v.cs []).st H1.sto kp (fun y hy m => ah.sp _ m _ (by rw [List.mem_singleton.mp hy]; simp) rfl) H1.pur.nt, hP'⟩ hc
theorem store_pushed {w : World} {h h' : Heap} {a : SAd} {cs st : List (Int × Int)} {c : Int × Int} {val : Value} {vs : List Value} {n : Nat} (x : StoreS w h a cs st) (kp : Kept [a.hp] h h') (hc : CellV h' val c) (hv : CellsV h vs cs) (e : h'.get? a.hp = some (PySem.W.listOf (List.toArray (vs ++ [val])) n)) : StoreS w h' a (cs ++ [c]) st := by
  obtain ⟨vs2, n2, e2, _⟩ := x.hp
  refine ⟨⟨kp _ _ x.i.s (by simpa using ne_of_objs x.i.s e2 (by simp)), kp _ _ x.i.d (by simpa using ne_of_objs x.i.d e2 (by simp))⟩, ⟨_, _, e, (hv.kept kp x.hp.nt).snoc hc⟩, x.sk.kept kp (by simpa using x.ne.symm) x.hp.nt, x.ne⟩
theorem h_push {w : World} {mg mb : Str → Option Value} {g h0 hs : Heap} {L : Addr} {W : List Addr} {m : Str → Option Value} {news lst : List (Addr × Obj)} {A : Around} {s : Shared} {nm : NAd} {a : SAd} {pu sc : Addr} {v : HV} {val : Value} {c : Int × Int} {Q E : Value → Shared → Prop}
    (F : Fr g L s.heap m) (N : News g L s.heap news) (X : (frag.heap_1 w.params).In g) (T : TopRead vw (looseW vw [Str.ofString "VOID", Str.ofString "Store"]) mg mb g) (S : Gl g L W h0 hs lst) (hl : ∀ p ∈ lst, p ∈ news) (H : HS w nm a pu sc v hs) (ah : AH g L nm a pu sc) (hc : CellV s.heap val c) (hz : v.cs.length < 10000) (hW : ∀ q ∈ [a.hp], q ∈ W ∨ h0.get? q = none) (hh : A.handled = none) (hd : A.depth ≤ 800) (hu : A.units ≤ 8000)
    (hQ : ∀ h' tk' t' lst', Fr g L h' m → News g L h' lst' → Gl g L W h0 h' lst' → HS w nm a pu sc { v with cs := v.cs ++ [c] } h' → Q (.int v.cs.length t') { s with heap := h', toks := tk' }) :
    wpAny (model PySem.Challenge.rw_ok0022_01.row.prog w) A (call (.ref 202) [.ref a.S, val]) Q E s := by
  have H1 := (hs_word w v).st H (S.kept F N hl) ah.l0 S.nt
  obtain ⟨vs, n, e, hv⟩ := H1.sto.hp
  refine wp_big hh hd hu (push_spec (R := g) ⟨X, T, F.keep⟩ H1.sto.i e (ah.ok _ (by simp)).2 (by rw [hv.1]; exact hz) fun h' tk' t' kp e' => ?_)
  have F' := fr_kept F kp (by simpa using (ah.ok a.hp (by simp)).2) (by simpa using (ah.ok a.hp (by simp)).1.symm)
  obtain ⟨lst', N', S'⟩ := glue F' (S.step F N hl kp hW)
  have q := hQ _ tk' t' _ F' N' S' ⟨(names_word w nm v.ts v.fs).st H1.nam kp (fun y hy m => ah.ns _ m _ (by rw [List.mem_singleton.mp hy]; simp) rfl) H1.sto.hp.nt, store_pushed H1.sto kp (hc.kept kp H1.sto.hp.nt) hv e', (purse_word pu sc v.rem).st H1.pur kp (fun y hy m => ah.sp _ (by rw [List.mem_singleton.mp hy]; simp) _ m rfl) H1.sto.hp.nt⟩
  rw [← hv.1] at q; exact q
theorem h_new_var {w : World} {mg mb : Str → Option Value} {g h0 hs : Heap} {L : Addr} {W : List Addr} {m : Str → Option Value} {news lst : List (Addr × Obj)} {A : Around} {s : Shared} {nm : NAd} {a : SAd} {pu sc : Addr} {v : HV} {Q E : Value → Shared → Prop}
    (F : Fr g L s.heap m) (N : News g L s.heap news) (X : (frag.heap_1 w.params).In g) (T : TopRead vw (looseW vw [Str.ofString "VOID", Str.ofString "Store"]) mg mb g) (S : Gl g L W h0 hs lst) (hl : ∀ p ∈ lst, p ∈ news) (H : HS w nm a pu sc v hs) (ah : AH g L nm a pu sc) (hz : v.cs.length < 10000) (hW : ∀ q ∈ [a.hp], q ∈ W ∨ h0.get? q = none) (hh : A.handled = none) (hd : A.depth ≤ 700) (hu : A.units ≤ 7000)
    (hQ : ∀ h' tk' r lst', Fr g L h' m → News g L h' lst' → Gl g L W h0 h' lst' → HS w nm a pu sc { v with cs := v.cs ++ [(0, (v.cs.length : Int))] } h' → Q (.ref r) { s with heap := h', toks := tk' }) :
    wpAny (model PySem.Challenge.rw_ok0022_01.row.prog w) A (call (.ref 209) [.ref a.S]) Q E s := by
  have H1 := (hs_word w v).st H (S.kept F N hl) ah.l0 S.nt
  obtain ⟨vs, n, e, hv⟩ := H1.sto.hp
  refine wp_big hh hd hu (new_var_spec (R := g) ⟨X, T, F.keep⟩ H1.sto.i e (ah.ok _ (by simp)).2 (by rw [hv.1]; exact hz) fun h' tk' r k1 k2 kp e' ht => ?_)
  have F' := fr_kept F kp (by simpa using (ah.ok a.hp (by simp)).2) (by simpa using (ah.ok a.hp (by simp)).1.symm)
  obtain ⟨lst', N', S'⟩ := glue F' (S.step F N hl kp hW)
  rw [hv.1] at ht
  exact hQ _ tk' r _ F' N' S' ⟨(names_word w nm v.ts v.fs).st H1.nam kp (fun y hy m => ah.ns _ m _ (by rw [List.mem_singleton.mp hy]; simp) rfl) H1.sto.hp.nt, store_pushed H1.sto kp ⟨r, k1, k2, rfl, ht⟩ hv e', (purse_word pu sc v.rem).st H1.pur kp (fun y hy m => ah.sp _ (by rw [List.mem_singleton.mp hy]; simp) _ m rfl) H1.sto.hp.nt⟩
theorem NamesS.nt {w : World} {h : Heap} {a : NAd} {ts : List Str} {fs : List (Int × Int)} (x : NamesS w h a ts fs) : NT h [a.tx, a.an, a.fx, a.fn] := by
  intro q hq
  simp only [List.mem_cons, List.not_mem_nil, or_false] at hq
  rcases hq with rfl | rfl | rfl | rfl
  · exact x.tx_an _ (by simp)
  · exact x.tx_an _ (by simp)
  · exact x.fx_fn _ (by simp)
  · exact x.fx_fn _ (by simp)
noncomputable def fkey (ts : List Str) (x : Str) (k : Int) : Int × Int := (((addA ts x).idxOf x : Int), k)
theorem h_func {w : World} {mg mb : Str → Option Value} {g h0 hs : Heap} {L : Addr} {W : List Addr} {m : Str → Option Value} {news lst : List (Addr × Obj)} {A : Around} {s : Shared} {nm : NAd} {a : SAd} {pu sc : Addr} {v : HV} {x : Str} {kx : Tok} {c2 : Int} {k2 : Tok} {Q E : Value → Shared → Prop}
    (F : Fr g L s.heap m) (N : News g L s.heap news) (X : (frag.heap_1 w.params).In g) (T : TopRead vw (looseW vw [Str.ofString "VOID", Str.ofString "Store"]) mg mb g) (S : Gl g L W h0 hs lst) (hl : ∀ p ∈ lst, p ∈ news) (H : HS w nm a pu sc v hs) (ah : AH g L nm a pu sc) (hz1 : v.ts.length < 1000) (hz2 : v.fs.length < 1000) (hW : ∀ q ∈ [nm.tx, nm.an, nm.fx, nm.fn], q ∈ W ∨ h0.get? q = none) (hh : A.handled = none) (hd : A.depth ≤ 850) (hu : A.units ≤ 8500)
    (hQ : ∀ h' tk' t' lst', Fr g L h' m → News g L h' lst' → Gl g L W h0 h' lst' → HS w nm a pu sc { v with ts := addA v.ts x, fs := addF v.fs (fkey v.ts x c2) } h' → Q (.int ((addF v.fs (fkey v.ts x c2)).idxOf (fkey v.ts x c2)) t') { s with heap := h', toks := tk' }) :
    wpAny (model PySem.Challenge.rw_ok0022_01.row.prog w) A (call (.ref 109) [.ref nm.N, .str x kx, .int c2 k2]) Q E s := by
  have H1 := (hs_word w v).st H (S.kept F N hl) ah.l0 S.nt
  refine wp_big hh hd hu (func_spec (R := g) ⟨X, T, F.keep⟩ H1.nam ah.nr (ah.ok _ (by simp)).2 (ah.ok _ (by simp)).2 hz1 hz2 fun h' tk' t' kp hN' => ?_)
  have F' := fr_kept F kp (by simp [ah.nr.tx, ah.nr.an, ah.nr.fx, ah.nr.fn]) (by simp [ah.ln.tx, ah.ln.an, ah.ln.fx, ah.ln.fn])
  obtain ⟨lst', N', S'⟩ := glue F' (S.step F N hl kp hW)
  have sub : ∀ y ∈ [nm.tx, nm.an, nm.fx, nm.fn], y ∈ naddrs nm := fun y hy => by simp at hy ⊢; rcases hy with h | h | h | h <;> simp [h]
  exact hQ _ _ _ _ F' N' S' ⟨hN', (store_word w a v.cs []).st H1.sto kp (fun y hy m => ah.ns _ (sub y hy) _ m rfl) H1.nam.nt, (purse_word pu sc v.rem).st H1.pur kp (fun y hy m => ah.np _ (sub y hy) _ m rfl) H1.nam.nt⟩
section
theorem hs_mem {w : World} {g h0 h : Heap} {L : Addr} {W : List Addr} {lst : List (Addr × Obj)} {nm : NAd} {a : SAd} {pu sc : Addr} {v : HV} (S : Gl g L W h0 h lst) (H : HS w nm a pu sc v h) (ah : AH g L nm a pu sc) :
    (a.S, instObj 374 a.dS) ∈ lst ∧ (a.dS, dictOf (stEs w.params a) a.n) ∈ lst ∧ (nm.N, instObj 154 nm.dN) ∈ lst ∧ (nm.dN, dictOf (nmEs w.params nm) nm.n) ∈ lst :=
  ⟨S.mem H.sto.i.s (ah.ok _ (by simp)).1 (ah.ok _ (by simp)).2, S.mem H.sto.i.d (ah.ok _ (by simp)).1 (ah.ok _ (by simp)).2, S.mem H.nam.i.s (ah.ok _ (by simp)).1 (ah.ok _ (by simp)).2, S.mem H.nam.i.d (ah.ok _ (by simp)).1 (ah.ok _ (by simp)).2⟩
theorem h_push2 {w : World} {mg mb : Str → Option Value} {g h0 hs : Heap} {L : Addr} {W : List Addr} {m : Str → Option Value} {news lst : List (Addr × Obj)} {A : Around} {s : Shared} {nm : NAd} {a : SAd} {pu sc : Addr} {v : HV} {D : Addr} {x y : Int} {k1 k2 : Tok} {n : Nat} {Q E : Value → Shared → Prop}
    (F : Fr g L s.heap m) (N : News g L s.heap news) (X : (frag.heap_1 w.params).In g) (T : TopRead vw (looseW vw [Str.ofString "VOID", Str.ofString "Store"]) mg mb g) (S : Gl g L W h0 hs lst) (hl : ∀ p ∈ lst, p ∈ news) (H : HS w nm a pu sc v hs) (ah : AH g L nm a pu sc) (hD : (D, pairObj (.int x k1) (.int y k2) n) ∈ news) (hz : v.cs.length < 10000) (hW : ∀ q ∈ [a.hp], q ∈ W ∨ h0.get? q = none) (hh : A.handled = none) (hd : A.depth ≤ 800) (hu : A.units ≤ 8000)
    (hQ : ∀ h' tk' t' lst', Fr g L h' m → News g L h' lst' → Gl g L W h0 h' lst' → HS w nm a pu sc { v with cs := v.cs ++ [(x, y)] } h' → Q (.int v.cs.length t') { s with heap := h', toks := tk' }) :
    wpAny (model PySem.Challenge.rw_ok0022_01.row.prog w) A (call (.ref 202) [.ref a.S, .ref D]) Q E s :=
  h_push F N X T S hl H ah ⟨D, k1, k2, rfl, _, N.get hD, rfl, n, rfl⟩ hz hW hh hd hu hQ
theorem h_store_new {w : World} {mg mb : Str → Option Value} {g h0 hs : Heap} {L : Addr} {W : List Addr} {m : Str → Option Value} {news lst : List (Addr × Obj)} {A : Around} {s : Shared} {nm : NAd} {pu sc : Addr} {rem : List Int} {ts : List Str} {fs : List (Int × Int)} {Q E : Value → Shared → Prop}
    (F : Fr g L s.heap m) (N : News g L s.heap news) (X : (frag.heap_1 w.params).In g) (T : TopRead vw (looseW vw [Str.ofString "VOID", Str.ofString "Store"]) mg mb g) (S : Gl g L W h0 hs lst) (hl : ∀ p ∈ lst, p ∈ news) (hN : NamesS w hs nm ts fs) (hP : PurseS hs pu sc rem) (nd : (naddrs nm ++ [pu, sc]).Nodup) (ok : ∀ x ∈ naddrs nm ++ [pu, sc], x ≠ L ∧ g.get? x = none) (hW : ∀ q ∈ W, q ∈ naddrs nm ++ [pu, sc]) (hh : A.handled = none) (hd : A.depth ≤ 700) (hu : A.units ≤ 7000)
    (hQ : ∀ h' tk' a lst', Fr g L h' m → News g L h' lst' → Gl g L W h0 h' lst' → a.N = nm.N → HS w nm a pu sc ⟨rem, [], ts, fs⟩ h' → AH g L nm a pu sc → (∀ x ∈ saddrs a, h0.get? x = none) → Q (.ref a.S) { s with heap := h', toks := tk' }) :
    wpAny (model PySem.Challenge.rw_ok0022_01.row.prog w) A (call (.ref 374) [.ref nm.N]) Q E s := by
  have k1 := S.kept F N hl
  have hN1 := (names_word w nm ts fs).st hN k1 (fun q hq m => (ok q (List.mem_append.mpr (.inl m))).1 (List.mem_singleton.mp hq)) S.nt
  have hP1 := (purse_word pu sc rem).st hP k1 (fun q hq m => (ok q (List.mem_append.mpr (.inr m))).1 (List.mem_singleton.mp hq)) S.nt
  have live : ∀ x ∈ naddrs nm ++ [pu, sc], ∃ o, s.heap.get? x = some o := fun x hx => (List.mem_append.mp hx).elim ((names_word w nm ts fs).lv hN1 x) ((purse_word pu sc rem).lv hP1 x)
  obtain ⟨oL, _, _, hoL, _⟩ := F.ns
  refine wp_big hh hd hu (store_new (R := g) ⟨X, T, F.keep⟩ fun h' tk' a e kp st f1 f2 f3 f4 => ?_)
  have F' := fr_kept F kp (fun _ h => nomatch h) (fun h => nomatch h)
  obtain ⟨lst', N', S'⟩ := glue F' (S.step F N hl kp (fun _ h => nomatch h))
  have fr : ∀ x ∈ saddrs a, s.heap.get? x = none := fun x hx => by
    simp only [List.mem_cons, List.not_mem_nil, or_false] at hx
    rcases hx with rfl | rfl | rfl | rfl <;> assumption
  have off : ∀ x ∈ saddrs a, ∀ y, (∃ o, s.heap.get? y = some o) → x ≠ y := fun x hx y ⟨o, ho⟩ e => by rw [← e, fr x hx] at ho; cases ho
  refine hQ _ _ _ _ F' N' S' e ⟨(names_word w nm ts fs).st hN1 kp (fun _ h => nomatch h) (fun _ h => nomatch h), st, (purse_word pu sc rem).st hP1 kp (fun _ h => nomatch h) (fun _ h => nomatch h)⟩ ⟨?_, fun x hx => ?_⟩ fun x hx => ?_
  · obtain ⟨n1, n2, n3⟩ := List.nodup_append.mp nd
    refine List.nodup_append.mpr ⟨n1, List.nodup_append.mpr ⟨?_, n2, fun x hx y hy => off x hx y (live y (List.mem_append.mpr (.inr hy)))⟩, fun x hx y hy => ?_⟩
    · obtain ⟨vs, n, e1, _⟩ := st.hp
      obtain ⟨vs2, n2', e2, _⟩ := st.sk
      have a1 := ne_of_objs st.i.s st.i.d (by simp)
      have a2 := ne_of_objs st.i.s e1 (by simp)
      have a3 := ne_of_objs st.i.s e2 (by simp)
      have a4 := ne_of_objs st.i.d e1 (by simp)
      have a5 := ne_of_objs st.i.d e2 (by simp)
      simp [a1, a2, a3, a4, a5, st.ne]
    · rcases List.mem_append.mp hy with hy | hy
      · exact (off y hy x (live x (List.mem_append.mpr (.inl hx)))).symm
      · exact n3 x hx y hy
  · rcases List.mem_append.mp hx with hx | hx
    · exact ok x (List.mem_append.mpr (.inl hx))
    rcases List.mem_append.mp hx with hx | hx
    · exact ⟨off x hx L ⟨oL, hoL⟩, none_of_up F (fr x hx)⟩
    · exact ok x (List.mem_append.mpr (.inr hx))
  · cases q : h0.get? x with
    | none => rfl
    | some o =>
      have := S.step F N hl (Kept.refl [] s.heap) (fun _ h => nomatch h) x o q fun m => by
        rcases List.mem_cons.mp m with m | m
        · exact off x hx L ⟨oL, hoL⟩ m
        · exact off x hx x (live x (hW x m)) rfl
      rw [fr x hx] at this; cases this
noncomputable def newV (v : HV) : HV := { v with cs := v.cs ++ [(0, (v.cs.length : Int))] }
noncomputable def pushV (v : HV) : HV := { v with rem := v.rem.tail.tail, cs := v.cs ++ [simpleV v.rem v.cs.length] }
noncomputable def pushesV : Nat → HV → HV
  | 0, v => v
  | n + 1, v => pushV (pushesV n v)
noncomputable def cellW (v : HV) (c : Int × Int) : HV := { v with cs := v.cs ++ [c] }
noncomputable def takeW (v : HV) : HV := { v with rem := v.rem.tail }
noncomputable def funcW (v : HV) (k : Int) : HV := { v with ts := addA v.ts (Str.ofString "f"), fs := addF v.fs (fkey v.ts (Str.ofString "f") k) }
noncomputable def funNo (v : HV) (k : Int) : Int := ((addF v.fs (fkey v.ts (Str.ofString "f") k)).idxOf (fkey v.ts (Str.ofString "f") k) : Int)
noncomputable def lapV (v : HV) : HV :=
  let way := takeV v.rem 5
  let v1 := takeW v
  if way = 0 then newV v1
  else if way < 3 then pushV v1
  else if way = 3 then
    let v2 := pushV (pushV v1)
    cellW v2 (3, (v1.cs.length : Int))
  else
    let wide := 1 + takeV v1.rem 2
    let v2 := funcW (takeW v1) wide
    let v3 := cellW v2 (6, funNo (takeW v1) wide)
    let v4 := pushesV wide.toNat v3
    cellW v4 (2, (v2.cs.length : Int))
noncomputable def lapsV : Nat → HV → HV
  | 0, v => v
  | n + 1, v => lapV (lapsV n v)
noncomputable def startV (rem : List Int) (ts : List Str) (fs : List (Int × Int)) : HV := takeW (newV ⟨rem, [], ts, fs⟩)
noncomputable def heapV (rem : List Int) (ts : List Str) (fs : List (Int × Int)) : HV := lapsV (takeV rem 12).toNat (startV rem ts fs)
theorem takeV_range (rem : List Int) {lim : Int} (h : 0 < lim) : 0 ≤ takeV rem lim ∧ takeV rem lim < lim := by
  unfold takeV
  split
  · exact ⟨Int.le_refl _, h⟩
  · exact ⟨Int.emod_nonneg _ (Int.ne_of_gt h), Int.emod_lt_of_pos _ h⟩
theorem pushes_len (n : Nat) (v : HV) : (pushesV n v).cs.length = v.cs.length + n ∧ (pushesV n v).ts = v.ts ∧ (pushesV n v).fs = v.fs := by
  induction n with
  | zero => exact ⟨rfl, rfl, rfl⟩
  | succ n ih => exact ⟨by rw [pushesV, pushV]; simp [ih.1]; omega, ih.2.1, ih.2.2⟩
theorem addA_len (ts : List Str) (x : Str) : (addA ts x).length ≤ ts.length + 1 := by unfold addA; split <;> simp
theorem addF_len (ts : List (Int × Int)) (x : Int × Int) : (addF ts x).length ≤ ts.length + 1 := by unfold addF; split <;> simp
theorem lap_len (v : HV) : (lapV v).cs.length ≤ v.cs.length + 4 ∧ (lapV v).ts.length ≤ v.ts.length + 1 ∧ (lapV v).fs.length ≤ v.fs.length + 1 := by
  have h2 := takeV_range v.rem.tail (lim := 2) (by decide)
  unfold lapV
  dsimp only
  split
  · simp [newV, takeW]
  split
  · simp [pushV, takeW]
  split
  · simp [pushV, takeW, cellW]
  · have hp := pushes_len (1 + takeV (takeW v).rem 2).toNat (cellW (funcW (takeW (takeW v)) (1 + takeV (takeW v).rem 2)) (6, funNo (takeW (takeW v)) (1 + takeV (takeW v).rem 2)))
    have hw : (1 + takeV (takeW v).rem 2).toNat ≤ 2 := by have : takeV (takeW v).rem 2 = takeV v.rem.tail 2 := rfl; omega
    refine ⟨?_, ?_, ?_⟩
    · show (List.length ((pushesV _ _).cs ++ [_])) ≤ _
      rw [List.length_append, hp.1]
      simp [cellW, funcW, takeW]
      have : (takeW v).rem = v.rem.tail := rfl
      omega
    · show (pushesV _ _).ts.length ≤ _
      rw [hp.2.1]
      exact addA_len _ _
    · show (pushesV _ _).fs.length ≤ _
      rw [hp.2.2]
      exact addF_len _ _
theorem laps_len (i : Nat) (v : HV) : (lapsV i v).cs.length ≤ v.cs.length + 4 * i ∧ (lapsV i v).ts.length ≤ v.ts.length + i ∧ (lapsV i v).fs.length ≤ v.fs.length + i := by
  induction i with
  | zero => exact ⟨Nat.le_refl _, Nat.le_refl _, Nat.le_refl _⟩
  | succ i ih =>
    have := lap_len (lapsV i v)
    rw [lapsV]
    omega
theorem gend {g h0 hs h' : Heap} {L : Addr} {x : Str} {stored : List Str} {m₀ m' : Str → Option Value} {W : List Addr} {P : Heap → Prop} {s : Shared} {Q : Flow → Shared → Prop} {tk : Nat} {news lst : List (Addr × Obj)}
    (F : Fr g L h' m') (N : News g L h' news) (S : Gl g L W h0 hs lst) (hl : ∀ p ∈ lst, p ∈ news) (hm : ∀ z, z ≠ x → stored.contains z = false → m' z = m₀ z) (hP : P hs) : GPost g L x stored m₀ W P h0 s Q .next { s with heap := h', toks := tk } :=
  ⟨h', tk, m', news, lst, hs, rfl, F, N, S, hl, hm, hP⟩
theorem HS.ex {w : World} {nm : NAd} {a : SAd} {pu sc : Addr} {v : HV} {h : Heap} (H : HS w nm a pu sc v h) : ∃ v', v' = v ∧ HS w nm a pu sc v' h := ⟨v, rfl, H⟩
theorem hs_len {w : World} {nm : NAd} {a : SAd} {pu sc : Addr} {v : HV} {h : Heap} {j : Nat} (_H : HS w nm a pu sc (pushesV j v) h) : (pushesV j v).cs.length = v.cs.length + j := (pushes_len j v).1
theorem HS.to {w : World} {nm : NAd} {a : SAd} {pu sc : Addr} {v : HV} {v' : HV} {h : Heap} (H : HS w nm a pu sc v h) (e : v' = v) : HS w nm a pu sc v' h := e ▸ H
local macro_rules | `(tactic| walk_at "call ref") => `(tactic| (k_here; k_dflt (apply h_store_new; kbt_sums; assumption; kbd_text; assumption; assumption; assumption; assumption; simp; kbt_ne; k_whole); intro _ _ _ _ _ _ S' _ H' _ _; obtain ⟨hm2, hm3, hm4, hm5⟩ := hs_mem S' H' (by assumption); k_sweep))
local macro_rules | `(tactic| walk_at "call ref") => `(tactic| (k_here; k_dflt (apply h_take; kbt_sums; assumption; kbd_text; assumption; assumption; decide; kby_none; kbt_ne; k_whole); intro _ _ _ _ _ _ S' H'; obtain ⟨hm2, hm3, hm4, hm5⟩ := hs_mem S' H' (by assumption); k_sweep))
local macro_rules | `(tactic| walk_at "call ref") => `(tactic| (k_here; k_dflt (apply h_new_var; kbt_sums; assumption; kbd_text; assumption; assumption; kfm_hd; kby_none; kbt_ne; k_whole); intro _ _ _ _ _ _ S' H'; obtain ⟨hm2, hm3, hm4, hm5⟩ := hs_mem S' H' (by assumption); k_sweep))
local macro_rules | `(tactic| walk_at "call ref") => `(tactic| (k_here; k_dflt (apply h_simple; kbt_sums; assumption; kbd_text; assumption; assumption; kfm_hd; kby_none; kbt_ne; k_whole); intro _ _ _ _ _ _ S' H' _; obtain ⟨hm2, hm3, hm4, hm5⟩ := hs_mem S' H' (by assumption); k_sweep))
local macro_rules | `(tactic| walk_at "call ref") => `(tactic| (k_here; k_dflt (refine' h_push ?F ?N ?X ?T ?S ?l ?st ?ah ?c ?z ?w ?h1 ?h2 ?h3 ?_; (case F | N | X | T => k_asm); (case S => assumption); (case l => kbd_text); (case st | ah | c => assumption); (case z => kfm_hd); (case w => kby_none); (case h1 => rfl); (case h2 | h3 => kbt_words); k_whole); intro _ _ _ _ _ _ S' H'; obtain ⟨hm2, hm3, hm4, hm5⟩ := hs_mem S' H' (by assumption); k_sweep))
local macro_rules | `(tactic| walk_at "call ref") => `(tactic| (k_here; k_dflt (refine' h_push2 ?F ?N ?X ?T ?S ?l ?st ?ah ?c ?z ?w ?h1 ?h2 ?h3 ?_; (case F | N | X | T => k_asm); (case S => assumption); (case l => kbd_text); (case st | ah => assumption); (case c => k_mem); (case z => kfm_hd); (case w => kby_none); (case h1 => rfl); (case h2 | h3 => kbt_words); k_whole); intro _ _ _ _ _ _ S' H'; obtain ⟨hm2, hm3, hm4, hm5⟩ := hs_mem S' H' (by assumption); k_sweep))
local macro_rules | `(tactic| walk_at "call ref") => `(tactic| (k_here; k_dflt (apply h_func; kbt_sums; assumption; kbd_text; assumption; assumption; kfm_hd; kfm_hd; kby_none; kbt_ne; k_whole); intro _ _ _ _ _ _ S' H'; obtain ⟨hm2, hm3, hm4, hm5⟩ := hs_mem S' H' (by assumption); k_sweep))
theorem heap_spec {w : World} {mg mb : Str → Option Value} {R : Heap} {s : Shared} {nm : NAd} {pu sc : Addr} {rem : List Int} {ts : List Str} {fs : List (Int × Int)} {Q E : Value → Shared → Prop}
    (C : Cx w mg mb R s.heap) (hN : NamesS w s.heap nm ts fs) (hP : PurseS s.heap pu sc rem) (nd : (naddrs nm ++ [pu, sc]).Nodup) (r0 : ∀ x ∈ naddrs nm ++ [pu, sc], R.get? x = none) (hz1 : ts.length < 500) (hz2 : fs.length < 500)
    (hQ : ∀ h' tk' a, Kept [nm.tx, nm.an, nm.fx, nm.fn, pu] s.heap h' → a.N = nm.N → NamesS w h' nm (heapV rem ts fs).ts (heapV rem ts fs).fs → StoreS w h' a (heapV rem ts fs).cs [] → (∀ x ∈ saddrs a, s.heap.get? x = none) → Q (.ref a.S) { s with heap := h', toks := tk' }) :
    wpAny (model PySem.Challenge.rw_ok0022_01.row.prog w) (AA 600 6000) (call (.ref 418) [.ref pu, .ref nm.N]) Q E s := by
  refine' enterS (binds := [(Str.ofString "purse", .ref pu), (Str.ofString "names", .ref nm.N)]) C ?k6 ?k7 ?k8 ?k9 ?kB [nm.tx, nm.an, nm.fx, nm.fn, pu] ?_ ?c2 ?c3 ?c4 ?c5
  case k6 => k_is
  case k7 => k_is
  case k8 => decide
  case k9 => exact BindsTo.of_eq rfl
  case kB => exact locs rfl
  case c2 => rfl
  case c3 => rfl
  case c4 => rfl
  case c5 => decide
  intro g L h₁ lst hL S gn X T F N
  have lt : ∀ {b : Addr} {o : Obj}, s.heap.get? b = some o → b ≠ L := fun e => hL ▸ Nat.ne_of_lt (Heap.lt_size e)
  have ok : ∀ x ∈ naddrs nm ++ [pu, sc], x ≠ L ∧ g.get? x = none := fun x hx => ⟨by
    obtain ⟨o, ho⟩ := (List.mem_append.mp hx).elim ((names_word w nm ts fs).lv hN x) ((purse_word pu sc rem).lv hP x)
    exact lt ho, gn x (r0 x hx)⟩
  (try dsimp only)
  (try k_fold)
  repeat' ((fail_if_success (with_reducible show wpAny _ _ (pyIter _) _ _ _)); first | (k_unfold; (try dsimp only)) | walk1 | (dsimp only; walk1) | fail "no step")
  have hr12 := takeV_range rem (lim := 12) (by decide)
  refine' glue_loop (n := (takeV rem 12).toNat) (W' := [nm.tx, nm.an, nm.fx, nm.fn, pu, SAd.hp ?aa]) (as := addrs nm ?aa pu sc) [Str.ofString "way", Str.ofString "head", Str.ofString "wide", Str.ofString "place", Str.ofString "step"] (fun i h => HS w nm ?aa pu sc (lapsV i (startV rem ts fs)) h) ?hh ?hr ?hb ?hn ?F ?N ?S ?hl ?hP ?hw ?has ?hW ?turn ?done
  case aa => assumption
  case hh => rfl
  case hr => assumption
  case hb => omega
  case hn => omega
  case F => assumption
  case N => assumption
  case S => assumption
  case hl => exact fun _ h => h
  case hP => assumption
  case hw => exact fun i => hs_word w _
  case has => exact fun x hx => AH.ok (by assumption) x hx
  case hW => (intro x hx; simp only [List.mem_cons, List.not_mem_nil, or_false] at hx; rcases hx with rfl | rfl | rfl | rfl | rfl | rfl <;> (refine ⟨by simp, ?_⟩) <;> first | (left; simp; done) | (right; rename ∀ x ∈ saddrs _, _ => hf; exact hf _ (by simp)))
  case turn =>
    intro i t u h tk lst hi H F N S
    replace F : Fr g L h _ := F
    replace N : News g L h _ := N
    replace S : Gl g L _ _ _ _ := S
    have hb := laps_len i (startV rem ts fs)
    have hb1 : (startV rem ts fs).cs.length = 1 := rfl
    have hb2 : (startV rem ts fs).ts = ts := rfl
    have hb3 : (startV rem ts fs).fs = fs := rfl
    rw [hb1, hb2, hb3] at hb
    have hlt : i < 12 := by omega
    have hm1 := hs_mem S H (by assumption)
    obtain ⟨hm2, hm3, hm4, hm5⟩ := hm1
    (try dsimp only)
    (try k_fold)
    repeat' ((fail_if_success (with_reducible show wpAny _ _ (pyIter _) _ _ _)); first | (k_unfold; (try dsimp only)) | walk1 | (dsimp only; walk1) | fail "no step")
    · exact gend (by assumption) (by assumption) (by assumption) (fun _ h => h) (by intro z h1 h2; simp only [List.contains_cons, List.contains_nil, Bool.or_false, Bool.or_eq_false_iff, beq_eq_false_iff_ne, ne_eq] at h2; simp [h1, h2]) (HS.to (by assumption) (by simp [lapsV, lapV, takeW, newV, *]))
    · exact gend (by assumption) (by assumption) (by assumption) (fun _ h => h) (by intro z h1 h2; simp only [List.contains_cons, List.contains_nil, Bool.or_false, Bool.or_eq_false_iff, beq_eq_false_iff_ne, ne_eq] at h2; simp [h1, h2]) (HS.to (by assumption) (by simp [lapsV, lapV, takeW, pushV, *]))
    · exact gend (by assumption) (by assumption) (by assumption) (fun _ h => h) (by intro z h1 h2; simp only [List.contains_cons, List.contains_nil, Bool.or_false, Bool.or_eq_false_iff, beq_eq_false_iff_ne, ne_eq] at h2; simp [h1, h2]) (HS.to (by assumption) (by simp [lapsV, lapV, takeW, pushV, cellW, *]))
    have hr2 := takeV_range (lapsV i (startV rem ts fs)).rem.tail (lim := 2) (by decide)
    have Hx := HS.ex (w := w) (nm := nm) (pu := pu) (sc := sc) (by assumption)
    obtain ⟨vv, hvv, Hvv⟩ := Hx
    have hl3 : vv.cs.length = (lapsV i (startV rem ts fs)).cs.length + 1 := by rw [hvv]; simp
    refine' glue_loop (n := (1 + takeV (lapsV i (startV rem ts fs)).rem.tail 2).toNat) (W' := [nm.tx, nm.an, nm.fx, nm.fn, pu, SAd.hp ?bb]) (as := addrs nm ?bb pu sc) [] (fun j h => HS w nm ?bb pu sc (pushesV j vv) h) ?hh9 ?hr9 ?hb9 ?hn9 ?F9 ?N9 ?S9 ?hl9 ?hP9 ?hw9 ?has9 ?hW9 ?turn9 ?done9
    case bb => assumption
    case hh9 => rfl
    case hr9 => assumption
    case hb9 => omega
    case hn9 => omega
    case F9 => assumption
    case N9 => assumption
    case S9 => assumption
    case hl9 => exact fun _ h => h
    case hP9 => exact Hvv
    case hw9 => exact fun i => hs_word w _
    case has9 => exact fun x hx => AH.ok (by assumption) x hx
    case hW9 => (intro x hx; simp only [List.mem_cons, List.not_mem_nil, or_false] at hx; rcases hx with rfl | rfl | rfl | rfl | rfl | rfl <;> (refine ⟨by simp, ?_⟩) <;> (left; simp; done))
    case turn9 =>
      intro j t2 u2 h2 tk2 lst2 hj H2 F N S
      replace F : Fr g L h2 _ := F
      replace N : News g L h2 _ := N
      replace S : Gl g L _ _ _ _ := S
      have hp := hs_len H2
      have hm1 := hs_mem S H2 (by assumption)
      obtain ⟨hm2, hm3, hm4, hm5⟩ := hm1
      (try dsimp only)
      (try k_fold)
      repeat' ((fail_if_success (with_reducible show wpAny _ _ (pyIter _) _ _ _)); first | (k_unfold; (try dsimp only)) | walk1 | (dsimp only; walk1) | fail "no step")
      exact gend (by assumption) (by assumption) (by assumption) (fun _ h => h) (by intro z h1 h2; simp only [List.contains_cons, List.contains_nil, Bool.or_false, Bool.or_eq_false_iff, beq_eq_false_iff_ne, ne_eq] at h2; simp [h1, h2]) (HS.to (by assumption) rfl)
    case done9 =>
      intro u2 h2 tk2 lst2 H2 F N S
      replace F : Fr g L h2 _ := F
      replace N : News g L h2 _ := N
      replace S : Gl g L _ _ _ _ := S
      have hp := hs_len H2
      have hm1 := hs_mem S H2 (by assumption)
      obtain ⟨hm2, hm3, hm4, hm5⟩ := hm1
      (try dsimp only)
      (try k_fold)
      repeat' ((fail_if_success (with_reducible show wpAny _ _ (pyIter _) _ _ _)); first | (k_unfold; (try dsimp only)) | walk1 | (dsimp only; walk1) | fail "no step")
      exact gend (by assumption) (by assumption) (by assumption) (fun _ h => h) (by intro z h1 h2; simp only [List.contains_cons, List.contains_nil, Bool.or_false, Bool.or_eq_false_iff, beq_eq_false_iff_ne, ne_eq] at h2; simp [h1, h2]) (HS.to (by assumption) (by subst hvv; show lapV _ = _; unfold lapV; dsimp only; rw [if_neg (by assumption), if_neg (by assumption), if_neg (by assumption)]; rfl))
  case done =>
    intro u h tk lst H F N S
    replace F : Fr g L h _ := F
    replace N : News g L h _ := N
    replace S : Gl g L _ _ _ _ := S
    (try dsimp only)
    (try k_fold)
    repeat' ((fail_if_success (with_reducible show wpAny _ _ (pyIter _) _ _ _)); first | (k_unfold; (try dsimp only)) | walk1 | (dsimp only; walk1) | fail "no step")
    (try dsimp only)
    exact hQ _ _ _ (S.fin F N (fun _ h => h) (hL ▸ get_size _)) (by assumption) H.nam H.sto (by assumption)
end
section
noncomputable def atoms0 : List Str := [Str.ofString "[]", Str.ofString ".", Str.ofString "{}", Str.ofString "-", Str.ofString "+", Str.ofString "*", Str.ofString "/", Str.ofString ",", Str.ofString "|", Str.ofString ";", Str.ofString "->", Str.ofString "\\+", Str.ofString ":-", Str.ofString "?-", Str.ofString "-->", Str.ofString "!", Str.ofString "true", Str.ofString "fail", Str.ofString "false", Str.ofString "call", Str.ofString "=", Str.ofString "^", Str.ofString "error", Str.ofString "", Str.ofString "end_of_file", Str.ofString "system", Str.ofString "$VAR", Str.ofString "catch", Str.ofString "throw"]
noncomputable def rows0 : List (Str × Int) := [(Str.ofString ".", 2), (Str.ofString ",", 2), (Str.ofString ";", 2), (Str.ofString "->", 2), (Str.ofString "\\+", 1), (Str.ofString ":-", 2), (Str.ofString ":-", 1), (Str.ofString "?-", 1), (Str.ofString "-->", 2), (Str.ofString "{}", 1), (Str.ofString "=", 2), (Str.ofString "^", 2), (Str.ofString "-", 1), (Str.ofString "-", 2), (Str.ofString "+", 2), (Str.ofString "/", 2), (Str.ofString "error", 2), (Str.ofString "$VAR", 1), (Str.ofString "catch", 3), (Str.ofString "throw", 1), (Str.ofString "!", 0), (Str.ofString "true", 0), (Str.ofString "fail", 0), (Str.ofString "false", 0), (Str.ofString "call", 1), (Str.ofString "call", 2), (Str.ofString "call", 3), (Str.ofString "call", 4), (Str.ofString "call", 5), (Str.ofString "call", 6), (Str.ofString "call", 7), (Str.ofString "call", 8)]
noncomputable def StrsV : List Value → List Str → Prop
  | [], [] => True
  | v :: vs, x :: xs => (∃ k, v = .str x k) ∧ StrsV vs xs
  | _, _ => False
noncomputable def RowsV (h : Heap) : List Value → List (Str × Int) → Prop
  | [], [] => True
  | v :: vs, x :: xs => (∃ r k1 k2, v = .ref r ∧ IsTup h r #[.str x.1 k1, .int x.2 k2]) ∧ RowsV h vs xs
  | _, _ => False
noncomputable abbrev tupOf (vs : List Value) (n : Nat) : Obj := { cls := .type "tuple", data := .seq (List.toArray vs) n }
theorem fixed_atoms_spec {w : World} {mg mb : Str → Option Value} {R : Heap} {s : Shared} {Q E : Value → Shared → Prop} (C : Cx w mg mb R s.heap)
    (hQ : ∀ h' tk' t vs n, Kept [] s.heap h' → h'.get? t = some (tupOf vs n) → StrsV vs atoms0 → s.heap.get? t = none → Q (.ref t) { s with heap := h', toks := tk' }) :
    wpAny (model PySem.Challenge.rw_ok0022_01.row.prog w) (AA 900 9000) (call (.ref 60) []) Q E s := by
  refine' enter (mt := []) (binds := []) C (fun _ h => nomatch h) ?k6 ?k7 ?k8 ?k9 ?kB ?_ ?c2 ?c3 ?c4 ?c5
  case k6 => k_is
  case k7 => k_is
  case k8 => decide
  case k9 => exact BindsTo.of_eq rfl
  case kB => exact locs rfl
  case c2 => rfl
  case c3 => rfl
  case c4 => rfl
  case c5 => decide
  intro g L h₁ en X T F N
  (try dsimp only)
  (try k_fold)
  repeat' ((fail_if_success (with_reducible show wpAny _ _ (pyIter _) _ _ _)); first | (k_unfold; (try dsimp only)) | walk1 | (dsimp only; walk1) | fail "no step")
  all_goals (try dsimp only)
  all_goals (rename Fr _ _ _ _ => Fe)
  all_goals (rename News _ _ _ _ => Ne)
  refine hQ _ _ _ _ _ (en.kept0 Fe) (Ne _ (.head _)).1 ?_ (en.fresh Ne _ (.head _)).2
  repeat' (first | exact trivial | refine ⟨⟨_, rfl⟩, ?_⟩)
theorem rows_cons {h g : Heap} {L r : Addr} {news : List (Addr × Obj)} {x : Str} {y : Int} {k1 k2 : Tok} {n : Nat} {vs : List Value} {xs : List (Str × Int)} (N : News g L h news) (m : (r, tupOf [.str x k1, .int y k2] n) ∈ news) (t : RowsV h vs xs) : RowsV h (.ref r :: vs) ((x, y) :: xs) :=
  ⟨⟨r, k1, k2, rfl, _, (N _ m).1, rfl, n, rfl⟩, t⟩
theorem fixed_functors_spec {w : World} {mg mb : Str → Option Value} {R : Heap} {s : Shared} {Q E : Value → Shared → Prop} (C : Cx w mg mb R s.heap)
    (hQ : ∀ h' tk' t vs n, Kept [] s.heap h' → h'.get? t = some (tupOf vs n) → RowsV h' vs rows0 → s.heap.get? t = none → Q (.ref t) { s with heap := h', toks := tk' }) :
    wpAny (model PySem.Challenge.rw_ok0022_01.row.prog w) (AA 900 9000) (call (.ref 67) []) Q E s := by
  refine' enter (mt := []) (binds := []) C (fun _ h => nomatch h) ?k6 ?k7 ?k8 ?k9 ?kB ?_ ?c2 ?c3 ?c4 ?c5
  case k6 => k_is
  case k7 => k_is
  case k8 => decide
  case k9 => exact BindsTo.of_eq rfl
  case kB => exact locs rfl
  case c2 => rfl
  case c3 => rfl
  case c4 => rfl
  case c5 => decide
  intro g L h₁ en X T F N
  (try dsimp only)
  (try k_fold)
  repeat' ((fail_if_success (with_reducible show wpAny _ _ (pyIter _) _ _ _)); first | (k_unfold; (try dsimp only)) | walk1 | (dsimp only; walk1) | fail "no step")
  all_goals (try dsimp only)
  all_goals (rename Fr _ _ _ _ => Fe)
  all_goals (rename News _ _ _ _ => Ne)
  refine hQ _ _ _ _ _ (en.kept0 Fe) (Ne _ (.head _)).1 ?_ (en.fresh Ne _ (.head _)).2
  repeat' (first | exact trivial | refine rows_cons Ne (by k_mem) ?_)
theorem use_fixed_atoms {w : World} {mg mb : Str → Option Value} {g : Heap} {L : Addr} {m : Str → Option Value} {news : List (Addr × Obj)} {A : Around} {s : Shared} {Q E : Value → Shared → Prop} (F : Fr g L s.heap m) (N : News g L s.heap news) (X : (frag.heap_1 w.params).In g) (T : TopRead vw (looseW vw [Str.ofString "VOID", Str.ofString "Store"]) mg mb g) (hh : A.handled = none) (hd : A.depth ≤ 900) (hu : A.units ≤ 9000)
    (hQ : ∀ h' tk' t vs n, Fr g L h' m → News g L h' ((t, tupOf vs n) :: news) → StrsV vs atoms0 → Q (.ref t) { s with heap := h', toks := tk' }) :
    wpAny (model PySem.Challenge.rw_ok0022_01.row.prog w) A (call (.ref 60) []) Q E s :=
  wp_big hh hd hu (fixed_atoms_spec (R := g) ⟨X, T, F.keep⟩ fun h' tk' t vs n kp e st f => hQ h' tk' t vs n (F.keeps kp.all) (news_add (lg := [(t, tupOf vs n)]) F N kp fun p hp => by rw [List.mem_singleton.mp hp]; exact ⟨e, f⟩) st)
theorem RowsV.kept {h h' : Heap} {W : List Addr} (k : Kept W h h') (nt : NT h W) : ∀ {vs : List Value} {xs : List (Str × Int)}, RowsV h vs xs → RowsV h' vs xs
  | [], [], _ => trivial
  | _ :: _, _ :: _, ⟨⟨r, k1, k2, e, t⟩, x⟩ => ⟨⟨r, k1, k2, e, isTup_kept k nt t⟩, RowsV.kept k nt x⟩
theorem StrsV.at : ∀ {vs : List Value} {xs : List Str} {i : Nat} {v : Value}, StrsV vs xs → vs[i]? = some v → ∃ x k, xs[i]? = some x ∧ v = .str x k
  | _ :: _, _ :: _, 0, _, ⟨⟨k, e⟩, _⟩, h => ⟨_, k, rfl, by simp at h; exact h ▸ e⟩
  | _ :: _, _ :: _, i + 1, _, ⟨_, x⟩, h => StrsV.at (i := i) x (by simpa using h)
theorem RowsV.at {hp : Heap} : ∀ {vs : List Value} {xs : List (Str × Int)} {i : Nat} {v : Value}, RowsV hp vs xs → vs[i]? = some v → ∃ x r k1 k2, xs[i]? = some x ∧ v = .ref r ∧ IsTup hp r (List.toArray [.str x.1 k1, .int x.2 k2])
  | _ :: _, _ :: _, 0, _, ⟨⟨r, k1, k2, e, t⟩, _⟩, h => ⟨_, r, k1, k2, rfl, by simp at h; exact h ▸ e, t⟩
  | _ :: _, _ :: _, i + 1, _, ⟨_, x⟩, h => RowsV.at (i := i) x (by simpa using h)
theorem StrsV.len : ∀ {vs : List Value} {xs : List Str}, StrsV vs xs → vs.length = xs.length
  | [], [], _ => rfl
  | _ :: _, _ :: _, ⟨_, x⟩ => by simp [StrsV.len x]
theorem RowsV.len {h : Heap} : ∀ {vs : List Value} {xs : List (Str × Int)}, RowsV h vs xs → vs.length = xs.length
  | [], [], _ => rfl
  | _ :: _, _ :: _, ⟨_, x⟩ => by simp [RowsV.len x]
theorem empty_fun {w : World} {h : Heap} {d : Addr} {o : Obj} (ho : h.get? d = some o) (lo : (d == sysModules) = false) (hi : o.IsDictOf (intKind PySem.Challenge.rw_ok0022_01.row.prog w) []) : FunTab w h d [] := by
  obtain ⟨es, ep, hc, hdt, _, hp, _⟩ := hi
  have : es.toList = [] := by
    cases q : es.toList with
    | nil => rfl
    | cons a b => rw [q] at hp; cases hp
  exact ⟨lo, [], ⟨o, es, ep, ho, hc, hdt, this, fun _ h => (List.not_mem_nil h).elim, List.nodup_nil⟩, .nil⟩
theorem names_start {w : World} {h g : Heap} {L tx an fx fn x dx : Addr} {o1 o2 : Obj} {n1 n2 n : Nat} {t1 t2 t3 t4 : Tok} {news : List (Addr × Obj)}
    (N : News g L h news) (m1 : (fn, o2) ∈ news) (m2 : (fx, PySem.W.listOf #[] n2) ∈ news) (m3 : (an, o1) ∈ news) (m4 : (tx, PySem.W.listOf #[] n1) ∈ news) (m5 : (x, instObj 154 dx) ∈ news) (m6 : (dx, dictOf (nmEs w.params ⟨x, dx, tx, an, fx, fn, n, t1, t2, t3, t4⟩) n) ∈ news)
    (lo1 : (an == sysModules) = false) (lo2 : (fn == sysModules) = false) (h1 : o1.IsDictOf (strKind PySem.Challenge.rw_ok0022_01.row.prog w) []) (h2 : o2.IsDictOf (intKind PySem.Challenge.rw_ok0022_01.row.prog w) [])
    (r1 : @LT.lt Nat _ dx x) (r2 : @LT.lt Nat _ x tx) (r3 : @LT.lt Nat _ tx an) (r4 : @LT.lt Nat _ an fx) (r5 : @LT.lt Nat _ fx fn) : NamesS w h ⟨x, dx, tx, an, fx, fn, n, t1, t2, t3, t4⟩ [] [] where
  i := ⟨(N _ m5).1, (N _ m6).1⟩
  tx := ⟨[], _, (N _ m4).1, rfl⟩
  an := ⟨_, [], (N _ m3).1, h1, .nil⟩
  fx := ⟨[], _, (N _ m2).1, rfl, fun _ _ h => by simp at h⟩
  fn := empty_fun (N _ m1).1 lo2 h2
  lo := lo1
  n1 := Nat.ne_of_lt (by dsimp only; omega)
  n2 := Nat.ne_of_lt (by dsimp only; omega)
  n3 := Nat.ne_of_lt (by dsimp only; omega)
  n4 := Nat.ne_of_lt (by dsimp only; omega)
  n5 := Nat.ne_of_lt (by dsimp only; omega)
  n6 := Nat.ne_of_lt (by dsimp only; omega)
  ni := by
    simp only [List.mem_cons, List.not_mem_nil, or_false, not_or]
    exact ⟨⟨Nat.ne_of_lt (by omega), Nat.ne_of_lt (by omega), Nat.ne_of_lt (by omega), Nat.ne_of_lt (by omega)⟩, ⟨Nat.ne_of_lt (by omega), Nat.ne_of_lt (by omega), Nat.ne_of_lt (by omega), Nat.ne_of_lt (by omega)⟩⟩
noncomputable def addsA (xs : List Str) : List Str := xs.foldl addA []
theorem addsA_snoc (xs : List Str) (x : Str) : addsA (xs ++ [x]) = addA (addsA xs) x := by simp [addsA]
theorem addsA_len (xs : List Str) : (addsA xs).length ≤ xs.length := by
  suffices h : ∀ (xs acc : List Str), (xs.foldl addA acc).length ≤ acc.length + xs.length by simpa [addsA] using h xs []
  intro xs
  induction xs with
  | nil => intro acc; simp
  | cons x xs ih => intro acc; have := ih (addA acc x); have := addA_len acc x; simp only [List.foldl_cons, List.length_cons]; omega
noncomputable abbrev TF := List Str × List (Int × Int)
noncomputable def addR (a : TF) (r : Str × Int) : TF := (addA a.1 r.1, addF a.2 (fkey a.1 r.1 r.2))
noncomputable def addsR (rs : List (Str × Int)) : TF := rs.foldl addR (addsA atoms0, [])
theorem addsR_snoc (xs : List (Str × Int)) (x : Str × Int) : addsR (xs ++ [x]) = addR (addsR xs) x := by simp [addsR]
theorem addsR_len (xs : List (Str × Int)) : (addsR xs).1.length ≤ 29 + xs.length ∧ (addsR xs).2.length ≤ xs.length := by
  suffices h : ∀ (xs : List (Str × Int)) (acc : TF), (xs.foldl addR acc).1.length ≤ acc.1.length + xs.length ∧ (xs.foldl addR acc).2.length ≤ acc.2.length + xs.length by
    have := h xs (addsA atoms0, [])
    have l := addsA_len atoms0
    have l2 : atoms0.length = 29 := rfl
    simp only [List.length_nil] at this
    unfold addsR
    omega
  intro xs
  induction xs with
  | nil => intro acc; simp
  | cons x xs ih =>
    intro acc
    have := ih (addR acc x)
    have h1 : (addR acc x).1.length ≤ acc.1.length + 1 := addA_len _ _
    have h2 : (addR acc x).2.length ≤ acc.2.length + 1 := addF_len _ _
    simp only [List.foldl_cons, List.length_cons]; omega
theorem take_snoc {α : Type} {xs : List α} {i : Nat} {x : α} (h : xs[i]? = some x) : xs.take (i + 1) = xs.take i ++ [x] := by rw [List.take_add_one, h]; rfl
noncomputable def PA (w : World) (nm : NAd) (t : Addr) (vs : List Value) (n : Nat) (i : Nat) (h : Heap) : Prop := NamesS w h nm (addsA (atoms0.take i)) [] ∧ h.get? t = some (tupOf vs n)
noncomputable def PR (w : World) (nm : NAd) (t : Addr) (vs : List Value) (n : Nat) (i : Nat) (h : Heap) : Prop := NamesS w h nm (addsR (rows0.take i)).1 (addsR (rows0.take i)).2 ∧ h.get? t = some (tupOf vs n) ∧ RowsV h vs rows0
theorem PA.word {w : World} {nm : NAd} {t : Addr} {vs : List Value} {n : Nat} (i : Nat) : Word (PA w nm t vs n i) (t :: naddrs nm) where
  st x k h nt := ⟨(names_word w nm _ _).st x.1 k (fun y hy m => h y hy (.tail _ m)) nt, k _ _ x.2 fun m => h _ m (.head _)⟩
  lv x y hy := by
    rcases List.mem_cons.mp hy with rfl | hy
    · exact ⟨_, x.2⟩
    · exact (names_word w nm _ _).lv x.1 y hy
theorem PR.word {w : World} {nm : NAd} {t : Addr} {vs : List Value} {n : Nat} (i : Nat) : Word (PR w nm t vs n i) (t :: naddrs nm) where
  st x k h nt := ⟨(names_word w nm _ _).st x.1 k (fun y hy m => h y hy (.tail _ m)) nt, k _ _ x.2.1 (fun m => h _ m (.head _)), x.2.2.kept k nt⟩
  lv x y hy := by
    rcases List.mem_cons.mp hy with rfl | hy
    · exact ⟨_, x.2.1⟩
    · exact (names_word w nm _ _).lv x.1 y hy
theorem item_gl {w : World} {g h0 hs : Heap} {L : Addr} {W : List Addr} {m : Str → Option Value} {news lst : List (Addr × Obj)} {A : Around} {s : Shared} {value slice : PySem.Expr} {t : Addr} {k : Int} {u : Tok} {j : Nat} {items : List Value} {v : Value} {Q E : Value → Shared → Prop} (F : Fr g L s.heap m) (N : News g L s.heap news) (S : Gl g L W h0 hs lst) (hl : ∀ p ∈ lst, p ∈ news)
    (ht : IsTup hs t items.toArray) (hlo : -(2 ^ 63) ≤ k) (hhi : k < 2 ^ 63) (hj : seqIndex? k items.length = some j) (hx : items[j]? = some v) (h : Q v s)
    (hs' : subscripted slice false (.ref t) (.int k u) = operate [.ref t, .int k u] (getItem (.ref t) (.int k u)) := by with_unfolding_all rfl) :
    wpAny (model PySem.Challenge.rw_ok0022_01.row.prog w) A (subscriptTail value slice (.ref t) (.int k u)) Q E s :=
  item_tupleT (isTup_kept (S.kept F N hl) S.nt ht) hlo hhi (by simpa using hj) (by simpa using hx) h hs'
theorem g_rows {w : World} {mg mb : Str → Option Value} {g h0 hs : Heap} {L : Addr} {W : List Addr} {m : Str → Option Value} {news lst : List (Addr × Obj)} {A : Around} {s : Shared} {nm : NAd} {ts : List Str} {fs : List (Int × Int)} {Q E : Value → Shared → Prop}
    (F : Fr g L s.heap m) (N : News g L s.heap news) (X : (frag.heap_1 w.params).In g) (T : TopRead vw (looseW vw [Str.ofString "VOID", Str.ofString "Store"]) mg mb g) (S : Gl g L W h0 hs lst) (hl : ∀ p ∈ lst, p ∈ news) (hN : NamesS w hs nm ts fs) (ln : LN L nm) (hh : A.handled = none) (hd : A.depth ≤ 900) (hu : A.units ≤ 9000)
    (hQ : ∀ h' tk' t vs n lst', Fr g L h' m → News g L h' lst' → Gl g L W h0 h' lst' → NamesS w h' nm ts fs → t ≠ L → (∀ b o, s.heap.get? b = some o → b ≠ t) → g.get? t = none → h'.get? t = some (tupOf vs n) → RowsV h' vs rows0 → Q (.ref t) { s with heap := h', toks := tk' }) :
    wpAny (model PySem.Challenge.rw_ok0022_01.row.prog w) A (call (.ref 67) []) Q E s := by
  have hN1 := hN.frame (S.kept F N hl) ln S.nt
  refine wp_big hh hd hu (fixed_functors_spec (R := g) ⟨X, T, F.keep⟩ fun h' tk' t vs n kp e st f => ?_)
  have F' := fr_kept F kp (fun _ h => nomatch h) (fun h => nomatch h)
  obtain ⟨lst', N', S'⟩ := glue F' (S.step F N hl kp (fun _ h => nomatch h))
  obtain ⟨oL, _, _, hoL, _⟩ := F.ns
  exact hQ _ _ _ _ _ _ F' N' S' ((names_word w nm ts fs).st hN1 kp (fun _ h => nomatch h) (fun _ h => nomatch h)) (fun q => by rw [q, hoL] at f; cases f) (fun b o q z => by rw [z, f] at q; cases q) (none_of_up F f) e st
theorem nt_cons {h : Heap} {L : Addr} {W : List Addr} (a : NT h [L]) (b : NT h W) : NT h (L :: W) := fun q hq => (List.mem_cons.mp hq).elim (fun e => a q (by simp [e])) (b q)
theorem tup_kept {h h' : Heap} {W : List Addr} {t : Addr} {vs : List Value} {n : Nat} (nt : NT h W) (k : Kept W h h') (e : h.get? t = some (tupOf vs n)) : h'.get? t = some (tupOf vs n) := k _ _ e fun m => nt t m _ e ⟨_, _, rfl⟩ rfl
theorem g_func {w : World} {mg mb : Str → Option Value} {g h0 hs : Heap} {L : Addr} {W : List Addr} {m : Str → Option Value} {news lst : List (Addr × Obj)} {A : Around} {s : Shared} {nm : NAd} {x : Str} {kx : Tok} {c2 : Int} {k2 : Tok} {ts : List Str} {fs : List (Int × Int)} {Q E : Value → Shared → Prop}
    (F : Fr g L s.heap m) (N : News g L s.heap news) (X : (frag.heap_1 w.params).In g) (T : TopRead vw (looseW vw [Str.ofString "VOID", Str.ofString "Store"]) mg mb g) (S : Gl g L W h0 hs lst) (hl : ∀ p ∈ lst, p ∈ news) (hN : NamesS w hs nm ts fs) (nr : NR g nm) (ln : LN L nm) (hi : g.get? nm.N = none) (hi2 : g.get? nm.dN = none) (hz1 : ts.length < 1000) (hz2 : fs.length < 1000) (hW : ∀ q ∈ [nm.tx, nm.an, nm.fx, nm.fn], q ∈ W ∨ h0.get? q = none) (hd : A.depth ≤ 850) (hu : A.units ≤ 8500) (hh : A.handled = none)
    (hQ : ∀ h' tk' t' lst', Fr g L h' m → News g L h' lst' → Gl g L W h0 h' lst' → NamesS w h' nm (addR (ts, fs) (x, c2)).1 (addR (ts, fs) (x, c2)).2 → Q (.int ((addF fs (fkey ts x c2)).idxOf (fkey ts x c2)) t') { s with heap := h', toks := tk' }) :
    wpAny (model PySem.Challenge.rw_ok0022_01.row.prog w) A (call (.ref 109) [.ref nm.N, .str x kx, .int c2 k2]) Q E s := by
  refine wp_big hh hd hu (func_spec (R := g) ⟨X, T, F.keep⟩ (hN.frame (S.kept F N hl) ln S.nt) nr hi hi2 hz1 hz2 fun h' tk' t' kp hN' => ?_)
  have F' := fr_kept F kp (by simp [nr.tx, nr.an, nr.fx, nr.fn]) (by simp [ln.tx, ln.an, ln.fx, ln.fn])
  obtain ⟨lst', N', S'⟩ := glue F' (S.step F N hl kp hW)
  exact hQ _ _ _ _ F' N' S' hN'
local macro_rules | `(tactic| walk_at "call ref") => `(tactic| (k_here; k_dflt (apply use_fixed_atoms; kbt_sums; kbt_ne; k_whole); intro _ _ _ _ _ _ _ _; k_sweep))
local macro_rules | `(tactic| walk_at "call ref") => `(tactic| (k_here; k_dflt (apply g_atom; kbt_sums; assumption; kbd_text; assumption; assumption; assumption; omega; kby_none; kbt_ne; k_whole); intro _ _ _ _ _ _ _ _; k_sweep))
local macro_rules | `(tactic| walk_at "call ref") => `(tactic| (k_here; k_dflt (refine' g_func ?F ?N ?X ?T ?S ?l ?n ?r ?ln ?i1 ?i2 ?z1 ?z2 ?w ?h2 ?h3 ?h1 ?_; (case F | N | X | T => k_asm); (case S => assumption); (case l => kbd_text); (case n | r | ln | i1 | i2 => assumption); (case z1 | z2 => omega); (case w => kby_none); (case h1 => rfl); (case h2 | h3 => kbt_words); k_whole); intro _ _ _ _ _ _ _ _; k_sweep))
local macro_rules | `(tactic| walk_at "call ref") => `(tactic| (k_here; k_dflt (apply g_rows; kbt_sums; assumption; kbd_text; assumption; assumption; kbt_ne; k_whole); intro _ _ _ _ _ _ _ _ _ _ _ _ _ _ _; k_sweep))
local macro_rules | `(tactic| walk_at "subscriptTail") => `(tactic| (k_here; (with_reducible show wpAny _ _ (subscriptTail _ _ (Value.ref _) (Value.int _ _)) _ _ _); k_dflt (refine' item_gl ?F ?N ?S ?l ?t ?a ?b ?j ?x ?_; (case F | N => k_asm); (case S => assumption); (case l => kbd_text); (case t => assumption); (case a | b => decide); (case j | x => rfl); k_whole)))
theorem sym_init {w : World} {mg mb : Str → Option Value} {R : Heap} {s : Shared} {x dx : Addr} {Rr : Result → Shared → Prop}
    (C : Cx w mg mb R s.heap) (hx : s.heap.get? x = some (instObj 154 dx)) (hd' : s.heap.get? dx = some (dictOf [] 0)) (hR1 : R.get? x = none) (hR2 : R.get? dx = none) (hlt : @LT.lt Nat _ dx x)
    (hQ : ∀ h' tk' nm, nm.N = x → nm.dN = dx → Kept [x, dx] s.heap h' → NamesS w h' nm (addsR rows0).1 (addsR rows0).2 → (∀ y ∈ [nm.tx, nm.an, nm.fx, nm.fn], s.heap.get? y = none) → Rr (.ok (.ret .none)) { s with heap := h', toks := tk' }) :
    codeAny (model PySem.Challenge.rw_ok0022_01.row.prog w) (AA 750 7500) (.call (.ref 81) ⟨[.ref x], []⟩) Rr s := by
  refine' enterC (mt := [(x, instObj 154 dx), (dx, dictOf [] 0)]) (binds := [(Str.ofString "self", .ref x)]) C (fun p q => by rcases List.mem_cons.mp q with rfl | q; exact ⟨hx, hR1⟩; rw [List.mem_singleton.mp q]; exact ⟨hd', hR2⟩) ?k6 ?k7 ?k8 ?k9 ?kB ?_ ?c2 ?c3 ?c4 ?c5
  case k6 => k_is
  case k7 => k_is
  case k8 => decide
  case k9 => exact BindsTo.of_eq rfl
  case kB => exact locs rfl
  case c2 => rfl
  case c3 => rfl
  case c4 => rfl
  case c5 => decide
  intro g L h₁ en X T F N
  (try dsimp only)
  (try k_fold)
  repeat' ((fail_if_success (with_reducible show wpAny _ _ (pyIter _) _ _ _)); first | (k_unfold; (try dsimp only)) | walk1 | (dsimp only; walk1) | fail "no step")
  rename_i t9 vs9 n9 Fx Nx st9
  obtain ⟨nm, hnm, e1, e2, fr9, ok9⟩ : ∃ nm : NAd, NamesS w _ nm [] [] ∧ nm.N = x ∧ nm.dN = dx ∧ (∀ y ∈ [nm.tx, nm.an, nm.fx, nm.fn], s.heap.get? y = none) ∧ (∀ y ∈ naddrs nm, y ≠ L ∧ g.get? y = none) := by
    refine ⟨_, names_start Nx (.tail _ (.head _)) (.tail _ (.tail _ (.head _))) (.tail _ (.tail _ (.tail _ (.head _)))) (.tail _ (.tail _ (.tail _ (.tail _ (.head _))))) (.tail _ (.tail _ (.tail _ (.tail _ (.tail _ (.head _)))))) (.tail _ (.tail _ (.tail _ (.tail _ (.tail _ (.tail _ (.head _))))))) (by assumption) (by assumption) (by assumption) (by assumption) (by omega) (by omega) (by omega) (by omega) (by omega), rfl, rfl, ?_, ?_⟩
    · intro y hy
      have f1 := en.fresh1 Nx (.tail _ (.head _)) (by simp only [List.map_cons, List.map_nil, List.mem_cons, List.not_mem_nil, or_false, not_or]; exact ⟨Nat.ne_of_gt (by omega), Nat.ne_of_gt (by omega)⟩)
      have f2 := en.fresh1 Nx (.tail _ (.tail _ (.head _))) (by simp only [List.map_cons, List.map_nil, List.mem_cons, List.not_mem_nil, or_false, not_or]; exact ⟨Nat.ne_of_gt (by omega), Nat.ne_of_gt (by omega)⟩)
      have f3 := en.fresh1 Nx (.tail _ (.tail _ (.tail _ (.head _)))) (by simp only [List.map_cons, List.map_nil, List.mem_cons, List.not_mem_nil, or_false, not_or]; exact ⟨Nat.ne_of_gt (by omega), Nat.ne_of_gt (by omega)⟩)
      have f4 := en.fresh1 Nx (.tail _ (.tail _ (.tail _ (.tail _ (.head _))))) (by simp only [List.map_cons, List.map_nil, List.mem_cons, List.not_mem_nil, or_false, not_or]; exact ⟨Nat.ne_of_gt (by omega), Nat.ne_of_gt (by omega)⟩)
      simp only [List.mem_cons, List.not_mem_nil, or_false] at hy
      rcases hy with rfl | rfl | rfl | rfl <;> assumption
    · intro y hy
      simp only [List.mem_cons, List.not_mem_nil, or_false] at hy
      rcases hy with rfl | rfl | rfl | rfl | rfl | rfl
      · exact (Nx _ (.tail _ (.tail _ (.tail _ (.tail _ (.tail _ (.head _))))))).2
      · exact (Nx _ (.tail _ (.tail _ (.tail _ (.tail _ (.tail _ (.tail _ (.head _)))))))).2
      · exact (Nx _ (.tail _ (.tail _ (.tail _ (.tail _ (.head _)))))).2
      · exact (Nx _ (.tail _ (.tail _ (.tail _ (.head _))))).2
      · exact (Nx _ (.tail _ (.tail _ (.head _)))).2
      · exact (Nx _ (.tail _ (.head _))).2
  subst e1
  subst e2
  have ht9 := Nx _ (.head _)
  obtain ⟨lst9, N9, S9⟩ := glue (W := [nm.N, nm.dN]) Fx ((en.kept Fx).wider (by simp))
  clear Nx
  have nr : NR g nm := ⟨(ok9 _ (by simp)).2, (ok9 _ (by simp)).2, (ok9 _ (by simp)).2, (ok9 _ (by simp)).2⟩
  have ln : LN L nm := ⟨(ok9 _ (by simp)).1.symm, (ok9 _ (by simp)).1.symm, (ok9 _ (by simp)).1.symm, (ok9 _ (by simp)).1.symm, (ok9 _ (by simp)).1.symm, (ok9 _ (by simp)).1.symm⟩
  have gN : g.get? nm.N = none := (ok9 _ (by simp)).2
  have gdN : g.get? nm.dN = none := (ok9 _ (by simp)).2
  dsimp only [List.nil_append]
  refine' glue_loopT (W' := [nm.tx, nm.an]) [] (PA w nm t9 vs9 n9) (as := t9 :: naddrs nm) ?hh ?hll ?hlL ?hx ?F ?N ?S ?hl ?hP ?hw ?has ?hW ?turn ?done
  case hw => exact PA.word
  case hP => exact ⟨hnm, ht9.1⟩
  case hh => rfl
  case hll => exact ⟨_, ht9.1, rfl, _, rfl⟩
  case hlL => exact ht9.2.1
  case hx => exact .inr ⟨_, .head _, fun i h H => H.2⟩
  case F => assumption
  case N => assumption
  case S => assumption
  case hl => exact fun _ h => h
  case has =>
    intro y hy
    rcases List.mem_cons.mp hy with rfl | hy
    · exact ht9.2
    · exact ok9 y hy
  case hW => (intro x hx; simp only [List.mem_cons, List.not_mem_nil, or_false] at hx; rcases hx with rfl | rfl <;> (refine ⟨by simp, .inr (fr9 _ (by simp))⟩))
  case turn =>
    intro i v u h tk lst hv H F N S
    replace F : Fr g L h _ := F
    replace N : News g L h _ := N
    replace S : Gl g L _ _ _ _ := S
    obtain ⟨hN, hT⟩ := H
    obtain ⟨x9, k9, hx9, rfl⟩ := StrsV.at st9 hv
    have hlen : (addsA (atoms0.take i)).length ≤ 29 := Nat.le_trans (addsA_len _) (by rw [List.length_take]; exact Nat.min_le_right _ _)
    have hm1 := S.mem hN.i.s ln.N.symm gN
    have hm2 := S.mem hN.i.d ln.dN.symm gdN
    have nt9 := nt_cons S.nt hN.tx_an
    clear hnm N9 S9
    (try dsimp only)
    (try k_fold)
    repeat' ((fail_if_success (with_reducible show wpAny _ _ (pyIter _) _ _ _)); first | (k_unfold; (try dsimp only)) | walk1 | (dsimp only; walk1) | fail "no step")
    all_goals (try dsimp only)
    all_goals (rename Fr _ _ _ _ => Fe)
    all_goals (rename News _ _ _ _ => Ne)
    have H9 := (by assumption : NamesS w _ nm (addA _ _) [])
    refine gend Fe Ne (by assumption) (fun _ h => h) (by intro z h1 h2; simp only [List.contains_cons, List.contains_nil, Bool.or_false, Bool.or_eq_false_iff, beq_eq_false_iff_ne, ne_eq] at h2; simp [h1, h2]) ⟨by rw [take_snoc hx9, addsA_snoc]; exact H9, ?_⟩
    rename Gl g L _ _ _ _ => Se
    exact tup_kept nt9 Se.kp hT
  case done =>
    intro u h tk lst H F N S
    replace F : Fr g L h _ := F
    replace N : News g L h _ := N
    replace S : Gl g L _ _ _ _ := S
    obtain ⟨hN, hT⟩ := H
    rw [StrsV.len st9, List.take_length] at hN
    replace hN : NamesS w h nm (addsR (rows0.take 0)).1 (addsR (rows0.take 0)).2 := hN
    clear hT hnm N9 S9 Fx
    (try dsimp only)
    (try k_fold)
    repeat' ((fail_if_success (with_reducible show wpAny _ _ (pyIter _) _ _ _)); first | (k_unfold; (try dsimp only)) | walk1 | (dsimp only; walk1) | fail "no step")
    rename_i t8 vs8 n8 lst8 F8 N8 S8 hN8 q1 q2 q3 q4 q5
    refine' glue_loopT (W' := [nm.tx, nm.an, nm.fx, nm.fn]) [] (PR w nm t8 vs8 n8) (as := t8 :: naddrs nm) ?hh9 ?hll9 ?hlL9 ?hx9 ?F9 ?N9 ?S9 ?hl9 ?hP9 ?hw9 ?has9 ?hW9 ?turn9 ?done9
    case hw9 => exact PR.word
    case hP9 => exact ⟨hN8, q4, q5⟩
    case hh9 => rfl
    case hll9 => exact ⟨_, q4, rfl, _, rfl⟩
    case hlL9 => exact q1
    case hx9 => exact .inr ⟨_, .head _, fun i h H => H.2.1⟩
    case F9 => exact F8
    case N9 => exact N8
    case S9 => exact S8
    case hl9 => exact fun _ h => h
    case has9 =>
      intro y hy
      rcases List.mem_cons.mp hy with rfl | hy
      · exact ⟨q1, q3⟩
      · exact ok9 y hy
    case hW9 => (intro x hx; simp only [List.mem_cons, List.not_mem_nil, or_false] at hx; rcases hx with rfl | rfl | rfl | rfl <;> (refine ⟨by simp, .inr (fr9 _ (by simp))⟩))
    case turn9 =>
      intro i v u h tk lst hv H F N S
      replace F : Fr g L h _ := F
      replace N : News g L h _ := N
      replace S : Gl g L _ _ _ _ := S
      obtain ⟨hN, hT, hR⟩ := H
      obtain ⟨x9, r9, k9, k8, hx9, rfl, hr9⟩ := hR.at hv
      have hlen := addsR_len (rows0.take i)
      have hlen2 : (rows0.take i).length ≤ 32 := by rw [List.length_take]; exact Nat.min_le_right _ _
      have hm1 := S.mem hN.i.s ln.N.symm gN
      have hm2 := S.mem hN.i.d ln.dN.symm gdN
      have nt9 := nt_cons S.nt hN.nt
      clear hN8 N8 S8 F8
      (try dsimp only)
      (try k_fold)
      repeat' ((fail_if_success (with_reducible show wpAny _ _ (pyIter _) _ _ _)); first | (k_unfold; (try dsimp only)) | walk1 | (dsimp only; walk1) | fail "no step")
      all_goals (try dsimp only)
      all_goals (rename Fr _ _ _ _ => Fe)
      all_goals (rename News _ _ _ _ => Ne)
      rename NamesS _ _ _ _ _ => H9
      rename Gl g L _ _ _ _ => Se
      refine gend Fe Ne Se (fun _ h => h) (by intro z h1 h2; simp only [List.contains_cons, List.contains_nil, Bool.or_false, Bool.or_eq_false_iff, beq_eq_false_iff_ne, ne_eq] at h2; simp [h1, h2]) ⟨?_, tup_kept nt9 Se.kp hT, hR.kept Se.kp nt9⟩
      rw [take_snoc hx9, addsR_snoc]; exact H9
    case done9 =>
      intro u h tk lst H F N S
      replace F : Fr g L h _ := F
      replace N : News g L h _ := N
      replace S : Gl g L _ _ _ _ := S
      obtain ⟨hN, hT, hR⟩ := H
      rw [hR.len, List.take_length] at hN
      (try dsimp only)
      (try k_fold)
      repeat' ((fail_if_success (with_reducible show wpAny _ _ (pyIter _) _ _ _)); first | (k_unfold; (try dsimp only)) | walk1 | (dsimp only; walk1) | fail "no step")
      (try dsimp only)
      exact hQ _ _ nm rfl rfl (S.fin F N (fun _ h => h) (en.sz ▸ get_size _)) hN fr9
theorem names_new {w : World} {mg mb : Str → Option Value} {R : Heap} {s : Shared} {Q E : Value → Shared → Prop} (C : Cx w mg mb R s.heap)
    (hQ : ∀ h' tk' nm, Kept [] s.heap h' → NamesS w h' nm (addsR rows0).1 (addsR rows0).2 → (naddrs nm).Nodup → (∀ y ∈ naddrs nm, s.heap.get? y = none) → Q (.ref nm.N) { s with heap := h', toks := tk' }) :
    wpAny (model PySem.Challenge.rw_ok0022_01.row.prog w) (AA 700 7000) (call (.ref 154) []) Q E s := by
  obtain ⟨hh, gg, dd, tt, os⟩ := s
  have X := C.x.keeps C.k
  refine wpAny_call (make_core (makes_of (C := 154) X (by k_is)) (looks_findIn (r := some (.ref 81)) X (by k_is)) (fun self => bind_fn X self (by k_is)) (.inl rfl) ?_)
  have hlt : ∀ b o, R.get? b = some o → b < hh.objs.size := fun b o e => Heap.lt_size (C.k _ _ e)
  have rn : ∀ b, hh.objs.size ≤ b → R.get? b = none := fun b hb => by
    cases q : R.get? b with
    | none => rfl
    | some o => exact absurd (hlt b o q) (Nat.not_lt.mpr hb)
  have hk : ∀ b o, hh.get? b = some o → ((hh.push emptyDict).push (instObj 154 hh.objs.size)).get? b = some o := fun b o e => Heap.get?_push_of_some _ (Heap.get?_push_of_some _ e)
  refine code_big (d := 750) (u := 7500) rfl (by exact Nat.le_of_ble_eq_true rfl) (by exact Nat.le_of_ble_eq_true rfl) (sym_init (R := R) (x := hh.objs.size + 1) (dx := hh.objs.size) ⟨C.x, C.t, fun b o e => hk b o (C.k b o e)⟩ ?_ ?_ (rn _ (Nat.le_succ _)) (rn _ (Nat.le_refl _)) (Nat.lt_succ_self _) fun h' tk' a e1 e2 kp st f => ?_)
  · have := Heap.get?_push_size (hh.push emptyDict) (o := instObj 154 hh.objs.size) rfl
    rwa [Heap.size_push] at this
  · exact Heap.get?_push_of_some _ (Heap.get?_push_size hh rfl)
  · have nx : ∀ b, ((hh.push emptyDict).push (instObj 154 hh.objs.size)).get? b = none → hh.get? b = none := fun b e => by
      cases q : hh.get? b with
      | none => rfl
      | some o => rw [hk b o q] at e; cases e
    refine ⟨rfl, e1 ▸ hQ h' tk' a (fun b o e n => kp b o (hk b o e) fun m => ?_) st ?_ fun y hy => ?_⟩
    · have hb := Heap.lt_size e
      simp only [List.mem_cons, List.not_mem_nil, or_false] at m
      rcases m with m | m
      · exact absurd hb (by rw [m]; exact Nat.not_lt.mpr (Nat.le_succ _))
      · exact absurd hb (by rw [m]; exact Nat.lt_irrefl _)
    · have n0 : a.N ≠ a.dN := ne_of_objs st.i.s st.i.d (by simp)
      have ni := st.ni
      simp only [List.mem_cons, List.not_mem_nil, or_false, not_or] at ni
      simp [n0, ni, st.n1, st.n2, st.n3, st.n4, st.n5, st.n6]
    · simp only [List.mem_cons, List.not_mem_nil, or_false] at hy
      rcases hy with rfl | rfl | rfl | rfl | rfl | rfl
      · rw [e1]; exact get_ge (Nat.le_succ _)
      · rw [e2]; exact get_ge (Nat.le_refl _)
      all_goals exact nx _ (f _ (by simp))
end
section
theorem enterX {w : World} {prog : Program} {A : Around} {s : Shared} {mg mb : Str → Option Value} {R : Heap} {Q : Value → Shared → Prop} {E : Value → Shared → Prop} {mt : List (Addr × Obj)}
    {name qual : Str} {params : Arguments} {body : List Stmt} {scope : Scope} {dV kV doc pm cdv ct oc : Value} {an od : Option Addr} {osl : Array (Option Value)} {f : Addr} {args : List Value} {kw : List (Str × Value)} {binds : List (Str × Value)}
    (C : Cx w mg mb R s.heap) (M : ∀ p ∈ mt, s.heap.get? p.1 = some p.2 ∧ R.get? p.1 = none)
    (ho : (frag.heap_1 w.params).lookup f = some ⟨oc, od, .func (fnOf name qual params body scope dV kV doc pm an cdv ct), osl⟩) (hcd : codeIn (frag.heap_1 w.params) cdv qual = true) (hroom : A.depth < recursionLimit)
    (hbind : BindsTo s (fnOf name qual params body scope dV kV doc pm an cdv ct) ⟨args, kw⟩ binds) (hkind : (binds.all fun y => scope.names.lookup y.1 == some .local || scope.names.lookup y.1 == some .cell) = true)
    (hnd : ((cellsFrom 0 scope.names []).map (·.1)).Nodup)
    (h : ∀ g L h₁ tk cells, Ent s.heap g L mt → (frag.heap_1 w.params).In g → TopRead vw (looseW vw [Str.ofString "VOID", Str.ofString "Store"]) mg mb g → Fr g L h₁ (bindL (envOfC qual scope L f cdv).kindOf binds fun _ => none) → News g L h₁ (cells ++ mt) →
      CellsAre (bindC (envOfC qual scope L f cdv).kindOf binds fun _ => none) (cellsFrom (L + 1) scope.names []) cells →
      wpAny (model prog w) (A.deeper (envOfC qual scope L f cdv)) (execs body (envOfC qual scope L f cdv)) (fun fl s' => Q (match fl with | .ret v => v | _ => .none) s') (fun _ _ => False) { s with heap := h₁, toks := tk })
    (hco : scope.isCoroutine = false) (hgen : scope.isGenerator = false) (hk : scope.kind = .function) : wpAny (model prog w) A (call (.ref f) args kw) Q E s := by
  refine wpAny_call ?_
  have st : ∀ b o, R.get? b = some o → (hideAll s.heap (mt.map (·.1))).get? b = some o := fun b o e => hideAll_get _ (C.k b o e) fun q => by
    obtain ⟨p, hp, e'⟩ := List.mem_map.mp q
    have := (M p hp).2
    rw [e', e] at this; cases this
  refine codeAny_call_function hroom (C.k _ _ (C.x _ _ ho)) rfl hco hgen rfl (codeRec_of (C.x.keeps C.k) hcd) (hbind _ _ _ _ ?_)
  refine wpAny_newFunctionEnv_cells hk (kindsX hkind _) fun env' he s' x => ?_
  subst he
  refine ⟨(C.t.nolimit.keeps C.k).keeps x.toInCall.keep, codeAny_func ?_⟩
  obtain ⟨h₁, tk, rfl, _⟩ := x.done
  have hk₁ := x.toInCall.keep
  obtain ⟨cells, NC, Y⟩ := Cl.news (h₀ := s.heap) (Nat.le_refl _) fun n c hm => ⟨x.cell n c (lookup_of_mem_nodup (cellsFrom_names scope.names 0 (s.heap.objs.size + 1) [] [] rfl ▸ hnd) hm), x.above n c hm⟩
  refine wpAny_mono (h _ s.heap.objs.size h₁ tk cells ⟨rfl, fun b o e n => hideAll_get _ e n, fun b o e => of_hideAll _ e⟩ (C.x.keeps st) (C.t.keeps st)
    ⟨x.toInCall.ns, fun b o e => hk₁ b o (of_hideAll _ e), Nat.le_of_eq (hideAll_size _ _)⟩ (fun p hp => ?_) Y) (fun fl s' hl => hl) fun _ _ y => y.elim
  rcases List.mem_append.mp hp with hp | hp
  · refine ⟨(NC p hp).1, (NC p hp).2.1, ?_⟩
    cases q : (hideAll s.heap (mt.map (·.1))).get? p.1 with
    | none => rfl
    | some o => have := of_hideAll _ q; rw [(NC p hp).2.2] at this; cases this
  · exact ⟨hk₁ _ _ (M p hp).1, Nat.ne_of_lt (Heap.lt_size (M p hp).1), hideAll_none _ (List.mem_map_of_mem hp)⟩
theorem eq_pairs {prog : Program} {w : World} {A : Around} {E : Value → Shared → Prop} {s : Shared} {a b : Addr} {x y x' y' : Int} {k1 k2 k3 k4 : Tok} {Q : Value → Shared → Prop} (ha : IsTup s.heap a #[.int x k1, .int y k2]) (hb : IsTup s.heap b #[.int x' k3, .int y' k4]) (hu : A.units + 64 < cLine)
    (h : Q (.bool (decide ((x, y) = (x', y')))) s) : wpAny (model prog w) A (compareOp .Eq (.ref a) (.ref b)) Q E s := by
  obtain ⟨oa, ea, ca, na, da⟩ := ha
  obtain ⟨ob, eb, cb, nb, db⟩ := hb
  refine eq_dataH (reads_tuple_at (xs := [.int x, .int y]) ea ca da (.cons (Reads.int x k1) (.cons (Reads.int y k2) .nil))) (reads_tuple_at (xs := [.int x', .int y']) eb cb db (.cons (Reads.int x' k3) (.cons (Reads.int y' k4) .nil))) rfl rfl hu ?_
  have e : PyData.eqv (.tuple [.int x, .int y]) (.tuple [.int x', .int y']) = decide ((x, y) = (x', y')) := by
    simp only [PyData.eqv, PyData.eqvAll, Bool.and_true, Prod.mk.injEq]
    by_cases h1 : x = x' <;> by_cases h2 : y = y' <;> simp [h1, h2]
  rw [e]; exact h
theorem news_tail {g h : Heap} {L : Addr} {x : Addr × Obj} {l : List (Addr × Obj)} (N : News g L h (x :: l)) : News g L h l := fun p hp => N p (.tail _ hp)
theorem eq_pairsN {prog : Program} {w : World} {A : Around} {E : Value → Shared → Prop} {s : Shared} {g : Heap} {L a b : Addr} {m : Str → Option Value} {news : List (Addr × Obj)} {x y x' y' : Int} {k1 k2 k3 k4 : Tok} {n : Nat} {Q : Value → Shared → Prop} (F : Fr g L s.heap m) (N : News g L s.heap news)
    (ha : IsTup g a #[.int x k1, .int y k2]) (hb : (b, tupOf [.int x' k3, .int y' k4] n) ∈ news) (hu : A.units + 64 < cLine)
    (h : Q (.bool (decide ((x, y) = (x', y')))) s) : wpAny (model prog w) A (compareOp .Eq (.ref a) (.ref b)) Q E s := eq_pairs (F.tup ha) ⟨_, N.get hb, rfl, n, rfl⟩ hu h
noncomputable def cells6 (p : Int → Bool) (n : Nat) : List Int := (rangeKs 0 n).filter p
theorem fold_cells {p : Int → Prop} [DecidablePred p] : ∀ (ks acc : List Int), List.foldl (fun l' k' => if p k' then l' ++ [k'] else l') acc ks = acc ++ ks.filter (fun k => decide (p k))
  | [], acc => by simp
  | k :: ks, acc => by
    by_cases h : p k
    · rw [List.foldl_cons, if_pos h, fold_cells, List.filter_cons, if_pos (by simpa using h)]; simp
    · rw [List.foldl_cons, if_neg h, fold_cells, List.filter_cons, if_neg (by simpa using h)]
theorem fold_cells0 {p : Int → Prop} [DecidablePred p] {ys : List Value} {c : Int} {n : Nat} (hc : c = (n : Int)) (h : IntsAre ys (List.foldl (fun l' k' => if p k' then l' ++ [k'] else l') [] (rangeKs 0 (c - 0).toNat))) : IntsAre ys (cells6 (fun k => decide (p k)) n) := by
  subst hc
  rw [fold_cells] at h
  simpa [cells6] using h
local macro_rules | `(tactic| walk_at "compareOp Eq ref ref") => `(tactic| (k_here; k_dflt (refine' eq_pairsN ?F ?N ?a ?b ?u ?_; (case F | N => k_asm); (case a => assumption); (case b => k_mem); (case u => kbt_words); k_whole); have nT' := news_tail (by k_asm); k_sweep))
local macro_rules | `(tactic| walk_at "eval ListComp") => `(tactic| (k_here; k_dflt (refine LCt.ListComp_T (F₀ := by k_asm) (by with_unfolding_all rfl) (by decide) (by rfl) (by decide) (by rfl) ?_)))
theorem funcells_spec {w : World} {mg mb : Str → Option Value} {R : Heap} {s : Shared} {a : SAd} {cs : List (Int × Int)} {Q E : Value → Shared → Prop}
    (C : Cx w mg mb R s.heap) (A : StoreAt w s.heap a) (V : CellL s.heap a.hp cs) (hz : cs.length < 1000)
    (hQ : ∀ h' tk' t vs, Kept [] s.heap h' → s.heap.get? t = none → h'.get? t = some (PySem.W.listOf (List.toArray vs) vs.length) → IntsAre vs (cells6 (fun k => decide ((cAt cs k.toNat).1 = 6)) cs.length) → Q (.ref t) { s with heap := h', toks := tk' }) :
    wpAny (model PySem.Challenge.rw_ok0022_01.row.prog w) (AA 800 8000) (call (.ref 423) [.ref a.S]) Q E s := by
  refine' enterX (mt := []) (binds := [(Str.ofString "store", .ref a.S)]) C (fun _ h => nomatch h) ?k6 ?k7 ?k8 ?k9 ?kB ?kD ?_ ?c2 ?c3 ?c4
  case k6 => k_is
  case k7 => k_is
  case k8 => decide
  case k9 => exact BindsTo.of_eq rfl
  case kB => exact rfl
  case kD => decide +kernel
  case c2 => rfl
  case c3 => rfl
  case c4 => rfl
  intro g L h₁ tk₁ cells en X T F N Y
  k_cells Y
  have A' : StoreAt w g a := A.keeps en.up0
  obtain ⟨vs0, n0, e0, V0⟩ := V
  have e1 := en.up0 _ _ e0
  have V1 := V0.keeps en.up0
  have hl1 := V1.1
  have hl2 : g.IsList a.hp vs0.toArray := ⟨_, e1, rfl, _, rfl⟩
  simp only [List.cons_append, List.nil_append] at N
  have i1 := A'.s
  have i2 := A'.d
  (try dsimp only)
  (try k_fold)
  repeat' (first | (k_unfold; (try dsimp only)) | walk1 | (dsimp only; walk1) | fail "no step")
  all_goals (try dsimp only)
  rename Fr g L _ _ => Fe
  rename News g L _ _ => Ne
  exact hQ _ _ _ _ (en.kept0 Fe) (en.fresh Ne _ (.head _)).2 (Ne _ (.head _)).1 (fold_cells0 rfl (by assumption))
theorem pointers_spec {w : World} {mg mb : Str → Option Value} {R : Heap} {s : Shared} {a : SAd} {cs : List (Int × Int)} {place : Int} {kp : Tok} {Q E : Value → Shared → Prop}
    (C : Cx w mg mb R s.heap) (A : StoreAt w s.heap a) (V : CellL s.heap a.hp cs) (hz : cs.length < 1000)
    (hQ : ∀ h' tk' t vs, Kept [] s.heap h' → s.heap.get? t = none → h'.get? t = some (PySem.W.listOf (List.toArray vs) vs.length) → IntsAre vs (cells6 (fun k => decide (cAt cs k.toNat = (2, place))) cs.length) → Q (.ref t) { s with heap := h', toks := tk' }) :
    wpAny (model PySem.Challenge.rw_ok0022_01.row.prog w) (AA 800 8000) (call (.ref 428) [.ref a.S, .int place kp]) Q E s := by
  refine' enterX (mt := []) (binds := [(Str.ofString "store", .ref a.S), (Str.ofString "place", .int place kp)]) C (fun _ h => nomatch h) ?k6 ?k7 ?k8 ?k9 ?kB ?kD ?_ ?c2 ?c3 ?c4
  case k6 => k_is
  case k7 => k_is
  case k8 => decide
  case k9 => exact BindsTo.of_eq rfl
  case kB => exact rfl
  case kD => decide +kernel
  case c2 => rfl
  case c3 => rfl
  case c4 => rfl
  intro g L h₁ tk₁ cells en X T F N Y
  k_cells Y
  have A' : StoreAt w g a := A.keeps en.up0
  obtain ⟨vs0, n0, e0, V0⟩ := V
  have e1 := en.up0 _ _ e0
  have V1 := V0.keeps en.up0
  have hl1 := V1.1
  have hl2 : g.IsList a.hp vs0.toArray := ⟨_, e1, rfl, _, rfl⟩
  simp only [List.cons_append, List.nil_append] at N
  have i1 := A'.s
  have i2 := A'.d
  (try dsimp only)
  (try k_fold)
  repeat' (first | (k_unfold; (try dsimp only)) | walk1 | (dsimp only; walk1) | fail "no step")
  all_goals (try dsimp only)
  rename Fr g L _ _ => Fe
  rename News g L _ _ => Ne
  exact hQ _ _ _ _ (en.kept0 Fe) (en.fresh Ne _ (.head _)).2 (Ne _ (.head _)).1 (fold_cells0 rfl (by assumption))
end
noncomputable def FRow (h : Heap) (v : Value) (x : Int × Str) : Prop := ∃ r k1 k2, v = .ref r ∧ IsTup h r #[.int x.1 k1, .str x.2 k2]
noncomputable def FRows (h : Heap) : List Value → List (Int × Str) → Prop
  | [], [] => True
  | v :: vs, x :: xs => FRow h v x ∧ FRows h vs xs
  | _, _ => False
theorem FRows.kept {h h' : Heap} {W : List Addr} (k : Kept W h h') (nt : NT h W) : ∀ {vs : List Value} {xs : List (Int × Str)}, FRows h vs xs → FRows h' vs xs
  | [], [], _ => trivial
  | _ :: _, _ :: _, ⟨⟨r, k1, k2, e, t⟩, x⟩ => ⟨⟨r, k1, k2, e, isTup_kept k nt t⟩, FRows.kept k nt x⟩
theorem FRows.snoc {h : Heap} {v : Value} {x : Int × Str} (hv : FRow h v x) : ∀ {vs : List Value} {xs : List (Int × Str)}, FRows h vs xs → FRows h (vs ++ [v]) (xs ++ [x])
  | [], [], _ => ⟨hv, trivial⟩
  | _ :: _, _ :: _, ⟨a, b⟩ => ⟨a, FRows.snoc hv b⟩
theorem FRows.len {h : Heap} : ∀ {vs : List Value} {xs : List (Int × Str)}, FRows h vs xs → vs.length = xs.length
  | [], [], _ => rfl
  | _ :: _, _ :: _, ⟨_, x⟩ => by simp [FRows.len x]
noncomputable def RowsL (h : Heap) (l : Addr) (rows : List (Int × Str)) : Prop := ∃ vs n, h.get? l = some (PySem.W.listOf (List.toArray vs) n) ∧ FRows h vs rows
theorem RowsL.kept {h h' : Heap} {W : List Addr} {l : Addr} {rows : List (Int × Str)} (x : RowsL h l rows) (k : Kept W h h') (hl : l ∉ W) (nt : NT h W) : RowsL h' l rows := let ⟨vs, n, e, c⟩ := x; ⟨vs, n, k _ _ e hl, c.kept k nt⟩
theorem RowsL.nt {h : Heap} {l : Addr} {rows : List (Int × Str)} (x : RowsL h l rows) : NT h [l] := fun q hq o ho _ => by
  obtain ⟨vs, n, e, _⟩ := x
  rw [List.mem_singleton.mp hq, e] at ho
  cases ho
  intro e; exact absurd (PySem.Value.type.inj e) (by decide)
structure NS (w : World) (nm : NAd) (a : SAd) (cs st : List (Int × Int)) (ts : List Str) (fs : List (Int × Int)) (h : Heap) : Prop where
  nam : NamesS w h nm ts fs
  sto : StoreS w h a cs st
theorem ns_word (w : World) {nm : NAd} {a : SAd} {cs st : List (Int × Int)} {ts : List Str} {fs : List (Int × Int)} : Word (NS w nm a cs st ts fs) (naddrs nm ++ saddrs a) where
  st x k h nt := ⟨(names_word w nm ts fs).st x.nam k (fun y hy m => h y hy (List.mem_append.mpr (.inl m))) nt, (store_word w a cs st).st x.sto k (fun y hy m => h y hy (List.mem_append.mpr (.inr m))) nt⟩
  lv x y hy := (List.mem_append.mp hy).elim ((names_word w nm ts fs).lv x.nam y) ((store_word w a cs st).lv x.sto y)
structure AN (g : Heap) (L : Addr) (nm : NAd) (a : SAd) : Prop where
  nd : (naddrs nm ++ saddrs a).Nodup
  ok : ∀ x ∈ naddrs nm ++ saddrs a, x ≠ L ∧ g.get? x = none
section
variable {g : Heap} {L : Addr} {nm : NAd} {a : SAd}
theorem AN.ns (x : AN g L nm a) : ∀ p ∈ naddrs nm, ∀ q ∈ saddrs a, p ≠ q := fun p hp q hq => (List.nodup_append.mp x.nd).2.2 p hp q hq
theorem AN.nr (x : AN g L nm a) : NR g nm := ⟨(x.ok _ (by simp)).2, (x.ok _ (by simp)).2, (x.ok _ (by simp)).2, (x.ok _ (by simp)).2⟩
theorem AN.ln (x : AN g L nm a) : LN L nm := ⟨(x.ok _ (by simp)).1.symm, (x.ok _ (by simp)).1.symm, (x.ok _ (by simp)).1.symm, (x.ok _ (by simp)).1.symm, (x.ok _ (by simp)).1.symm, (x.ok _ (by simp)).1.symm⟩
theorem AN.l0 (x : AN g L nm a) : ∀ q ∈ [L], q ∉ naddrs nm ++ saddrs a := fun q hq m => (x.ok q m).1 (List.mem_singleton.mp hq)
end
theorem ns_mem {w : World} {g h0 h : Heap} {L : Addr} {W : List Addr} {lst : List (Addr × Obj)} {nm : NAd} {a : SAd} {cs st : List (Int × Int)} {ts : List Str} {fs : List (Int × Int)} (S : Gl g L W h0 h lst) (H : NS w nm a cs st ts fs h) (ah : AN g L nm a) :
    (a.S, instObj 374 a.dS) ∈ lst ∧ (a.dS, dictOf (stEs w.params a) a.n) ∈ lst ∧ (nm.N, instObj 154 nm.dN) ∈ lst ∧ (nm.dN, dictOf (nmEs w.params nm) nm.n) ∈ lst :=
  ⟨S.mem H.sto.i.s (ah.ok _ (by simp)).1 (ah.ok _ (by simp)).2, S.mem H.sto.i.d (ah.ok _ (by simp)).1 (ah.ok _ (by simp)).2, S.mem H.nam.i.s (ah.ok _ (by simp)).1 (ah.ok _ (by simp)).2, S.mem H.nam.i.d (ah.ok _ (by simp)).1 (ah.ok _ (by simp)).2⟩
theorem set_at {prog : Program} {w : World} {A : Around} {E : Value → Shared → Prop} {s : Shared} {l : Addr} {k : Int} {t : Tok} {v : Value} {vs : List Value} {n : Nat} {Q : Unit → Shared → Prop} (ho : s.heap.get? l = some (PySem.W.listOf (List.toArray vs) n)) (h0 : 0 ≤ k) (hk : k < vs.length) (hz : vs.length < 10000)
    (hQ : ∀ h', Kept [l] s.heap h' → h'.get? l = some (PySem.W.listOf (List.toArray (vs.set k.toNat v)) n) → Q () { s with heap := h' }) : wpAny (model prog w) A (setItem (.ref l) (.int k t) v) Q E s := by
  refine ki_setAt ho h0 (by omega) (by simpa using hk) (hQ _ (fun b o e m => ?_) ?_)
  · exact (Heap.SameBut.update ..).extBut b o (by simpa using m) e
  · have q := PySem.IsL.update ho (·.setIfInBounds k.toNat v)
    rw [show (List.toArray (vs.set k.toNat v)) = (List.toArray vs).setIfInBounds k.toNat v by apply Array.toList_inj.mp; simp]
    simpa using q
theorem cells_set {h : Heap} {vs : List Value} {cs : List (Int × Int)} {j : Nat} {v : Value} {c : Int × Int} (x : CellsV h vs cs) (hv : CellV h v c) : CellsV h (vs.set j v) (cs.set j c) := by
  refine ⟨by simp [x.1], fun i d e => ?_⟩
  rw [List.getElem?_set] at e
  by_cases q : j = i
  · subst q
    rw [if_pos rfl] at e
    split at e
    · rename_i lt
      cases e
      exact ⟨v, by rw [List.getElem?_set, if_pos rfl, if_pos (by rw [x.1]; exact lt)], hv⟩
    · cases e
  · rw [if_neg q] at e
    obtain ⟨u, e1, e2⟩ := x.2 i d e
    exact ⟨u, by rw [List.getElem?_set, if_neg q]; exact e1, e2⟩
theorem n_set {w : World} {g h0 hs : Heap} {L : Addr} {W : List Addr} {m : Str → Option Value} {news lst : List (Addr × Obj)} {A : Around} {s : Shared} {nm : NAd} {a : SAd} {cs st : List (Int × Int)} {ts : List Str} {fs : List (Int × Int)} {k : Int} {t : Tok} {v : Value} {c : Int × Int} {Q : Unit → Shared → Prop} {E : Value → Shared → Prop}
    (F : Fr g L s.heap m) (N : News g L s.heap news) (S : Gl g L W h0 hs lst) (hl : ∀ p ∈ lst, p ∈ news) (H : NS w nm a cs st ts fs hs) (ah : AN g L nm a) (hc : CellV s.heap v c) (k0 : 0 ≤ k) (k1 : k < cs.length) (hz : cs.length < 10000) (hW : a.hp ∈ W ∨ h0.get? a.hp = none)
    (hQ : ∀ h' lst', Fr g L h' m → News g L h' lst' → Gl g L W h0 h' lst' → NS w nm a (cs.set k.toNat c) st ts fs h' → Q () { s with heap := h' }) :
    wpAny (model PySem.Challenge.rw_ok0022_01.row.prog w) A (setItem (.ref a.hp) (.int k t) v) Q E s := by
  have H1 := (ns_word w).st H (S.kept F N hl) ah.l0 S.nt
  obtain ⟨vs, n, e, hv⟩ := H1.sto.hp
  refine set_at e k0 (by rw [hv.1]; exact k1) (by rw [hv.1]; exact hz) fun h' kp e' => ?_
  have F' := fr_kept F kp (by simpa using (ah.ok a.hp (by simp)).2) (by simpa using (ah.ok a.hp (by simp)).1.symm)
  obtain ⟨lst', N', S'⟩ := glue F' (S.step F N hl kp (by simpa using hW))
  refine hQ _ _ F' N' S' ⟨(names_word w nm ts fs).st H1.nam kp (fun y hy m => ah.ns _ m _ (by rw [List.mem_singleton.mp hy]; simp) rfl) H1.sto.hp.nt, ?_⟩
  have x := H1.sto
  exact ⟨⟨kp _ _ x.i.s (by simpa using ne_of_objs x.i.s e (by simp)), kp _ _ x.i.d (by simpa using ne_of_objs x.i.d e (by simp))⟩, ⟨_, _, e', cells_set (hv.kept kp x.hp.nt) (hc.kept kp x.hp.nt)⟩, x.sk.kept kp (by simpa using x.ne.symm) x.hp.nt, x.ne⟩
theorem n_len {w : World} {g h0 hs : Heap} {L : Addr} {W : List Addr} {m : Str → Option Value} {news lst : List (Addr × Obj)} {A : Around} {s : Shared} {nm : NAd} {a : SAd} {cs st : List (Int × Int)} {ts : List Str} {fs : List (Int × Int)} {Q E : Value → Shared → Prop}
    (F : Fr g L s.heap m) (N : News g L s.heap news) (S : Gl g L W h0 hs lst) (hl : ∀ p ∈ lst, p ∈ news) (H : NS w nm a cs st ts fs hs) (ah : AN g L nm a) (hz : cs.length < 10000)
    (h : Q (.int cs.length (s.toks + 1)) { s with toks := s.toks + 1 + 1 }) : wpAny (model PySem.Challenge.rw_ok0022_01.row.prog w) A (call (.builtin "len") [.ref a.hp]) Q E s := by
  obtain ⟨vs, n, e, hv⟩ := ((ns_word w).st H (S.kept F N hl) ah.l0 S.nt).sto.hp
  have e2 : vs.toArray.size = cs.length := by simp [hv.1]
  exact len_list (items := List.toArray vs) ⟨_, e, rfl, n, rfl⟩ (by rw [e2]; omega) (by rw [e2]; exact h)
theorem n_func {w : World} {mg mb : Str → Option Value} {g h0 hs : Heap} {L : Addr} {W : List Addr} {m : Str → Option Value} {news lst : List (Addr × Obj)} {A : Around} {s : Shared} {nm : NAd} {a : SAd} {cs st : List (Int × Int)} {ts : List Str} {fs : List (Int × Int)} {x : Str} {kx : Tok} {c2 : Int} {k2 : Tok} {Q E : Value → Shared → Prop}
    (F : Fr g L s.heap m) (N : News g L s.heap news) (X : (frag.heap_1 w.params).In g) (T : TopRead vw (looseW vw [Str.ofString "VOID", Str.ofString "Store"]) mg mb g) (S : Gl g L W h0 hs lst) (hl : ∀ p ∈ lst, p ∈ news) (H : NS w nm a cs st ts fs hs) (ah : AN g L nm a) (hz1 : ts.length < 1000) (hz2 : fs.length < 1000) (hW : ∀ q ∈ [nm.tx, nm.an, nm.fx, nm.fn], q ∈ W ∨ h0.get? q = none) (hh : A.handled = none) (hd : A.depth ≤ 850) (hu : A.units ≤ 8500)
    (hQ : ∀ h' tk' t' lst', Fr g L h' m → News g L h' lst' → Gl g L W h0 h' lst' → NS w nm a cs st (addA ts x) (addF fs (fkey ts x c2)) h' → Q (.int ((addF fs (fkey ts x c2)).idxOf (fkey ts x c2)) t') { s with heap := h', toks := tk' }) :
    wpAny (model PySem.Challenge.rw_ok0022_01.row.prog w) A (call (.ref 109) [.ref nm.N, .str x kx, .int c2 k2]) Q E s := by
  have H1 := (ns_word w).st H (S.kept F N hl) ah.l0 S.nt
  refine wp_big hh hd hu (func_spec (R := g) ⟨X, T, F.keep⟩ H1.nam ah.nr (ah.ok _ (by simp)).2 (ah.ok _ (by simp)).2 hz1 hz2 fun h' tk' t' kp hN' => ?_)
  have F' := fr_kept F kp (by simp [ah.nr.tx, ah.nr.an, ah.nr.fx, ah.nr.fn]) (by simp [ah.ln.tx, ah.ln.an, ah.ln.fx, ah.ln.fn])
  obtain ⟨lst', N', S'⟩ := glue F' (S.step F N hl kp hW)
  have sub : ∀ y ∈ [nm.tx, nm.an, nm.fx, nm.fn], y ∈ naddrs nm := fun y hy => by simp at hy ⊢; rcases hy with h | h | h | h <;> simp [h]
  exact hQ _ _ _ _ F' N' S' ⟨hN', (store_word w a cs st).st H1.sto kp (fun y hy m => ah.ns _ (sub y hy) _ m rfl) H1.nam.nt⟩
noncomputable def spoil (way at' : Int) (cs : List (Int × Int)) (ts : List Str) (fs : List (Int × Int)) : List (Int × Int) × List (Int × Str) × List Str × List (Int × Int) :=
  let n : Int := cs.length
  if way = 0 then (cs.set at'.toNat (1, 0), [(at', Str.ofString "stack reference on the heap")], ts, fs)
  else if way = 1 then (cs.set at'.toNat (0, n), [(at', Str.ofString "reference beyond the heap")], ts, fs)
  else if way = 2 then (cs.set at'.toNat (0, -1), [(at', Str.ofString "reference beyond the heap")], ts, fs)
  else if way = 3 then (if at' + 1 < n then (cs.set at'.toNat (0, n - 1), [(at', Str.ofString "reference to a younger cell")], ts, fs) else (cs, [], ts, fs))
  else if way = 4 then (cs.set at'.toNat (3, n - 1), [(at', Str.ofString "list cell beyond the heap")], ts, fs)
  else if way = 5 then (cs.set at'.toNat (3, -1), [(at', Str.ofString "list cell beyond the heap")], ts, fs)
  else if way = 6 then (cs.set at'.toNat (2, at'), [(at', Str.ofString "structure without a functor cell")], ts, fs)
  else if way = 7 then (cs.set at'.toNat (2, n), [(at', Str.ofString "structure without a functor cell")], ts, fs)
  else if way = 8 then (if at' + 1 < n then ((cs.set (n - 1).toNat (6, ((addF fs (fkey ts (Str.ofString "f") 1)).idxOf (fkey ts (Str.ofString "f") 1) : Int))).set at'.toNat (2, n - 1), [(at', Str.ofString "structure beyond the heap")], addA ts (Str.ofString "f"), addF fs (fkey ts (Str.ofString "f") 1)) else (cs, [], ts, fs))
  else (cs, [], ts, fs)
section
theorem cell_news {g h : Heap} {L D : Addr} {news : List (Addr × Obj)} {x y : Int} {k1 k2 : Tok} {n : Nat} (N : News g L h news) (hD : (D, tupOf [.int x k1, .int y k2] n) ∈ news) : CellV h (.ref D) (x, y) := ⟨D, k1, k2, rfl, _, N.get hD, rfl, n, rfl⟩
theorem ns_now {w : World} {g h0 hs h : Heap} {L : Addr} {W : List Addr} {m : Str → Option Value} {news lst : List (Addr × Obj)} {nm : NAd} {a : SAd} {cs st : List (Int × Int)} {ts : List Str} {fs : List (Int × Int)} (F : Fr g L h m) (N : News g L h news) (S : Gl g L W h0 hs lst) (hl : ∀ p ∈ lst, p ∈ news) (H : NS w nm a cs st ts fs hs) (ah : AN g L nm a) : NS w nm a cs st ts fs h := (ns_word w).st H (S.kept F N hl) ah.l0 S.nt
theorem rows_one {g h : Heap} {L l D : Addr} {news : List (Addr × Obj)} {i : Int} {x : Str} {k1 k2 : Tok} {n n2 : Nat} (N : News g L h ((l, PySem.W.listOf #[.ref D] n) :: (D, tupOf [.int i k1, .str x k2] n2) :: news)) : RowsL h l [(i, x)] :=
  ⟨[.ref D], n, (N _ (.head _)).1, ⟨D, k1, k2, rfl, _, (N _ (.tail _ (.head _))).1, rfl, n2, rfl⟩, trivial⟩
theorem rows_nil {g h : Heap} {L l : Addr} {news : List (Addr × Obj)} {n : Nat} (N : News g L h ((l, PySem.W.listOf #[] n) :: news)) : RowsL h l [] := ⟨[], n, (N _ (.head _)).1, trivial⟩
theorem sp_end1 {w : World} {g hs h' : Heap} {s : Shared} {L l D : Addr} {m : Str → Option Value} {lst : List (Addr × Obj)} {nm : NAd} {a : SAd} {cs st : List (Int × Int)} {ts : List Str} {fs : List (Int × Int)} {cs' : List (Int × Int)} {ts' : List Str} {fs' : List (Int × Int)} {way at' i : Int} {x : Str} {k1 k2 : Tok} {n n2 tk : Nat} {Q : Value → Shared → Prop} (hL : L = s.heap.objs.size)
    (F : Fr g L h' m) (N : News g L h' ((l, PySem.W.listOf #[.ref D] n) :: (D, tupOf [.int i k1, .str x k2] n2) :: lst)) (S : Gl g L [nm.tx, nm.an, nm.fx, nm.fn, a.hp] s.heap hs lst) (H : NS w nm a cs' st ts' fs' hs) (ah : AN g L nm a) (e : spoil way at' cs ts fs = (cs', [(i, x)], ts', fs'))
    (hQ : ∀ h' tk' t, Kept [nm.tx, nm.an, nm.fx, nm.fn, a.hp] s.heap h' → RowsL h' t (spoil way at' cs ts fs).2.1 → NS w nm a (spoil way at' cs ts fs).1 st (spoil way at' cs ts fs).2.2.1 (spoil way at' cs ts fs).2.2.2 h' → Q (.ref t) { s with heap := h', toks := tk' }) : Q (.ref l) { s with heap := h', toks := tk } := by
  rw [e] at hQ
  exact hQ _ _ _ (S.fin F N (fun _ h => .tail _ (.tail _ h)) (hL ▸ get_size _)) (rows_one N) (ns_now F N S (fun _ h => .tail _ (.tail _ h)) H ah)
theorem sp_end0 {w : World} {g hs h' : Heap} {s : Shared} {L l : Addr} {m : Str → Option Value} {lst : List (Addr × Obj)} {nm : NAd} {a : SAd} {cs st : List (Int × Int)} {ts : List Str} {fs : List (Int × Int)} {cs' : List (Int × Int)} {ts' : List Str} {fs' : List (Int × Int)} {way at' : Int} {n tk : Nat} {Q : Value → Shared → Prop} (hL : L = s.heap.objs.size)
    (F : Fr g L h' m) (N : News g L h' ((l, PySem.W.listOf #[] n) :: lst)) (S : Gl g L [nm.tx, nm.an, nm.fx, nm.fn, a.hp] s.heap hs lst) (H : NS w nm a cs' st ts' fs' hs) (ah : AN g L nm a) (e : spoil way at' cs ts fs = (cs', [], ts', fs'))
    (hQ : ∀ h' tk' t, Kept [nm.tx, nm.an, nm.fx, nm.fn, a.hp] s.heap h' → RowsL h' t (spoil way at' cs ts fs).2.1 → NS w nm a (spoil way at' cs ts fs).1 st (spoil way at' cs ts fs).2.2.1 (spoil way at' cs ts fs).2.2.2 h' → Q (.ref t) { s with heap := h', toks := tk' }) : Q (.ref l) { s with heap := h', toks := tk } := by
  rw [e] at hQ
  exact hQ _ _ _ (S.fin F N (fun _ h => .tail _ h) (hL ▸ get_size _)) (rows_nil N) (ns_now F N S (fun _ h => .tail _ h) H ah)
local macro_rules | `(tactic| walk_at "call builtin:len") => `(tactic| (k_here; (with_reducible show wpAny _ _ (call (Value.builtin "len") [Value.ref _]) _ _ _); k_dflt (refine' n_len ?F ?N ?S ?l ?st ?ah ?z ?_; (case F | N => k_asm); (case S => assumption); (case l => kbd_text); (case st | ah => assumption); (case z => kfm_hd); k_whole)))
local macro_rules | `(tactic| walk_at "setItem ref int") => `(tactic| (k_here; (with_reducible show wpAny _ _ (setItem (Value.ref _) (Value.int _ _) (Value.ref _)) _ _ _); k_dflt (refine' n_set ?F ?N ?S ?l ?st ?ah ?c ?k0 ?k1 ?z ?w ?_; (case F | N => k_asm); (case S => assumption); (case l => kbd_text); (case st | ah => assumption); (case c => exact cell_news (by k_asm) (by k_mem)); (case k0 | k1 | z => kfm_hd); (case w => kby_none); k_whole); intro _ _ _ _ S' H'; obtain ⟨hm2, hm3, hm4, hm5⟩ := ns_mem S' H' (by assumption); k_sweep))
local macro_rules | `(tactic| walk_at "call ref") => `(tactic| (k_here; k_dflt (apply n_func; kbt_sums; assumption; kbd_text; assumption; assumption; kfm_hd; kfm_hd; kby_none; kbt_ne; k_whole); intro _ _ _ _ _ _ S' H'; obtain ⟨hm2, hm3, hm4, hm5⟩ := ns_mem S' H' (by assumption); k_sweep))
theorem spoiled_spec {w : World} {mg mb : Str → Option Value} {R : Heap} {s : Shared} {nm : NAd} {a : SAd} {cs st : List (Int × Int)} {ts : List Str} {fs : List (Int × Int)} {way at' : Int} {kw ka : Tok} {Q E : Value → Shared → Prop}
    (C : Cx w mg mb R s.heap) (H : NS w nm a cs st ts fs s.heap) (nd : (naddrs nm ++ saddrs a).Nodup) (r0 : ∀ x ∈ naddrs nm ++ saddrs a, R.get? x = none) (h0 : 0 ≤ at') (h1 : at' < cs.length) (hz : cs.length < 500) (hz1 : ts.length < 500) (hz2 : fs.length < 500)
    (hQ : ∀ h' tk' t, Kept [nm.tx, nm.an, nm.fx, nm.fn, a.hp] s.heap h' → RowsL h' t (spoil way at' cs ts fs).2.1 → NS w nm a (spoil way at' cs ts fs).1 st (spoil way at' cs ts fs).2.2.1 (spoil way at' cs ts fs).2.2.2 h' → Q (.ref t) { s with heap := h', toks := tk' }) :
    wpAny (model PySem.Challenge.rw_ok0022_01.row.prog w) (AA 600 6000) (call (.ref 435) [.ref a.S, .int way kw, .int at' ka, .ref nm.N]) Q E s := by
  refine' enterS (binds := [(Str.ofString "store", .ref a.S), (Str.ofString "way", .int way kw), (Str.ofString "at", .int at' ka), (Str.ofString "names", .ref nm.N)]) C ?k6 ?k7 ?k8 ?k9 ?kB [nm.tx, nm.an, nm.fx, nm.fn, a.hp] ?_ ?c2 ?c3 ?c4 ?c5
  case k6 => k_is
  case k7 => k_is
  case k8 => decide
  case k9 => exact BindsTo.of_eq rfl
  case kB => exact locs rfl
  case c2 => rfl
  case c3 => rfl
  case c4 => rfl
  case c5 => decide
  intro g L h₁ lst hL S gn X T F N
  have lt : ∀ {b : Addr} {o : Obj}, s.heap.get? b = some o → b ≠ L := fun e => hL ▸ Nat.ne_of_lt (Heap.lt_size e)
  have ah : AN g L nm a := ⟨nd, fun x hx => ⟨by
    obtain ⟨o, ho⟩ := (ns_word w).lv H x hx
    exact lt ho, gn x (r0 x hx)⟩⟩
  obtain ⟨hm2, hm3, hm4, hm5⟩ := ns_mem S H ah
  (try dsimp only)
  (try k_fold)
  repeat' ((fail_if_success (with_reducible show wpAny _ _ (pyIter _) _ _ _)); first | (k_unfold; (try dsimp only)) | walk1 | (dsimp only; walk1) | fail "no step")
  all_goals (try dsimp only)
  all_goals (first
    | (exfalso; omega)
    | exact sp_end1 hL (by assumption) (by assumption) (by assumption) (by assumption) ah (by simp [spoil, *]) hQ
    | exact sp_end0 hL (by assumption) (by assumption) (by assumption) (by assumption) ah (by simp [spoil, *]) hQ)
end
section
structure RS (w : World) (nm : NAd) (a : SAd) (cs st : List (Int × Int)) (ts : List Str) (fs : List (Int × Int)) (rl : Addr) (rows : List (Int × Str)) (h : Heap) : Prop where
  ns : NS w nm a cs st ts fs h
  rw : RowsL h rl rows
structure AR (g : Heap) (L : Addr) (nm : NAd) (a : SAd) (rl : Addr) : Prop where
  an : AN g L nm a
  ok : rl ≠ L ∧ g.get? rl = none
  nr : rl ∉ naddrs nm ++ saddrs a
theorem rs_word (w : World) {nm : NAd} {a : SAd} {cs st : List (Int × Int)} {ts : List Str} {fs : List (Int × Int)} {rl : Addr} {rows : List (Int × Str)} : Word (RS w nm a cs st ts fs rl rows) (rl :: (naddrs nm ++ saddrs a)) where
  st x k h nt := ⟨(ns_word w).st x.ns k (fun y hy m => h y hy (.tail _ m)) nt, x.rw.kept k (fun m => h _ m (.head _)) nt⟩
  lv x y hy := by
    rcases List.mem_cons.mp hy with rfl | hy
    · obtain ⟨_, _, e, _⟩ := x.rw; exact ⟨_, e⟩
    · exact (ns_word w).lv x.ns y hy
theorem AR.all {g : Heap} {L : Addr} {nm : NAd} {a : SAd} {rl : Addr} (x : AR g L nm a rl) : ∀ y ∈ rl :: (naddrs nm ++ saddrs a), y ≠ L ∧ g.get? y = none := fun y hy => by
  rcases List.mem_cons.mp hy with rfl | hy
  · exact x.ok
  · exact x.an.ok y hy
theorem AR.l0 {g : Heap} {L : Addr} {nm : NAd} {a : SAd} {rl : Addr} (x : AR g L nm a rl) : ∀ q ∈ [L], q ∉ rl :: (naddrs nm ++ saddrs a) := fun q hq m => (x.all q m).1 (List.mem_singleton.mp hq)
theorem rs_mem {w : World} {g h0 h : Heap} {L : Addr} {W : List Addr} {lst : List (Addr × Obj)} {nm : NAd} {a : SAd} {cs st : List (Int × Int)} {ts : List Str} {fs : List (Int × Int)} {rl : Addr} {rows : List (Int × Str)} (S : Gl g L W h0 h lst) (H : RS w nm a cs st ts fs rl rows h) (ah : AR g L nm a rl) :
    (a.S, instObj 374 a.dS) ∈ lst ∧ (a.dS, dictOf (stEs w.params a) a.n) ∈ lst ∧ (nm.N, instObj 154 nm.dN) ∈ lst ∧ (nm.dN, dictOf (nmEs w.params nm) nm.n) ∈ lst ∧ ∃ vs n, (rl, PySem.W.listOf (List.toArray vs) n) ∈ lst ∧ FRows h vs rows := by
  obtain ⟨h1, h2, h3, h4⟩ := ns_mem S H.ns ah.an
  obtain ⟨vs, n, e, r⟩ := H.rw
  exact ⟨h1, h2, h3, h4, vs, n, S.mem e ah.ok.1 ah.ok.2, r⟩
theorem frow_news {g h : Heap} {L D : Addr} {news : List (Addr × Obj)} {x : Int} {y : Str} {k1 k2 : Tok} {n : Nat} (N : News g L h news) (hD : (D, tupOf [.int x k1, .str y k2] n) ∈ news) : FRow h (.ref D) (x, y) := ⟨D, k1, k2, rfl, _, N.get hD, rfl, n, rfl⟩
theorem r_len {w : World} {g h0 hs : Heap} {L : Addr} {W : List Addr} {m : Str → Option Value} {news lst : List (Addr × Obj)} {A : Around} {s : Shared} {nm : NAd} {a : SAd} {cs st : List (Int × Int)} {ts : List Str} {fs : List (Int × Int)} {rl : Addr} {rows : List (Int × Str)} {Q E : Value → Shared → Prop}
    (F : Fr g L s.heap m) (N : News g L s.heap news) (S : Gl g L W h0 hs lst) (hl : ∀ p ∈ lst, p ∈ news) (H : RS w nm a cs st ts fs rl rows hs) (ah : AR g L nm a rl) (hz : cs.length < 10000)
    (h : Q (.int cs.length (s.toks + 1)) { s with toks := s.toks + 1 + 1 }) : wpAny (model PySem.Challenge.rw_ok0022_01.row.prog w) A (call (.builtin "len") [.ref a.hp]) Q E s := n_len F N S hl H.ns ah.an hz h
theorem r_set {w : World} {g h0 hs : Heap} {L : Addr} {W : List Addr} {m : Str → Option Value} {news lst : List (Addr × Obj)} {A : Around} {s : Shared} {nm : NAd} {a : SAd} {cs st : List (Int × Int)} {ts : List Str} {fs : List (Int × Int)} {rl : Addr} {rows : List (Int × Str)} {k : Int} {t : Tok} {v : Value} {c : Int × Int} {Q : Unit → Shared → Prop} {E : Value → Shared → Prop}
    (F : Fr g L s.heap m) (N : News g L s.heap news) (S : Gl g L W h0 hs lst) (hl : ∀ p ∈ lst, p ∈ news) (H : RS w nm a cs st ts fs rl rows hs) (ah : AR g L nm a rl) (hc : CellV s.heap v c) (k0 : 0 ≤ k) (k1 : k < cs.length) (hz : cs.length < 10000) (hW : a.hp ∈ W ∨ h0.get? a.hp = none)
    (hQ : ∀ h' lst', Fr g L h' m → News g L h' lst' → Gl g L W h0 h' lst' → RS w nm a (cs.set k.toNat c) st ts fs rl rows h' → Q () { s with heap := h' }) :
    wpAny (model PySem.Challenge.rw_ok0022_01.row.prog w) A (setItem (.ref a.hp) (.int k t) v) Q E s := by
  have H1 := (rs_word w).st H (S.kept F N hl) ah.l0 S.nt
  obtain ⟨vs, n, e, hv⟩ := H1.ns.sto.hp
  refine set_at e k0 (by rw [hv.1]; exact k1) (by rw [hv.1]; exact hz) fun h' kp e' => ?_
  have F' := fr_kept F kp (by simpa using (ah.an.ok a.hp (by simp)).2) (by simpa using (ah.an.ok a.hp (by simp)).1.symm)
  obtain ⟨lst', N', S'⟩ := glue F' (S.step F N hl kp (by simpa using hW))
  refine hQ _ _ F' N' S' ⟨⟨(names_word w nm ts fs).st H1.ns.nam kp (fun y hy m => ah.an.ns _ m _ (by rw [List.mem_singleton.mp hy]; simp) rfl) H1.ns.sto.hp.nt, ?_⟩, H1.rw.kept kp (fun m => ah.nr (by rw [List.mem_singleton.mp m]; simp)) H1.ns.sto.hp.nt⟩
  have x := H1.ns.sto
  exact ⟨⟨kp _ _ x.i.s (by simpa using ne_of_objs x.i.s e (by simp)), kp _ _ x.i.d (by simpa using ne_of_objs x.i.d e (by simp))⟩, ⟨_, _, e', cells_set (hv.kept kp x.hp.nt) (hc.kept kp x.hp.nt)⟩, x.sk.kept kp (by simpa using x.ne.symm) x.hp.nt, x.ne⟩
theorem r_append {w : World} {g h0 hs : Heap} {L : Addr} {W : List Addr} {m : Str → Option Value} {news lst : List (Addr × Obj)} {A : Around} {s : Shared} {nm : NAd} {a : SAd} {cs st : List (Int × Int)} {ts : List Str} {fs : List (Int × Int)} {rl : Addr} {rows : List (Int × Str)} {v : Value} {x : Int × Str} {Q E : Value → Shared → Prop}
    (F : Fr g L s.heap m) (N : News g L s.heap news) (S : Gl g L W h0 hs lst) (hl : ∀ p ∈ lst, p ∈ news) (H : RS w nm a cs st ts fs rl rows hs) (ah : AR g L nm a rl) (hv : FRow s.heap v x) (hz : rows.length < 10000) (hW : rl ∈ W ∨ h0.get? rl = none)
    (hQ : ∀ h' lst', Fr g L h' m → News g L h' lst' → Gl g L W h0 h' lst' → RS w nm a cs st ts fs rl (rows ++ [x]) h' → Q .none { s with heap := h' }) :
    wpAny (model PySem.Challenge.rw_ok0022_01.row.prog w) A (call (.builtin "list.append") [.ref rl, v]) Q E s := by
  have H1 := (rs_word w).st H (S.kept F N hl) ah.l0 S.nt
  obtain ⟨vs, n, e, hr⟩ := H1.rw
  refine append_at (hsz := by rw [sizeLine_eq, List.size_toArray, hr.len]; omega) e fun h' hs' e' => ?_
  have kp : Kept [rl] s.heap h' := fun b o q m => hs'.extBut b o (by simpa using m) q
  have F' := fr_kept F kp (by simpa using ah.ok.2) (by simpa using ah.ok.1.symm)
  obtain ⟨lst', N', S'⟩ := glue F' (S.step F N hl kp (by simpa using hW))
  refine hQ _ _ F' N' S' ⟨(ns_word w).st H1.ns kp (fun y hy m => ah.nr (by rw [List.mem_singleton.mp hy] at m; exact m)) H1.rw.nt, ⟨vs ++ [v], n + 1, ?_, (hr.kept kp H1.rw.nt).snoc ?_⟩⟩
  · rw [e']; simp
  · obtain ⟨r, k1, k2, q, t⟩ := hv
    exact ⟨r, k1, k2, q, isTup_kept kp H1.rw.nt t⟩
theorem r_pointers {w : World} {mg mb : Str → Option Value} {g h0 hs : Heap} {L : Addr} {W : List Addr} {m : Str → Option Value} {news lst : List (Addr × Obj)} {A : Around} {s : Shared} {nm : NAd} {a : SAd} {cs st : List (Int × Int)} {ts : List Str} {fs : List (Int × Int)} {rl : Addr} {rows : List (Int × Str)} {place : Int} {kp : Tok} {Q E : Value → Shared → Prop}
    (F : Fr g L s.heap m) (N : News g L s.heap news) (X : (frag.heap_1 w.params).In g) (T : TopRead vw (looseW vw [Str.ofString "VOID", Str.ofString "Store"]) mg mb g) (S : Gl g L W h0 hs lst) (hl : ∀ p ∈ lst, p ∈ news) (H : RS w nm a cs st ts fs rl rows hs) (ah : AR g L nm a rl) (hz : cs.length < 1000) (hh : A.handled = none) (hd : A.depth ≤ 800) (hu : A.units ≤ 8000)
    (hQ : ∀ h' tk' t vs, Fr g L h' m → News g L h' ((t, PySem.W.listOf (List.toArray vs) vs.length) :: news) → IntsAre vs (cells6 (fun k => decide (cAt cs k.toNat = (2, place))) cs.length) → (∀ p ∈ news, p.1 ≠ t) → Q (.ref t) { s with heap := h', toks := tk' }) :
    wpAny (model PySem.Challenge.rw_ok0022_01.row.prog w) A (call (.ref 428) [.ref a.S, .int place kp]) Q E s := by
  have H1 := (rs_word w).st H (S.kept F N hl) ah.l0 S.nt
  refine wp_big hh hd hu (pointers_spec (R := g) ⟨X, T, F.keep⟩ H1.ns.sto.i H1.ns.sto.hp hz fun h' tk' t vs kp f e hi => hQ h' tk' t vs (F.keeps kp.all) (news_add (lg := [(t, PySem.W.listOf (List.toArray vs) vs.length)]) F N kp fun p hp => by rw [List.mem_singleton.mp hp]; exact ⟨e, f⟩) hi fun p hp q => ?_)
  rw [← q, (N p hp).1] at f; cases f
theorem rs_start {w : World} {g hs h : Heap} {L rl : Addr} {W : List Addr} {m : Str → Option Value} {lst : List (Addr × Obj)} {nm : NAd} {a : SAd} {cs st : List (Int × Int)} {ts : List Str} {fs : List (Int × Int)} {n : Nat} (F : Fr g L h m) (N : News g L h ((rl, PySem.W.listOf #[] n) :: lst)) (S : Gl g L W hs hs lst) (H : NS w nm a cs st ts fs hs) (ah : AN g L nm a) (lx : ∀ p ∈ lst, p.1 < rl) :
    ∃ rl' lst', rl' = rl ∧ News g L h lst' ∧ Gl g L W hs h lst' ∧ RS w nm a cs st ts fs rl' [] h ∧ AR g L nm a rl' ∧ hs.get? rl' = none := by
  have z := N _ (.head _)
  have S1 := S.step F N (fun _ h => .tail _ h) (Kept.refl [] h) (fun _ q => nomatch q)
  obtain ⟨lst', N', S'⟩ := glue F S1
  have off : ∀ b o, hs.get? b = some o → b ≠ L → b ≠ rl := fun b o e hb q => by
    rcases S.sn b o e hb with y | y
    · rw [q, z.2.2] at y; cases y
    · exact Nat.lt_irrefl _ (q ▸ lx _ y)
  have nr : rl ∉ naddrs nm ++ saddrs a := fun q => by
    obtain ⟨o, ho⟩ := (ns_word w).lv H rl q
    exact off rl o ho z.2.1 rfl
  refine ⟨rl, lst', rfl, N', S', ⟨ns_now F N S (fun _ h => .tail _ h) H ah, rows_nil N⟩, ⟨ah, z.2, nr⟩, ?_⟩
  cases q : hs.get? rl with
  | none => rfl
  | some o => exact absurd rfl (off rl o q z.2.1)
noncomputable def ptrs (cs : List (Int × Int)) (place : Int) : List Int := cells6 (fun k => decide (cAt cs k.toNat = (2, place))) cs.length
noncomputable def fspoil (way place : Int) (cs : List (Int × Int)) : List (Int × Int) × List (Int × Str) :=
  if way = 0 then (cs.set place.toNat (4, 1), (ptrs cs place).map fun k => (k, Str.ofString "structure without a functor cell"))
  else (cs.set place.toNat (6, 0), (place, Str.ofString "list functor in a functor cell") :: (((ptrs (cs.set place.toNat (6, 0)) place).filter (fun _ => decide ((cs.length : Int) ≤ place + 2))).map fun k => (k, Str.ofString "structure beyond the heap")))
noncomputable def PP (w : World) (nm : NAd) (a : SAd) (cs st : List (Int × Int)) (ts : List Str) (fs : List (Int × Int)) (rl pl : Addr) (vs : List Value) (rows : List (Int × Str)) (h : Heap) : Prop := RS w nm a cs st ts fs rl rows h ∧ h.get? pl = some (PySem.W.listOf (List.toArray vs) vs.length)
theorem pp_word (w : World) {nm : NAd} {a : SAd} {cs st : List (Int × Int)} {ts : List Str} {fs : List (Int × Int)} {rl : Addr} {rows : List (Int × Str)} {pl : Addr} {vs : List Value} : Word (PP w nm a cs st ts fs rl pl vs rows) (pl :: rl :: (naddrs nm ++ saddrs a)) where
  st x k h nt := ⟨(rs_word w).st x.1 k (fun y hy m => h y hy (.tail _ m)) nt, k _ _ x.2 fun m => h _ m (.head _)⟩
  lv x y hy := by
    rcases List.mem_cons.mp hy with rfl | hy
    · exact ⟨_, x.2⟩
    · exact (rs_word w).lv x.1 y hy
theorem fs_end {w : World} {g hs h' : Heap} {s : Shared} {L rl : Addr} {m : Str → Option Value} {news lst : List (Addr × Obj)} {nm : NAd} {a : SAd} {cs st : List (Int × Int)} {ts : List Str} {fs : List (Int × Int)} {rows : List (Int × Str)} {cs' : List (Int × Int)} {way place : Int} {tk : Nat} {Q : Value → Shared → Prop} (hL : L = s.heap.objs.size)
    (F : Fr g L h' m) (N : News g L h' news) (S : Gl g L [a.hp] s.heap hs lst) (hl : ∀ p ∈ lst, p ∈ news) (H : RS w nm a cs' st ts fs rl rows hs) (ar : AR g L nm a rl) (e : fspoil way place cs = (cs', rows))
    (hQ : ∀ h' tk' t, Kept [a.hp] s.heap h' → RowsL h' t (fspoil way place cs).2 → NS w nm a (fspoil way place cs).1 st ts fs h' → Q (.ref t) { s with heap := h', toks := tk' }) : Q (.ref rl) { s with heap := h', toks := tk } := by
  rw [e] at hQ
  have H1 := (rs_word w).st H (S.kept F N hl) ar.l0 S.nt
  exact hQ _ _ _ (S.fin F N hl (hL ▸ get_size _)) H1.rw H1.ns
theorem ptrs_len (cs : List (Int × Int)) (place : Int) : (ptrs cs place).length ≤ cs.length := by
  unfold ptrs cells6
  exact Nat.le_trans (List.length_filter_le _ _) (by rw [rangeKs_length]; exact Nat.le_refl _)
local macro_rules | `(tactic| k_mem) => `(tactic| first | assumption | (refine' List.Mem.tail _ ?_; assumption) | (refine' List.Mem.tail _ (List.Mem.tail _ ?_); assumption) | (refine' List.Mem.tail _ (List.Mem.tail _ (List.Mem.tail _ ?_)); assumption))
local macro_rules | `(tactic| walk_at "call builtin:len") => `(tactic| (k_here; (with_reducible show wpAny _ _ (call (Value.builtin "len") [Value.ref _]) _ _ _); k_dflt (refine' r_len ?F ?N ?S ?l ?st ?ah ?z ?_; (case F | N => k_asm); (case S => assumption); (case l => kbd_text); (case st | ah => assumption); (case z => kfm_hd); k_whole)))
local macro_rules | `(tactic| walk_at "setItem ref int") => `(tactic| (k_here; (with_reducible show wpAny _ _ (setItem (Value.ref _) (Value.int _ _) (Value.ref _)) _ _ _); k_dflt (refine' r_set ?F ?N ?S ?l ?st ?ah ?c ?k0 ?k1 ?z ?w ?_; (case F | N => k_asm); (case S => assumption); (case l => kbd_text); (case st | ah => assumption); (case c => exact cell_news (by k_asm) (by k_mem)); (case k0 | k1 | z => kfm_hd); (case w => kby_none); k_whole); intro _ _ _ _ S' H'; obtain ⟨hm2, hm3, hm4, hm5, vr9, nr9, hm6, fr9⟩ := rs_mem S' H' (by assumption); k_sweep))
local macro_rules | `(tactic| walk_at "call builtin:list.append") => `(tactic| (k_here; (with_reducible show wpAny _ _ (call (Value.builtin _) [Value.ref _, _]) _ _ _); k_dflt (refine' r_append ?F ?N ?S ?l ?st ?ah ?c ?z ?w ?_; (case F | N => k_asm); (case S => assumption); (case l => kbd_text); (case st | ah => assumption); (case c => exact frow_news (by k_asm) (by k_mem)); (case z => kfm_hd); (case w => kby_none); k_whole); intro _ _ _ _ S' H'; obtain ⟨hm2, hm3, hm4, hm5, vr9, nr9, hm6, fr9⟩ := rs_mem S' H' (by assumption); k_sweep))
local macro_rules | `(tactic| walk_at "call ref") => `(tactic| (k_here; k_dflt (apply r_pointers; kbt_sums; assumption; kbd_text; assumption; assumption; kfm_hd; kbt_ne; k_whole); intro _ _ _ _ _ _ _ _; k_sweep))
theorem fspoiled_spec {w : World} {mg mb : Str → Option Value} {R : Heap} {s : Shared} {nm : NAd} {a : SAd} {cs st : List (Int × Int)} {ts : List Str} {fs : List (Int × Int)} {way place : Int} {kw kp : Tok} {Q E : Value → Shared → Prop}
    (C : Cx w mg mb R s.heap) (H : NS w nm a cs st ts fs s.heap) (nd : (naddrs nm ++ saddrs a).Nodup) (r0 : ∀ x ∈ naddrs nm ++ saddrs a, R.get? x = none) (h0 : 0 ≤ place) (h1 : place < cs.length) (hz : cs.length < 500)
    (hQ : ∀ h' tk' t, Kept [a.hp] s.heap h' → RowsL h' t (fspoil way place cs).2 → NS w nm a (fspoil way place cs).1 st ts fs h' → Q (.ref t) { s with heap := h', toks := tk' }) :
    wpAny (model PySem.Challenge.rw_ok0022_01.row.prog w) (AA 600 6000) (call (.ref 442) [.ref a.S, .int place kp, .int way kw]) Q E s := by
  refine' enterS (binds := [(Str.ofString "store", .ref a.S), (Str.ofString "place", .int place kp), (Str.ofString "way", .int way kw)]) C ?k6 ?k7 ?k8 ?k9 ?kB [a.hp] ?_ ?c2 ?c3 ?c4 ?c5
  case k6 => k_is
  case k7 => k_is
  case k8 => decide
  case k9 => exact BindsTo.of_eq rfl
  case kB => exact locs rfl
  case c2 => rfl
  case c3 => rfl
  case c4 => rfl
  case c5 => decide
  intro g L h₁ lst hL S gn X T F N
  have lt : ∀ {b : Addr} {o : Obj}, s.heap.get? b = some o → b ≠ L := fun e => hL ▸ Nat.ne_of_lt (Heap.lt_size e)
  have ah : AN g L nm a := ⟨nd, fun x hx => ⟨by
    obtain ⟨o, ho⟩ := (ns_word w).lv H x hx
    exact lt ho, gn x (r0 x hx)⟩⟩
  (try dsimp only)
  (try k_fold)
  repeat' ((fail_if_success (with_reducible show wpAny _ _ (execs (Stmt.If _ _ _ _ :: _) _) _ _ _)); first | (k_unfold; (try dsimp only)) | walk1 | (dsimp only; walk1) | fail "no step")
  rename Fr g L _ _ => Fx
  rename News g L _ _ => Nx
  rename ∀ p : Addr × Obj, p ∈ lst → @LT.lt Nat _ p.1 _ => lx
  obtain ⟨rl, lst9, erl, N9, S9, H9, ar, fr9⟩ := rs_start Fx Nx S (H := H) (ah := ah) lx
  subst erl
  clear Nx lx S
  have hr9 := rs_mem S9 H9 ar
  obtain ⟨hm2, hm3, hm4, hm5, vr9, nr9, hm6, fr8⟩ := hr9
  repeat' ((fail_if_success (with_reducible show wpAny _ _ (pyIter _) _ _ _)); first | (k_unfold; (try dsimp only)) | walk1 | (dsimp only; walk1) | fail "no step")

  · rename_i pl vs9 Fx Nx ints9 hne9
    obtain ⟨lst8, N8, S8⟩ := glue Fx (Gl.step (by assumption) Fx Nx (fun _ h => .tail _ h) (Kept.refl [] _) (fun _ q => nomatch q))
    have H8 : RS w nm a cs st ts fs rl _ _ := (rs_word w).st (by assumption) (Gl.kept (by assumption) Fx Nx (fun _ h => .tail _ h)) ar.l0 (Gl.nt (by assumption))
    have plr : pl ≠ rl := by
      intro q
      refine' hne9 (rl, _) _ q.symm
      rotate_left
      assumption
    have plL := (Nx _ (.head _)).2.1
    have hl9 : vs9.length = (ptrs cs place).length := ints9.length
    have hl8 := ptrs_len cs place
    refine' glue_loopL (W' := [rl]) [] (fun i h => PP w nm a cs st ts fs rl pl vs9 (((ptrs cs place).take i).map fun k => (k, Str.ofString "structure without a functor cell")) h) (as := pl :: rl :: (naddrs nm ++ saddrs a)) ?hh7 ?hll7 ?hlL7 ?hx7 ?F7 ?N7 ?S7 ?hl7 ?hP7 ?hw7 ?has7 ?hW7 ?turn7 ?done7
    case hh7 => rfl
    case hll7 => exact ⟨_, (Nx _ (.head _)).1, rfl, _, rfl⟩
    case hlL7 => exact (Nx _ (.head _)).2.1
    case hx7 => exact .inr ⟨_, .head _, fun i h H => H.2⟩
    case F7 => exact Fx
    case N7 => exact N8
    case S7 => exact S8
    case hl7 => exact fun _ h => h
    case hP7 => exact ⟨H8, (Nx _ (.head _)).1⟩
    case hw7 => exact fun i => pp_word w
    case has7 =>
      intro y hy
      rcases List.mem_cons.mp hy with rfl | hy
      · exact (Nx _ (.head _)).2
      · exact ar.all y hy
    case hW7 => (intro x hx; rw [List.mem_singleton.mp hx]; exact ⟨by simp, .inr fr9⟩)
    case turn7 =>
      intro i v u h tk lst hv H F N S
      replace F : Fr g L h _ := F
      replace N : News g L h _ := N
      replace S : Gl g L _ _ _ _ := S
      obtain ⟨hR, hT⟩ := H
      obtain ⟨k9, t9, rfl, hk9⟩ := ints9.at _ _ hv
      obtain ⟨hm2, hm3, hm4, hm5, vr7, nr7, hm6, fr7⟩ := rs_mem S hR ar
      have hlen : List.length (((ptrs cs place).take i).map fun k => (k, Str.ofString "structure without a functor cell")) ≤ 1000 := by simp only [List.length_map, List.length_take]; omega
      clear H8 N8 S8
      (try dsimp only)
      (try k_fold)
      repeat' ((fail_if_success (with_reducible show wpAny _ _ (pyIter _) _ _ _)); first | (k_unfold; (try dsimp only)) | walk1 | (dsimp only; walk1) | fail "no step")
      all_goals (try dsimp only)
      all_goals (rename Gl g L _ _ _ _ => Se)
      all_goals (rename RS _ _ _ _ _ _ _ _ _ _ => He)
      all_goals (rename Fr g L _ _ => Fe)
      all_goals (rename News g L _ _ => Ne)
      all_goals (refine gend Fe Ne Se (fun _ h => h) (by intro z h1 h2; simp only [List.contains_cons, List.contains_nil, Bool.or_false, Bool.or_eq_false_iff, beq_eq_false_iff_ne, ne_eq] at h2; simp [h1, h2]) ⟨?_, Se.kp _ _ hT fun m => (by
        simp only [List.mem_cons, List.not_mem_nil, or_false] at m
        rcases m with m | m
        · exact plL m
        · exact plr m)⟩)
      rw [take_snoc (xs := ptrs cs place) hk9, List.map_append]; exact He
    case done7 =>
      intro u h tk lst H F N S
      replace F : Fr g L h _ := F
      replace N : News g L h _ := N
      replace S : Gl g L _ _ _ _ := S
      obtain ⟨hR, hT⟩ := H
      obtain ⟨hm2, hm3, hm4, hm5, vr7, nr7, hm6, fr7⟩ := rs_mem S hR ar
      clear H8 N8 S8
      (try dsimp only)
      (try k_fold)
      repeat' ((fail_if_success (with_reducible show wpAny _ _ (pyIter _) _ _ _)); first | (k_unfold; (try dsimp only)) | walk1 | (dsimp only; walk1) | fail "no step")
      all_goals (try dsimp only)
      rename Gl g L _ _ _ _ => Se
      rename RS _ _ _ _ _ _ _ _ _ _ => He
      rename Fr g L _ _ => Fe
      rename News g L _ _ => Ne
      exact fs_end hL Fe Ne Se (fun _ h => h) He ar (by simp [fspoil, *]) hQ
  · rename_i pl vs9 Fx Nx ints9 hne9
    obtain ⟨lst8, N8, S8⟩ := glue Fx (Gl.step (by assumption) Fx Nx (fun _ h => .tail _ h) (Kept.refl [] _) (fun _ q => nomatch q))
    have H8 : RS w nm a (cs.set place.toNat (6, 0)) st ts fs rl _ _ := (rs_word w).st (by assumption) (Gl.kept (by assumption) Fx Nx (fun _ h => .tail _ h)) ar.l0 (Gl.nt (by assumption))
    have plr : pl ≠ rl := by
      intro q
      refine' hne9 (rl, _) _ q.symm
      rotate_left
      assumption
    have plL := (Nx _ (.head _)).2.1
    have hl9 : vs9.length = (ptrs (cs.set place.toNat (6, 0)) place).length := ints9.length
    have hl8 := ptrs_len (cs.set place.toNat (6, 0)) place
    refine' glue_loopL (W' := [rl]) [] (fun i h => PP w nm a (cs.set place.toNat (6, 0)) st ts fs rl pl vs9 ((place, Str.ofString "list functor in a functor cell") :: ((((ptrs (cs.set place.toNat (6, 0)) place).take i).filter (fun _ => decide ((cs.length : Int) ≤ place + 2))).map fun k => (k, Str.ofString "structure beyond the heap"))) h) (as := pl :: rl :: (naddrs nm ++ saddrs a)) ?hh8 ?hll8 ?hlL8 ?hx8 ?F8 ?N8 ?S8 ?hl8 ?hP8 ?hw8 ?has8 ?hW8 ?turn8 ?done8
    case hh8 => rfl
    case hll8 => exact ⟨_, (Nx _ (.head _)).1, rfl, _, rfl⟩
    case hlL8 => exact (Nx _ (.head _)).2.1
    case hx8 => exact .inr ⟨_, .head _, fun i h H => H.2⟩
    case F8 => exact Fx
    case N8 => exact N8
    case S8 => exact S8
    case hl8 => exact fun _ h => h
    case hP8 => exact ⟨H8, (Nx _ (.head _)).1⟩
    case hw8 => exact fun i => pp_word w
    case has8 =>
      intro y hy
      rcases List.mem_cons.mp hy with rfl | hy
      · exact (Nx _ (.head _)).2
      · exact ar.all y hy
    case hW8 => (intro x hx; rw [List.mem_singleton.mp hx]; exact ⟨by simp, .inr fr9⟩)
    case turn8 =>
      intro i v u h tk lst hv H F N S
      replace F : Fr g L h _ := F
      replace N : News g L h _ := N
      replace S : Gl g L _ _ _ _ := S
      obtain ⟨hR, hT⟩ := H
      obtain ⟨k9, t9, rfl, hk9⟩ := ints9.at _ _ hv
      obtain ⟨hm2, hm3, hm4, hm5, vr7, nr7, hm6, fr7⟩ := rs_mem S hR ar
      have hlen : List.length ((place, Str.ofString "list functor in a functor cell") :: ((((ptrs (cs.set place.toNat (6, 0)) place).take i).filter (fun _ => decide ((cs.length : Int) ≤ place + 2))).map fun k => (k, Str.ofString "structure beyond the heap"))) ≤ 1000 := by (have e9 : (cs.set place.toNat (6, 0)).length = cs.length := List.length_set ..); (have e8 := List.length_filter_le (fun _ => decide ((cs.length : Int) ≤ place + 2)) ((ptrs (cs.set place.toNat (6, 0)) place).take i)); (simp only [List.length_cons, List.length_map]); (rw [List.length_take] at e8); omega
      clear H8 N8 S8
      (try dsimp only)
      (try k_fold)
      repeat' ((fail_if_success (with_reducible show wpAny _ _ (pyIter _) _ _ _)); first | (k_unfold; (try dsimp only)) | walk1 | (dsimp only; walk1) | fail "no step")
      all_goals (try dsimp only)
      all_goals (rename Gl g L _ _ _ _ => Se)
      all_goals (rename RS _ _ _ _ _ _ _ _ _ _ => He)
      all_goals (rename Fr g L _ _ => Fe)
      all_goals (rename News g L _ _ => Ne)
      all_goals (refine gend Fe Ne Se (fun _ h => h) (by intro z h1 h2; simp only [List.contains_cons, List.contains_nil, Bool.or_false, Bool.or_eq_false_iff, beq_eq_false_iff_ne, ne_eq] at h2; simp [h1, h2]) ⟨?_, Se.kp _ _ hT fun m => (by
        simp only [List.mem_cons, List.not_mem_nil, or_false] at m
        rcases m with m | m
        · exact plL m
        · exact plr m)⟩)
      all_goals (rw [take_snoc (xs := ptrs (cs.set place.toNat (6, 0)) place) hk9, List.filter_append, List.map_append])
      all_goals (have e9 : (cs.set place.toNat (6, 0)).length = cs.length := List.length_set ..)
      · have c : (cs.length : Int) ≤ place + 2 := by omega
        rw [show List.filter (fun _ => decide ((cs.length : Int) ≤ place + 2)) [k9] = [k9] by simp [c]]
        exact He
      · have c : ¬ (cs.length : Int) ≤ place + 2 := by omega
        rw [show List.filter (fun _ => decide ((cs.length : Int) ≤ place + 2)) [k9] = [] by simp [c]]
        rw [List.map_nil, List.append_nil]
        exact He
    case done8 =>
      intro u h tk lst H F N S
      replace F : Fr g L h _ := F
      replace N : News g L h _ := N
      replace S : Gl g L _ _ _ _ := S
      obtain ⟨hR, hT⟩ := H
      obtain ⟨hm2, hm3, hm4, hm5, vr7, nr7, hm6, fr7⟩ := rs_mem S hR ar
      clear H8 N8 S8
      (try dsimp only)
      (try k_fold)
      repeat' ((fail_if_success (with_reducible show wpAny _ _ (pyIter _) _ _ _)); first | (k_unfold; (try dsimp only)) | walk1 | (dsimp only; walk1) | fail "no step")
      all_goals (try dsimp only)
      rename Gl g L _ _ _ _ => Se
      rename RS _ _ _ _ _ _ _ _ _ _ => He
      rename Fr g L _ _ => Fe
      rename News g L _ _ => Ne
      exact fs_end hL Fe Ne Se (fun _ h => h) He ar (by simp [fspoil, *]) hQ
end
section
local macro_rules | `(tactic| walk_at "WhlIf") => `(tactic| refine WhlIf.no (decide_eq_false (by omega)) ?_)
theorem put_spec {w : World} {mg mb : Str → Option Value} {R : Heap} {s : Shared} {a : SAd} {v : Value} {i : Int} {ki : Tok} {vs : List Value} {n : Nat} {Q E : Value → Shared → Prop}
    (C : Cx w mg mb R s.heap) (hS : StoreAt w s.heap a) (hl : s.heap.get? a.sk = some (PySem.W.listOf (List.toArray vs) n)) (hR : R.get? a.sk = none) (hz : vs.length < 1000) (hi : i = vs.length)
    (hQ : ∀ h' tk', Kept [a.sk] s.heap h' → h'.get? a.sk = some (PySem.W.listOf (List.toArray (vs ++ [v])) (n + 1)) → Q .none { s with heap := h', toks := tk' }) :
    wpAny (model PySem.Challenge.rw_ok0022_01.row.prog w) (AA 800 8000) (call (.ref 279) [.ref a.S, .int i ki, v]) Q E s := by
  refine' enter (mt := [(a.sk, PySem.W.listOf (List.toArray vs) n)]) (binds := [(Str.ofString "self", .ref a.S), (Str.ofString "i", .int i ki), (Str.ofString "value", v)]) C (fun p hp => by rw [List.mem_singleton.mp hp]; exact ⟨hl, hR⟩) ?k6 ?k7 ?k8 ?k9 ?kB ?_ ?c2 ?c3 ?c4 ?c5
  case k6 => k_is
  case k7 => k_is
  case k8 => decide
  case k9 => exact BindsTo.of_eq rfl
  case kB => exact locs rfl
  case c2 => rfl
  case c3 => rfl
  case c4 => rfl
  case c5 => decide
  intro g L h₁ en X T F N
  have hS1 := en.up _ _ hS.s (by simpa using ne_of_objs hS.s hl (by simp))
  have hS2 := en.up _ _ hS.d (by simpa using ne_of_objs hS.d hl (by simp))
  clear hS hl
  (try dsimp only)
  (try k_fold)
  repeat' ((fail_if_success (with_reducible show wpAny _ _ (pyIter _) _ _ _)); first | (k_unfold; (try dsimp only)) | walk1 | (dsimp only; walk1) | fail "no step")
  all_goals (try dsimp only)
  all_goals (rename Fr _ _ _ _ => Fe)
  all_goals (rename News _ _ _ _ => Ne)
  exact hQ _ _ (en.kept Fe) (Ne _ (.head _)).1
noncomputable def slotBad (st : List (Int × Int)) (n : Int) (k : Int) : Bool :=
  let c := cAt st k.toNat
  decide ((c.1 = 1 ∧ (c.2 < 0 ∨ k < c.2)) ∨ (c.1 ≠ 1 ∧ c.1 = 0 ∧ (c.2 < 0 ∨ n ≤ c.2)))
noncomputable def SlotJ (st : List (Int × Int)) (n : Int) (fl : Addr) (ks : List Int) (i : Nat) (nx : List (Addr × Obj)) : Prop :=
  ∃ vs k, nx = [(fl, PySem.W.listOf (List.toArray vs) k)] ∧ IntsAre vs ((ks.take i).filter (slotBad st n)) ∧ vs.length ≤ i
theorem slotJ_app {g h' : Heap} {L l : Addr} {m₀ m' : Str → Option Value} {st : List (Int × Int)} {n : Int} {ks : List Int} {i n0 n1 tk : Nat} {k : Int} {t : Tok} {vs : List Value} {own : List (Addr × Obj)} {x : Str} {stored : List Str} {s : Shared}
    (F : Fr g L h' m') (N : News g L h' ((l, PySem.W.listOf (List.toArray (vs ++ [.int k t])) n1) :: own)) (hf : IntsAre vs ((ks.take i).filter (slotBad st n))) (hv : vs.length ≤ i) (hk : ks[i]? = some k) (hb : slotBad st n k = true)
    (hm : ∀ z, z ≠ x → stored.contains z = false → m' z = m₀ z) (hoff : ∀ p ∈ own, ∀ q ∈ [(l, PySem.W.listOf (List.toArray vs) n0)], p.1 ≠ q.1) : TurnEnd g L x stored m₀ (SlotJ st n l ks (i + 1)) own s { s with heap := h', toks := tk } := by
  refine TurnEnd.intro (nx := [(l, PySem.W.listOf (List.toArray (vs ++ [.int k t])) n1)]) F N (fun p hp => by simpa using hp) hm (fun p hp q hq => ?_) ⟨_, n1, rfl, ?_, by simp; omega⟩
  · rw [List.mem_singleton.mp hq]; exact hoff p hp (l, PySem.W.listOf (List.toArray vs) n0) (.head _)
  · rw [take_snoc hk, List.filter_append, show List.filter (slotBad st n) [k] = [k] by simp [hb]]
    exact IntsAre.append hf (.cons k t .nil)
theorem slotJ_same {g h' : Heap} {L l : Addr} {m₀ m' : Str → Option Value} {st : List (Int × Int)} {n : Int} {ks : List Int} {i n0 n1 tk : Nat} {k : Int} {vs : List Value} {own : List (Addr × Obj)} {x : Str} {stored : List Str} {s : Shared}
    (F : Fr g L h' m') (N : News g L h' ((l, PySem.W.listOf (List.toArray vs) n1) :: own)) (hf : IntsAre vs ((ks.take i).filter (slotBad st n))) (hv : vs.length ≤ i) (hk : ks[i]? = some k) (hb : slotBad st n k = false)
    (hm : ∀ z, z ≠ x → stored.contains z = false → m' z = m₀ z) (hoff : ∀ p ∈ own, ∀ q ∈ [(l, PySem.W.listOf (List.toArray vs) n0)], p.1 ≠ q.1) : TurnEnd g L x stored m₀ (SlotJ st n l ks (i + 1)) own s { s with heap := h', toks := tk } := by
  refine TurnEnd.intro (nx := [(l, PySem.W.listOf (List.toArray vs) n1)]) F N (fun p hp => by simpa using hp) hm (fun p hp q hq => ?_) ⟨_, n1, rfl, ?_, by omega⟩
  · rw [List.mem_singleton.mp hq]; exact hoff p hp (l, PySem.W.listOf (List.toArray vs) n0) (.head _)
  · rw [take_snoc hk, List.filter_append, show List.filter (slotBad st n) [k] = [] by simp [hb], List.append_nil]
    exact hf
theorem slotJ0 {st : List (Int × Int)} {n : Int} {l : Addr} {ks : List Int} {k : Nat} : SlotJ st n l ks 0 [(l, PySem.W.listOf #[] k)] := ⟨[], k, rfl, .nil, Nat.le_refl _⟩
noncomputable def IntsOf (vs : List Value) (ks : List Int) : Prop := IntsAre vs ks
theorem IntsOf.at {vs : List Value} {ks : List Int} (h : IntsOf vs ks) (i : Nat) (v : Value) (e : vs[i]? = some v) : ∃ n t, v = .int n t ∧ ks[i]? = some n := IntsAre.at h i v e
theorem IntsOf.length {vs : List Value} {ks : List Int} (h : IntsOf vs ks) : vs.length = ks.length := IntsAre.length h
theorem stack_faults_spec {w : World} {mg mb : Str → Option Value} {R : Heap} {s : Shared} {a : SAd} {al : Addr} {vs rs us : List Value} {nu : Nat} {cs st : List (Int × Int)} {ks : List Int} {Q E : Value → Shared → Prop}
    (C : Cx w mg mb R s.heap) (hS : StoreAt w s.heap a) (hl : s.heap.IsList a.hp vs.toArray) (hc : CellsV s.heap vs cs) (hlf : s.heap.IsList a.sk rs.toArray) (hcf : CellsV s.heap rs st) (hal : s.heap.get? al = some (PySem.W.listOf (List.toArray us) nu)) (hks : IntsOf us ks)
    (hz : cs.length < 1000) (hzf : st.length < 1000) (hzk : ks.length < 1000) (hin : ∀ k ∈ ks, 0 ≤ k ∧ k < st.length)
    (hQ : ∀ h' tk' l ws n, Kept [] s.heap h' → s.heap.get? l = none → h'.get? l = some (PySem.W.listOf (List.toArray ws) n) → IntsAre ws (ks.filter (slotBad st cs.length)) → Q (.ref l) { s with heap := h', toks := tk' }) :
    wpAny (model PySem.Challenge.rw_ok0022_01.row.prog w) (AA 800 8000) (call (.ref 397) [.ref a.S, .ref al]) Q E s := by
  refine' enter (mt := []) (binds := [(Str.ofString "store", .ref a.S), (Str.ofString "slots", .ref al)]) C (fun _ h => nomatch h) ?k6 ?k7 ?k8 ?k9 ?kB ?_ ?c2 ?c3 ?c4 ?c5
  case k6 => k_is
  case k7 => k_is
  case k8 => decide
  case k9 => exact BindsTo.of_eq rfl
  case kB => exact locs rfl
  case c2 => rfl
  case c3 => rfl
  case c4 => rfl
  case c5 => decide
  intro g L h₁ en X T F N
  obtain ⟨hS1, hS2⟩ := hS.keeps en.up0
  have hl' := isList_keeps hl en.up0
  have hc' := hc.keeps en.up0
  have hlf' := isList_keeps hlf en.up0
  have hcf' := hcf.keeps en.up0
  have hal' := en.up0 _ _ hal
  have haL : al ≠ L := fun q => by have := Heap.lt_size hal; rw [q, en.sz] at this; exact Nat.lt_irrefl _ this
  clear hS hl hc hlf hcf
  (try dsimp only)
  (try k_fold)
  repeat' ((fail_if_success (with_reducible show wpAny _ _ (pyIter _) _ _ _)); first | (k_unfold; (try dsimp only)) | walk1 | (dsimp only; walk1) | fail "no step")
  rename IntsOf us ks => hks
  refine' list_loop (vs := us) [Str.ofString "tag", Str.ofString "value"] (SlotJ st cs.length _ ks) ?hh ?hll ?hlL ?hx ?F ?N ?hj ?turn ?done
  case hh => rfl
  case hll => (rename Fr g L _ _ => Fx; exact ⟨_, Fx.keep _ _ hal', rfl, _, rfl⟩)
  case hlL => exact haL
  case hx => exact .inl ⟨_, hal'⟩
  case F => assumption
  case N => assumption
  case hj => exact slotJ0
  case turn =>
    rintro i v u nx h tk own hv ⟨vs', n', rfl, hf, hvl⟩ hoff _ F N
    replace F : Fr g L h _ := F
    replace N : News g L h _ := N
    simp only [List.cons_append, List.nil_append] at N
    obtain ⟨k9, t9, rfl, hk9⟩ := hks.at _ _ hv
    have htlo : ∀ p ∈ own, p.1 ≠ _ := fun p hp => hoff p hp _ (.head _)
    have hin9 := hin _ (List.mem_of_getElem? hk9)
    have hlo9 := hin9.1
    have hhi9 := hin9.2
    have hi9 : i < ks.length := by
      rcases Nat.lt_or_ge i ks.length with h | h
      · exact h
      · rw [List.getElem?_eq_none h] at hk9; cases hk9
    (try dsimp only)
    (try k_fold)
    repeat' ((fail_if_success (with_reducible show wpAny _ _ (pyIter _) _ _ _)); first | (k_unfold; (try dsimp only)) | walk1 | (dsimp only; walk1) | fail "no step")
    all_goals (try dsimp only)
    all_goals (first
      | exact slotJ_app (by assumption) (by assumption) hf hvl hk9 (by show decide _ = true; exact decide_eq_true (by omega)) (by intro z h1 h2; simp only [List.contains_cons, List.contains_nil, Bool.or_false, Bool.or_eq_false_iff, beq_eq_false_iff_ne, ne_eq] at h2; simp [h1, h2]) hoff
      | exact slotJ_same (by assumption) (by assumption) hf hvl hk9 (by show decide _ = false; exact decide_eq_false (by omega)) (by intro z h1 h2; simp only [List.contains_cons, List.contains_nil, Bool.or_false, Bool.or_eq_false_iff, beq_eq_false_iff_ne, ne_eq] at h2; simp [h1, h2]) hoff)
  case done =>
    rintro u nx h tk ⟨vs', n', rfl, hf, hvl⟩ F N
    replace F : Fr g L h _ := F
    replace N : News g L h _ := N
    (try dsimp only)
    (try k_fold)
    repeat' ((fail_if_success (with_reducible show wpAny _ _ (pyIter _) _ _ _)); first | (k_unfold; (try dsimp only)) | walk1 | (dsimp only; walk1) | fail "no step")
    all_goals (try dsimp only)
    rw [hks.length, List.take_length] at hf
    exact hQ _ _ _ _ _ (en.kept0 F) (en.fresh N _ (.head _)).2 (N _ (.head _)).1 hf
end
section
variable {prog : Program} {w : World} {A : Around} {E : Value → Shared → Prop} {s : Shared} {a b : Addr} {as bs : List Addr} {ds es : List Dat} {Q : Value → Shared → Prop}
theorem dat_eqv (ha : ∀ d ∈ ds, kqdOk 8 d = true) (hb : ∀ d ∈ es, kqdOk 8 d = true) : PyData.eqv (.list (kqdPs ds)) (.list (kqdPs es)) = true ↔ ds = es := by
  have q := kqd_eqv 9 (.list ds) (.list es) 9 (by simpa [kqdOk] using ha) (by simpa [kqdOk] using hb)
  rwa [kqdP, kqdP, Dat.list.injEq] at q
theorem dat_shaped (ha : ∀ d ∈ ds, kqdOk 8 d = true) : SeqAt.shaped (.list (kqdPs ds)) = true := by
  have la := kqd_lay 9 (.list ds) (by simpa [kqdOk] using ha)
  rw [kqdP] at la
  unfold SeqAt.shaped; rw [la.1, Bool.true_and]; exact decide_eq_true (Nat.le_trans la.2 (by decide))
theorem eq_dat (ra : Reads s.heap (.ref a) (.list (kqdPs ds)) as) (rb : Reads s.heap (.ref b) (.list (kqdPs es)) bs) (ha : ∀ d ∈ ds, kqdOk 8 d = true) (hb : ∀ d ∈ es, kqdOk 8 d = true) (hu : A.units + 64 < cLine) (h : ∀ c : Bool, (c = true ↔ ds = es) → Q (.bool c) s) : wpAny (model prog w) A (compareOp .Eq (.ref a) (.ref b)) Q E s :=
  eq_dataH ra rb (dat_shaped ha) (dat_shaped hb) hu (h _ (dat_eqv ha hb))
theorem ne_dat (ra : Reads s.heap (.ref a) (.list (kqdPs ds)) as) (rb : Reads s.heap (.ref b) (.list (kqdPs es)) bs) (ha : ∀ d ∈ ds, kqdOk 8 d = true) (hb : ∀ d ∈ es, kqdOk 8 d = true) (hu : A.units + 64 < cLine) (h : ∀ c : Bool, (c = true ↔ ds = es) → Q (.bool (!c)) s) : wpAny (model prog w) A (compareOp .NotEq (.ref a) (.ref b)) Q E s :=
  ne_dataH ra rb (dat_shaped ha) (dat_shaped hb) hu (h _ (dat_eqv ha hb))
end
theorem ints_reads {h : Heap} : ∀ {vs : List Value} {ks : List Int}, IntsAre vs ks → ReadsAll h vs (kqdPs (ks.map Dat.int)) []
  | _, _, .nil => .nil
  | _, _, .cons i t r => .cons (Reads.int i t) (ints_reads r)
theorem ints_ok (ks : List Int) : ∀ d ∈ ks.map Dat.int, kqdOk 8 d = true := fun d hd => by
  obtain ⟨k, _, rfl⟩ := List.mem_map.mp hd
  rfl
noncomputable def IntL (h : Heap) (l : Addr) (ks : List Int) : Prop := ∃ vs n, h.get? l = some (PySem.W.listOf (List.toArray vs) n) ∧ IntsOf vs ks
theorem IntL.kept {h h' : Heap} {W : List Addr} {l : Addr} {ks : List Int} (x : IntL h l ks) (k : Kept W h h') (hl : l ∉ W) : IntL h' l ks := let ⟨vs, n, e, c⟩ := x; ⟨vs, n, k _ _ e hl, c⟩
theorem list_nt {h : Heap} {l : Addr} {vs : List Value} {n : Nat} (e : h.get? l = some (PySem.W.listOf (List.toArray vs) n)) : NT h [l] := fun q hq o ho _ => by
  rw [List.mem_singleton.mp hq, e] at ho
  cases ho
  intro e; exact absurd (PySem.Value.type.inj e) (by decide)
structure KS (w : World) (a : SAd) (cs st : List (Int × Int)) (rem asked wrong : List Int) (pu sc wl al : Addr) (h : Heap) : Prop where
  sto : StoreS w h a cs st
  pur : PurseS h pu sc rem
  wr : IntL h wl wrong
  ak : IntL h al asked
noncomputable abbrev kaddrs (a : SAd) (pu sc wl al : Addr) : List Addr := wl :: al :: (saddrs a ++ [pu, sc])
theorem ks_word (w : World) {a : SAd} {pu sc wl al : Addr} {cs st : List (Int × Int)} {rem asked wrong : List Int} : Word (KS w a cs st rem asked wrong pu sc wl al) (kaddrs a pu sc wl al) where
  st x k h nt := ⟨(store_word w a cs st).st x.sto k (fun y hy m => h y hy (.tail _ (.tail _ (List.mem_append.mpr (.inl m))))) nt, (purse_word pu sc rem).st x.pur k (fun y hy m => h y hy (.tail _ (.tail _ (List.mem_append.mpr (.inr m))))) nt, x.wr.kept k (fun m => h _ m (.head _)), x.ak.kept k (fun m => h _ m (.tail _ (.head _)))⟩
  lv x y hy := by
    rcases List.mem_cons.mp hy with rfl | hy
    · obtain ⟨_, _, e, _⟩ := x.wr; exact ⟨_, e⟩
    rcases List.mem_cons.mp hy with rfl | hy
    · obtain ⟨_, _, e, _⟩ := x.ak; exact ⟨_, e⟩
    exact (List.mem_append.mp hy).elim ((store_word w a cs st).lv x.sto y) ((purse_word pu sc rem).lv x.pur y)
structure AK (g : Heap) (L : Addr) (a : SAd) (pu sc wl al : Addr) : Prop where
  nd : (kaddrs a pu sc wl al).Nodup
  ok : ∀ x ∈ kaddrs a pu sc wl al, x ≠ L ∧ g.get? x = none
section
variable {g : Heap} {L : Addr} {a : SAd} {pu sc wl al : Addr}
theorem AK.l0 (x : AK g L a pu sc wl al) : ∀ q ∈ [L], q ∉ kaddrs a pu sc wl al := fun q hq m => (x.ok q m).1 (List.mem_singleton.mp hq)
theorem AK.w (x : AK g L a pu sc wl al) : wl ∉ al :: (saddrs a ++ [pu, sc]) := (List.nodup_cons.mp x.nd).1
theorem AK.b (x : AK g L a pu sc wl al) : al ∉ saddrs a ++ [pu, sc] := (List.nodup_cons.mp (List.nodup_cons.mp x.nd).2).1
theorem AK.sp (x : AK g L a pu sc wl al) : ∀ p ∈ saddrs a, ∀ q ∈ [pu, sc], p ≠ q := fun p hp q hq => (List.nodup_append.mp (List.nodup_cons.mp (List.nodup_cons.mp x.nd).2).2).2.2 p hp q hq
end
theorem ks_mem {w : World} {g h0 h : Heap} {L : Addr} {W : List Addr} {lst : List (Addr × Obj)} {a : SAd} {pu sc wl al : Addr} {cs st : List (Int × Int)} {rem asked wrong : List Int} (S : Gl g L W h0 h lst) (H : KS w a cs st rem asked wrong pu sc wl al h) (ah : AK g L a pu sc wl al) :
    (a.S, instObj 374 a.dS) ∈ lst ∧ (a.dS, dictOf (stEs w.params a) a.n) ∈ lst ∧ (∃ vs n, (wl, PySem.W.listOf (List.toArray vs) n) ∈ lst) ∧ (∃ vs n, (al, PySem.W.listOf (List.toArray vs) n) ∈ lst) := by
  obtain ⟨v1, n1, e1, _⟩ := H.wr
  obtain ⟨v2, n2, e2, _⟩ := H.ak
  exact ⟨S.mem H.sto.i.s (ah.ok _ (by simp)).1 (ah.ok _ (by simp)).2, S.mem H.sto.i.d (ah.ok _ (by simp)).1 (ah.ok _ (by simp)).2, ⟨v1, n1, S.mem e1 (ah.ok _ (by simp)).1 (ah.ok _ (by simp)).2⟩, ⟨v2, n2, S.mem e2 (ah.ok _ (by simp)).1 (ah.ok _ (by simp)).2⟩⟩
theorem k_take {w : World} {mg mb : Str → Option Value} {g h0 hs : Heap} {L : Addr} {W : List Addr} {m : Str → Option Value} {news lst : List (Addr × Obj)} {A : Around} {s : Shared} {a : SAd} {pu sc wl al : Addr} {cs st : List (Int × Int)} {rem asked wrong : List Int} {lim : Int} {kl : Tok} {Q E : Value → Shared → Prop}
    (F : Fr g L s.heap m) (N : News g L s.heap news) (X : (frag.heap_1 w.params).In g) (T : TopRead vw (looseW vw [Str.ofString "VOID", Str.ofString "Store"]) mg mb g) (S : Gl g L W h0 hs lst) (hl : ∀ p ∈ lst, p ∈ news) (H : KS w a cs st rem asked wrong pu sc wl al hs) (ah : AK g L a pu sc wl al) (hlim : 0 < lim) (hW : ∀ q ∈ [pu], q ∈ W ∨ h0.get? q = none) (hh : A.handled = none) (hd : A.depth ≤ 800) (hu : A.units ≤ 8000)
    (hQ : ∀ h' tk' t' lst', Fr g L h' m → News g L h' lst' → Gl g L W h0 h' lst' → KS w a cs st rem.tail asked wrong pu sc wl al h' → Q (.int (takeV rem lim) t') { s with heap := h', toks := tk' }) :
    wpAny (model PySem.Challenge.rw_ok0022_01.row.prog w) A (call (.ref 404) [.ref pu, .int lim kl]) Q E s := by
  have H1 := (ks_word w).st H (S.kept F N hl) ah.l0 S.nt
  refine wp_big hh hd hu (take_spec (R := g) ⟨X, T, F.keep⟩ H1.pur (ah.ok _ (by simp)).2 hlim fun h' tk' t' kp hP' => ?_)
  have F' := fr_kept F kp (by simpa using (ah.ok pu (by simp)).2) (by simpa using (ah.ok pu (by simp)).1.symm)
  obtain ⟨lst', N', S'⟩ := glue F' (S.step F N hl kp hW)
  exact hQ _ _ _ _ F' N' S' ⟨(store_word w a cs st).st H1.sto kp (fun y hy m => ah.sp _ m _ (by rw [List.mem_singleton.mp hy]; simp) rfl) H1.pur.nt, hP', H1.wr.kept kp (fun m => ah.w (by rw [List.mem_singleton.mp m]; simp)), H1.ak.kept kp (fun m => ah.b (by rw [List.mem_singleton.mp m]; simp))⟩
theorem k_put {w : World} {mg mb : Str → Option Value} {g h0 hs : Heap} {L : Addr} {W : List Addr} {m : Str → Option Value} {news lst : List (Addr × Obj)} {A : Around} {s : Shared} {a : SAd} {pu sc wl al : Addr} {cs st : List (Int × Int)} {rem asked wrong : List Int} {i : Int} {ki : Tok} {v : Value} {c : Int × Int} {Q E : Value → Shared → Prop}
    (F : Fr g L s.heap m) (N : News g L s.heap news) (X : (frag.heap_1 w.params).In g) (T : TopRead vw (looseW vw [Str.ofString "VOID", Str.ofString "Store"]) mg mb g) (S : Gl g L W h0 hs lst) (hl : ∀ p ∈ lst, p ∈ news) (H : KS w a cs st rem asked wrong pu sc wl al hs) (ah : AK g L a pu sc wl al) (hc : CellV s.heap v c) (hi : i = st.length) (hz : st.length < 1000) (hW : ∀ q ∈ [a.sk], q ∈ W ∨ h0.get? q = none) (hh : A.handled = none) (hd : A.depth ≤ 800) (hu : A.units ≤ 8000)
    (hQ : ∀ h' tk' lst', Fr g L h' m → News g L h' lst' → Gl g L W h0 h' lst' → KS w a cs (st ++ [c]) rem asked wrong pu sc wl al h' → Q .none { s with heap := h', toks := tk' }) :
    wpAny (model PySem.Challenge.rw_ok0022_01.row.prog w) A (call (.ref 279) [.ref a.S, .int i ki, v]) Q E s := by
  have H1 := (ks_word w).st H (S.kept F N hl) ah.l0 S.nt
  obtain ⟨vs, n, e, hv⟩ := H1.sto.sk
  refine wp_big hh hd hu (put_spec (R := g) ⟨X, T, F.keep⟩ H1.sto.i e (ah.ok _ (by simp)).2 (by rw [hv.1]; exact hz) (by rw [hv.1]; exact hi) fun h' tk' kp e' => ?_)
  have F' := fr_kept F kp (by simpa using (ah.ok a.sk (by simp)).2) (by simpa using (ah.ok a.sk (by simp)).1.symm)
  obtain ⟨lst', N', S'⟩ := glue F' (S.step F N hl kp hW)
  have nt := list_nt e
  have x := H1.sto
  refine hQ _ _ _ F' N' S' ⟨⟨⟨kp _ _ x.i.s (by simpa using ne_of_objs x.i.s e (by simp)), kp _ _ x.i.d (by simpa using ne_of_objs x.i.d e (by simp))⟩, x.hp.kept kp (by simpa using x.ne) nt, ⟨_, _, e', (hv.kept kp nt).snoc (hc.kept kp nt)⟩, x.ne⟩,
    (purse_word pu sc rem).st H1.pur kp (fun y hy m => ah.sp _ (by rw [List.mem_singleton.mp hy]; simp) _ m rfl) nt, H1.wr.kept kp (fun m => ah.w (by rw [List.mem_singleton.mp m]; simp)), H1.ak.kept kp (fun m => ah.b (by rw [List.mem_singleton.mp m]; simp))⟩
theorem k_len {w : World} {g h0 hs : Heap} {L : Addr} {W : List Addr} {m : Str → Option Value} {news lst : List (Addr × Obj)} {A : Around} {s : Shared} {a : SAd} {pu sc wl al : Addr} {cs st : List (Int × Int)} {rem asked wrong : List Int} {Q E : Value → Shared → Prop}
    (F : Fr g L s.heap m) (N : News g L s.heap news) (S : Gl g L W h0 hs lst) (hl : ∀ p ∈ lst, p ∈ news) (H : KS w a cs st rem asked wrong pu sc wl al hs) (ah : AK g L a pu sc wl al) (hz : cs.length < 10000)
    (h : Q (.int cs.length (s.toks + 1)) { s with toks := s.toks + 1 + 1 }) : wpAny (model PySem.Challenge.rw_ok0022_01.row.prog w) A (call (.builtin "len") [.ref a.hp]) Q E s := by
  obtain ⟨vs, n, e, hv⟩ := ((ks_word w).st H (S.kept F N hl) ah.l0 S.nt).sto.hp
  have e2 : vs.toArray.size = cs.length := by simp [hv.1]
  exact len_list (items := List.toArray vs) ⟨_, e, rfl, n, rfl⟩ (by rw [e2]; omega) (by rw [e2]; exact h)
theorem intL_app {h' : Heap} {l : Addr} {vs : List Value} {n : Nat} {ks : List Int} {k : Int} {t : Tok} (hv : IntsOf vs ks) (e : h'.get? l = some (PySem.W.listOf ((List.toArray vs).push (.int k t)) (n + 1))) : IntL h' l (ks ++ [k]) :=
  ⟨vs ++ [.int k t], n + 1, by rw [e]; simp, IntsAre.append hv (.cons k t .nil)⟩
theorem k_appW {w : World} {g h0 hs : Heap} {L : Addr} {W : List Addr} {m : Str → Option Value} {news lst : List (Addr × Obj)} {A : Around} {s : Shared} {a : SAd} {pu sc wl al : Addr} {cs st : List (Int × Int)} {rem asked wrong : List Int} {k : Int} {t : Tok} {Q E : Value → Shared → Prop}
    (F : Fr g L s.heap m) (N : News g L s.heap news) (S : Gl g L W h0 hs lst) (hl : ∀ p ∈ lst, p ∈ news) (H : KS w a cs st rem asked wrong pu sc wl al hs) (ah : AK g L a pu sc wl al) (hz : wrong.length < 1000) (hW : wl ∈ W ∨ h0.get? wl = none)
    (hQ : ∀ h' lst', Fr g L h' m → News g L h' lst' → Gl g L W h0 h' lst' → KS w a cs st rem asked (wrong ++ [k]) pu sc wl al h' → Q .none { s with heap := h' }) :
    wpAny (model PySem.Challenge.rw_ok0022_01.row.prog w) A (call (.builtin "list.append") [.ref wl, .int k t]) Q E s := by
  have H1 := (ks_word w).st H (S.kept F N hl) ah.l0 S.nt
  obtain ⟨vs, n, e, hr⟩ := H1.wr
  refine append_at (hsz := by rw [sizeLine_eq, List.size_toArray, hr.length]; omega) e fun h' hs' e' => ?_
  have kp : Kept [wl] s.heap h' := fun b o q m => hs'.extBut b o (by simpa using m) q
  have F' := fr_kept F kp (by simpa using (ah.ok wl (by simp)).2) (by simpa using (ah.ok wl (by simp)).1.symm)
  obtain ⟨lst', N', S'⟩ := glue F' (S.step F N hl kp (by simpa using hW))
  have aw := ah.w
  refine hQ _ _ F' N' S' ⟨(store_word w a cs st).st H1.sto kp (fun y hy m => aw (by rw [List.mem_singleton.mp hy] at m; exact .tail _ (List.mem_append.mpr (.inl m)))) (list_nt e), (purse_word pu sc rem).st H1.pur kp (fun y hy m => aw (by rw [List.mem_singleton.mp hy] at m; exact .tail _ (List.mem_append.mpr (.inr m)))) (list_nt e), intL_app hr e', H1.ak.kept kp (fun m => aw (by rw [List.mem_singleton.mp m]; simp))⟩
theorem k_appA {w : World} {g h0 hs : Heap} {L : Addr} {W : List Addr} {m : Str → Option Value} {news lst : List (Addr × Obj)} {A : Around} {s : Shared} {a : SAd} {pu sc wl al : Addr} {cs st : List (Int × Int)} {rem asked wrong : List Int} {k : Int} {t : Tok} {Q E : Value → Shared → Prop}
    (F : Fr g L s.heap m) (N : News g L s.heap news) (S : Gl g L W h0 hs lst) (hl : ∀ p ∈ lst, p ∈ news) (H : KS w a cs st rem asked wrong pu sc wl al hs) (ah : AK g L a pu sc wl al) (hz : asked.length < 1000) (hW : al ∈ W ∨ h0.get? al = none)
    (hQ : ∀ h' lst', Fr g L h' m → News g L h' lst' → Gl g L W h0 h' lst' → KS w a cs st rem (asked ++ [k]) wrong pu sc wl al h' → Q .none { s with heap := h' }) :
    wpAny (model PySem.Challenge.rw_ok0022_01.row.prog w) A (call (.builtin "list.append") [.ref al, .int k t]) Q E s := by
  have H1 := (ks_word w).st H (S.kept F N hl) ah.l0 S.nt
  obtain ⟨vs, n, e, hr⟩ := H1.ak
  refine append_at (hsz := by rw [sizeLine_eq, List.size_toArray, hr.length]; omega) e fun h' hs' e' => ?_
  have kp : Kept [al] s.heap h' := fun b o q m => hs'.extBut b o (by simpa using m) q
  have F' := fr_kept F kp (by simpa using (ah.ok al (by simp)).2) (by simpa using (ah.ok al (by simp)).1.symm)
  obtain ⟨lst', N', S'⟩ := glue F' (S.step F N hl kp (by simpa using hW))
  have aw := ah.b
  refine hQ _ _ F' N' S' ⟨(store_word w a cs st).st H1.sto kp (fun y hy m => aw (by rw [List.mem_singleton.mp hy] at m; exact List.mem_append.mpr (.inl m))) (list_nt e), (purse_word pu sc rem).st H1.pur kp (fun y hy m => aw (by rw [List.mem_singleton.mp hy] at m; exact List.mem_append.mpr (.inr m))) (list_nt e), H1.wr.kept kp (fun m => ah.w (by rw [List.mem_singleton.mp m]; simp)), intL_app hr e'⟩
theorem k_faults {w : World} {mg mb : Str → Option Value} {g h0 hs : Heap} {L : Addr} {W : List Addr} {m : Str → Option Value} {news lst : List (Addr × Obj)} {A : Around} {s : Shared} {a : SAd} {pu sc wl al : Addr} {cs st : List (Int × Int)} {rem asked wrong : List Int} {Q E : Value → Shared → Prop}
    (F : Fr g L s.heap m) (N : News g L s.heap news) (X : (frag.heap_1 w.params).In g) (T : TopRead vw (looseW vw [Str.ofString "VOID", Str.ofString "Store"]) mg mb g) (S : Gl g L W h0 hs lst) (hl : ∀ p ∈ lst, p ∈ news) (H : KS w a cs st rem asked wrong pu sc wl al hs) (ah : AK g L a pu sc wl al) (hz : cs.length < 1000) (hz2 : st.length < 1000) (hz3 : asked.length < 1000) (hin : ∀ k ∈ asked, 0 ≤ k ∧ k < st.length) (hh : A.handled = none) (hd : A.depth ≤ 800) (hu : A.units ≤ 8000)
    (hQ : ∀ h' tk' t ws n, Fr g L h' m → News g L h' ((t, PySem.W.listOf (List.toArray ws) n) :: news) → IntsOf ws (asked.filter (slotBad st cs.length)) → Q (.ref t) { s with heap := h', toks := tk' }) :
    wpAny (model PySem.Challenge.rw_ok0022_01.row.prog w) A (call (.ref 397) [.ref a.S, .ref al]) Q E s := by
  have H1 := (ks_word w).st H (S.kept F N hl) ah.l0 S.nt
  obtain ⟨v1, n1, e1, c1⟩ := H1.sto.hp
  obtain ⟨v2, n2, e2, c2⟩ := H1.sto.sk
  obtain ⟨v3, n3, e3, c3⟩ := H1.ak
  exact wp_big hh hd hu (stack_faults_spec (R := g) ⟨X, T, F.keep⟩ H1.sto.i ⟨_, e1, rfl, _, rfl⟩ c1 ⟨_, e2, rfl, _, rfl⟩ c2 e3 c3 hz hz2 hz3 hin fun h' tk' t ws n kp f e hi => hQ h' tk' t ws n (F.keeps kp.all) (news_add (lg := [(t, PySem.W.listOf (List.toArray ws) n)]) F N kp fun p hp => by rw [List.mem_singleton.mp hp]; exact ⟨e, f⟩) hi)
theorem k_eq {w : World} {g h0 hs : Heap} {L : Addr} {W : List Addr} {m : Str → Option Value} {news lst : List (Addr × Obj)} {A : Around} {s : Shared} {a : SAd} {pu sc wl al : Addr} {cs st : List (Int × Int)} {rem asked wrong : List Int} {t : Addr} {ws : List Value} {n : Nat} {Q E : Value → Shared → Prop}
    (F : Fr g L s.heap m) (N : News g L s.heap news) (S : Gl g L W h0 hs lst) (hl : ∀ p ∈ lst, p ∈ news) (H : KS w a cs st rem asked wrong pu sc wl al hs) (ah : AK g L a pu sc wl al) (hm : (t, PySem.W.listOf (List.toArray ws) n) ∈ news) (hi : IntsOf ws (asked.filter (slotBad st cs.length))) (hw : wrong = asked.filter (slotBad st cs.length)) (hu : A.units + 64 < cLine)
    (hQ : Q (.bool true) s) : wpAny (model PySem.Challenge.rw_ok0022_01.row.prog w) A (compareOp .Eq (.ref t) (.ref wl)) Q E s := by
  have H1 := (ks_word w).st H (S.kept F N hl) ah.l0 S.nt
  obtain ⟨v1, n1, e1, c1⟩ := H1.wr
  refine eq_dat (reads_list_at (N.get hm) rfl rfl (by simpa using ints_reads hi)) (reads_list_at e1 rfl rfl (by simpa using ints_reads c1)) (ints_ok _) (ints_ok _) hu fun c hc => ?_
  rw [hc.mpr (by rw [hw])]
  exact hQ
theorem k_start {w : World} {g hs h : Heap} {L wl al : Addr} {W : List Addr} {m : Str → Option Value} {lst : List (Addr × Obj)} {a : SAd} {pu sc : Addr} {cs st : List (Int × Int)} {rem : List Int} {n1 n2 : Nat} (F : Fr g L h m) (N : News g L h ((al, PySem.W.listOf #[] n1) :: (wl, PySem.W.listOf #[] n2) :: lst)) (S : Gl g L W hs hs lst)
    (HS : StoreS w hs a cs st) (HP : PurseS hs pu sc rem) (nd : (saddrs a ++ [pu, sc]).Nodup) (ok : ∀ x ∈ saddrs a ++ [pu, sc], x ≠ L ∧ g.get? x = none) (lx : ∀ p ∈ lst, p.1 < wl) (lx2 : @LT.lt Nat _ wl al) :
    ∃ wl' al' lst', wl' = wl ∧ al' = al ∧ News g L h lst' ∧ Gl g L W hs h lst' ∧ KS w a cs st rem [] [] pu sc wl' al' h ∧ AK g L a pu sc wl' al' ∧ hs.get? wl' = none ∧ hs.get? al' = none := by
  have z1 := N _ (.head _)
  have z2 := N _ (.tail _ (.head _))
  have S1 := S.step F N (fun _ h => .tail _ (.tail _ h)) (Kept.refl [] h) (fun _ q => nomatch q)
  obtain ⟨lst', N', S'⟩ := glue F S1
  have lo : ∀ b o, hs.get? b = some o → b ≠ L → g.get? b = none → b < wl := fun b o e hb q => by
    rcases S.sn b o e hb with y | y
    · rw [q] at y; cases y
    · exact lx _ y
  have k0 : Kept [L] hs h := S.kept F N (fun _ h => .tail _ (.tail _ h))
  have l0 : ∀ q ∈ [L], q ∉ saddrs a ++ [pu, sc] := fun q hq m => (ok q m).1 (List.mem_singleton.mp hq)
  have lv : ∀ x ∈ saddrs a ++ [pu, sc], x < wl := fun x hx => by
    obtain ⟨o, ho⟩ := (List.mem_append.mp hx).elim ((store_word w a cs st).lv HS x) ((purse_word pu sc rem).lv HP x)
    exact lo x o ho (ok x hx).1 (ok x hx).2
  have fr : ∀ x, @LE.le Nat _ wl x → x ≠ L → g.get? x = none → hs.get? x = none := fun x hx hL hg => by
    cases q : hs.get? x with
    | none => rfl
    | some o => exact absurd (lo x o q hL hg) (Nat.not_lt.mpr hx)
  refine ⟨wl, al, lst', rfl, rfl, N', S', ⟨(store_word w a cs st).st HS k0 (fun y hy m => l0 y hy (List.mem_append.mpr (.inl m))) S.nt, (purse_word pu sc rem).st HP k0 (fun y hy m => l0 y hy (List.mem_append.mpr (.inr m))) S.nt, ⟨[], _, z2.1, .nil⟩, ⟨[], _, z1.1, .nil⟩⟩, ⟨?_, fun x hx => ?_⟩, fr wl (Nat.le_refl _) z2.2.1 z2.2.2, fr al (Nat.le_of_lt lx2) z1.2.1 z1.2.2⟩
  · refine List.nodup_cons.mpr ⟨fun q => ?_, List.nodup_cons.mpr ⟨fun q => ?_, nd⟩⟩
    · rcases List.mem_cons.mp q with q | q
      · exact Nat.lt_irrefl _ (q ▸ lx2)
      · exact Nat.lt_irrefl _ (lv _ q)
    · exact absurd (lv _ q) (Nat.not_lt.mpr (Nat.le_of_lt lx2))
  · rcases List.mem_cons.mp hx with rfl | hx
    · exact z2.2
    rcases List.mem_cons.mp hx with rfl | hx
    · exact z1.2
    · exact ok x hx
section
theorem pick6 {w : World} {A : Around} {s : Shared} {g : Heap} {L l D1 D2 D3 D4 D5 D6 : Addr} {news : List (Addr × Obj)} {n n1 n2 n3 n4 n5 n6 : Nat} {x1 y1 x2 y2 x3 y3 x4 y4 x5 y5 x6 y6 : Int} {a1 b1 a2 b2 a3 b3 a4 b4 a5 b5 a6 b6 : Tok} {value slice : PySem.Expr} {k : Int} {u : Tok} {Q E : Value → Shared → Prop} (N : News g L s.heap news)
    (hm : (l, PySem.W.listOf #[.ref D1, .ref D2, .ref D3, .ref D4, .ref D5, .ref D6] n) ∈ news) (m1 : (D1, tupOf [.int x1 a1, .int y1 b1] n1) ∈ news) (m2 : (D2, tupOf [.int x2 a2, .int y2 b2] n2) ∈ news) (m3 : (D3, tupOf [.int x3 a3, .int y3 b3] n3) ∈ news) (m4 : (D4, tupOf [.int x4 a4, .int y4 b4] n4) ∈ news) (m5 : (D5, tupOf [.int x5 a5, .int y5 b5] n5) ∈ news) (m6 : (D6, tupOf [.int x6 a6, .int y6 b6] n6) ∈ news)
    (k0 : 0 ≤ k) (k6 : k < 6)
    (h : ∀ r t1 t2 n, (r, tupOf [.int (cAt [(x1, y1), (x2, y2), (x3, y3), (x4, y4), (x5, y5), (x6, y6)] k.toNat).1 t1, .int (cAt [(x1, y1), (x2, y2), (x3, y3), (x4, y4), (x5, y5), (x6, y6)] k.toNat).2 t2] n) ∈ news → Q (.ref r) s)
    (hs : subscripted slice false (.ref l) (.int k u) = operate [.ref l, .int k u] (getItem (.ref l) (.int k u)) := by with_unfolding_all rfl) : wpAny (model PySem.Challenge.rw_ok0022_01.row.prog w) A (subscriptTail value slice (.ref l) (.int k u)) Q E s := by
  have hl : s.heap.IsList l (List.toArray [.ref D1, .ref D2, .ref D3, .ref D4, .ref D5, .ref D6]) := ⟨_, N.get hm, rfl, n, rfl⟩
  have key : ∀ (j : Nat) (r : Addr), [Value.ref D1, .ref D2, .ref D3, .ref D4, .ref D5, .ref D6][j]? = some (.ref r) → k = j → (∃ t1 t2 n, (r, tupOf [.int (cAt [(x1, y1), (x2, y2), (x3, y3), (x4, y4), (x5, y5), (x6, y6)] k.toNat).1 t1, .int (cAt [(x1, y1), (x2, y2), (x3, y3), (x4, y4), (x5, y5), (x6, y6)] k.toNat).2 t2] n) ∈ news) → wpAny (model PySem.Challenge.rw_ok0022_01.row.prog w) A (subscriptTail value slice (.ref l) (.int k u)) Q E s := fun j r e ek ⟨t1, t2, n', hm'⟩ => by
    refine tail_any hl.typeIs slot_list_getitem.lookup (wpAny_getItem_list hl k0 (by omega) ?_ (h r t1 t2 n' hm')) hs
    rw [ek]
    simpa using e
  have c : k = 0 ∨ k = 1 ∨ k = 2 ∨ k = 3 ∨ k = 4 ∨ k = 5 := by omega
  rcases c with rfl | rfl | rfl | rfl | rfl | rfl
  · exact key 0 D1 rfl rfl ⟨_, _, _, m1⟩
  · exact key 1 D2 rfl rfl ⟨_, _, _, m2⟩
  · exact key 2 D3 rfl rfl ⟨_, _, _, m3⟩
  · exact key 3 D4 rfl rfl ⟨_, _, _, m4⟩
  · exact key 4 D5 rfl rfl ⟨_, _, _, m5⟩
  · exact key 5 D6 rfl rfl ⟨_, _, _, m6⟩
theorem slotBad_snoc {st : List (Int × Int)} {c : Int × Int} {n k : Int} (h0 : 0 ≤ k) (h : k < st.length) : slotBad (st ++ [c]) n k = slotBad st n k := by
  unfold slotBad cAt
  rw [List.getD_eq_getElem?_getD, List.getD_eq_getElem?_getD, List.getElem?_append_left (by omega)]
theorem filter_snoc {st : List (Int × Int)} {c : Int × Int} {n : Int} {ks : List Int} (h : ∀ k ∈ ks, 0 ≤ k ∧ k < st.length) : ks.filter (slotBad (st ++ [c]) n) = ks.filter (slotBad st n) :=
  List.filter_congr fun k hk => slotBad_snoc (h k hk).1 (h k hk).2
theorem slotBad_last {st : List (Int × Int)} {c : Int × Int} {n : Int} : slotBad (st ++ [c]) n (st.length : Int) = decide ((c.1 = 1 ∧ (c.2 < 0 ∨ (st.length : Int) < c.2)) ∨ (c.1 ≠ 1 ∧ c.1 = 0 ∧ (c.2 < 0 ∨ n ≤ c.2))) := by
  unfold slotBad cAt
  simp
noncomputable def KP (w : World) (a : SAd) (cs : List (Int × Int)) (pu sc wl al : Addr) (i : Nat) (h : Heap) : Prop :=
  ∃ st rem asked wrong, KS w a cs st rem asked wrong pu sc wl al h ∧ st.length = i ∧ (∀ k ∈ asked, 0 ≤ k ∧ k < st.length) ∧ wrong = asked.filter (slotBad st cs.length) ∧ asked.length ≤ i ∧ wrong.length ≤ i
noncomputable def cell6 (i n way : Int) : Int × Int := cAt [(1, i), (1, 0), (0, 0), (1, i + 1), (1, -1), (0, n)] way.toNat
theorem bad6 {st : List (Int × Int)} {i : Nat} {n way : Int} (hi : st.length = i) (h0 : 0 ≤ way) (h6 : way < 6) (hn : 0 < n) : slotBad (st ++ [cell6 i n way]) n (i : Int) = decide (2 < way) := by
  subst hi
  rw [slotBad_last]
  have c : way = 0 ∨ way = 1 ∨ way = 2 ∨ way = 3 ∨ way = 4 ∨ way = 5 := by omega
  rcases c with rfl | rfl | rfl | rfl | rfl | rfl
  · exact decide_eq_decide.mpr ⟨fun h => by simp [cell6, cAt] at h; omega, fun h => by omega⟩
  · exact decide_eq_decide.mpr ⟨fun h => by simp [cell6, cAt] at h; omega, fun h => by omega⟩
  · exact decide_eq_decide.mpr ⟨fun h => by simp [cell6, cAt] at h; omega, fun h => by omega⟩
  · exact decide_eq_decide.mpr ⟨fun h => by omega, fun h => by simp [cell6, cAt]; omega⟩
  · exact decide_eq_decide.mpr ⟨fun h => by omega, fun h => by simp [cell6, cAt]⟩
  · exact decide_eq_decide.mpr ⟨fun h => by omega, fun h => by simp [cell6, cAt]⟩
section
variable {w : World} {h : Heap} {a : SAd} {cs st : List (Int × Int)} {rem asked wrong : List Int} {pu sc wl al : Addr} {i : Nat} {way : Int}
theorem in_next {c : Int × Int} (hst : st.length = i) (hin : ∀ k ∈ asked, 0 ≤ k ∧ k < st.length) : ∀ k ∈ asked ++ [(i : Int)], 0 ≤ k ∧ k < ((st ++ [c]).length : Nat) := fun k hk => by
  rw [List.length_append, List.length_singleton]
  rcases List.mem_append.mp hk with q | q
  · have := hin k q; omega
  · rw [List.mem_singleton.mp q]; omega
theorem kp1 (H : KS w a cs (st ++ [cell6 i cs.length way]) rem (asked ++ [(i : Int)]) (wrong ++ [(i : Int)]) pu sc wl al h) (hst : st.length = i) (hin : ∀ k ∈ asked, 0 ≤ k ∧ k < st.length) (hwr : wrong = asked.filter (slotBad st cs.length)) (hla : asked.length ≤ i) (hlw : wrong.length ≤ i)
    (h0 : 0 ≤ way) (h6 : way < 6) (hn : 0 < cs.length) (hw : 2 < way) : KP w a cs pu sc wl al (i + 1) h :=
  ⟨_, _, _, _, H, by simp [hst], in_next hst hin, by rw [List.filter_append, filter_snoc hin, ← hwr, List.filter_cons, bad6 hst h0 h6 (by omega), decide_eq_true hw]; rfl, by simp; omega, by simp; omega⟩
theorem kp2 (H : KS w a cs (st ++ [cell6 i cs.length way]) rem (asked ++ [(i : Int)]) wrong pu sc wl al h) (hst : st.length = i) (hin : ∀ k ∈ asked, 0 ≤ k ∧ k < st.length) (hwr : wrong = asked.filter (slotBad st cs.length)) (hla : asked.length ≤ i) (hlw : wrong.length ≤ i)
    (h0 : 0 ≤ way) (h6 : way < 6) (hn : 0 < cs.length) (hw : ¬ 2 < way) : KP w a cs pu sc wl al (i + 1) h :=
  ⟨_, _, _, _, H, by simp [hst], in_next hst hin, by rw [List.filter_append, filter_snoc hin, ← hwr, List.filter_cons, bad6 hst h0 h6 (by omega), decide_eq_false hw]; simp, by simp; omega, by omega⟩
theorem kp3 {c : Int × Int} (H : KS w a cs (st ++ [c]) rem asked wrong pu sc wl al h) (hst : st.length = i) (hin : ∀ k ∈ asked, 0 ≤ k ∧ k < st.length) (hwr : wrong = asked.filter (slotBad st cs.length)) (hla : asked.length ≤ i) (hlw : wrong.length ≤ i) : KP w a cs pu sc wl al (i + 1) h :=
  ⟨_, _, _, _, H, by simp [hst], fun k hk => by have := hin k hk; rw [List.length_append, List.length_singleton]; omega, by rw [filter_snoc hin]; exact hwr, by omega, by omega⟩
end
theorem kp_word (w : World) {a : SAd} {cs : List (Int × Int)} {pu sc wl al : Addr} (i : Nat) : Word (KP w a cs pu sc wl al i) (kaddrs a pu sc wl al) where
  st x k h nt := let ⟨st, rem, asked, wrong, H, r⟩ := x; ⟨st, rem, asked, wrong, (ks_word w).st H k h nt, r⟩
  lv x := let ⟨_, _, _, _, H, _⟩ := x; (ks_word w).lv H
local macro_rules | `(tactic| k_mem) => `(tactic| first | exact List.Mem.head _ | assumption | (refine' List.Mem.tail _ ?_; k_mem))
local macro_rules | `(tactic| walk_at "call builtin:len") => `(tactic| (k_here; (with_reducible show wpAny _ _ (call (Value.builtin "len") [Value.ref _]) _ _ _); k_dflt (refine' k_len ?F ?N ?S ?l ?st ?ah ?z ?_; (case F | N => k_asm); (case S => assumption); (case l => kbd_text); (case st | ah => assumption); (case z => kfm_hd); k_whole)))
local macro_rules | `(tactic| walk_at "call builtin:list.append") => `(tactic| (k_here; (with_reducible show wpAny _ _ (call (Value.builtin _) [Value.ref _, _]) _ _ _); k_dflt (refine' k_appW ?F ?N ?S ?l ?st ?ah ?z ?w ?_; (case F | N => k_asm); (case S => assumption); (case l => kbd_text); (case st | ah => assumption); (case z => kfm_hd); (case w => kby_none); k_whole); intro _ _ _ _ S' H'; obtain ⟨hm2, hm3, ⟨vw9, nw9, hm4⟩, ⟨va9, na9, hm5⟩⟩ := ks_mem S' H' (by assumption); k_sweep))
local macro_rules | `(tactic| walk_at "call builtin:list.append") => `(tactic| (k_here; (with_reducible show wpAny _ _ (call (Value.builtin _) [Value.ref _, _]) _ _ _); k_dflt (refine' k_appA ?F ?N ?S ?l ?st ?ah ?z ?w ?_; (case F | N => k_asm); (case S => assumption); (case l => kbd_text); (case st | ah => assumption); (case z => kfm_hd); (case w => kby_none); k_whole); intro _ _ _ _ S' H'; obtain ⟨hm2, hm3, ⟨vw9, nw9, hm4⟩, ⟨va9, na9, hm5⟩⟩ := ks_mem S' H' (by assumption); k_sweep))
local macro_rules | `(tactic| walk_at "call ref") => `(tactic| (k_here; k_dflt (apply k_take; kbt_sums; assumption; kbd_text; assumption; assumption; decide; kby_none; kbt_ne; k_whole); intro _ _ _ _ _ _ S' H'; obtain ⟨hm2, hm3, ⟨vw9, nw9, hm4⟩, ⟨va9, na9, hm5⟩⟩ := ks_mem S' H' (by assumption); k_sweep))
local macro_rules | `(tactic| walk_at "call ref") => `(tactic| (k_here; k_dflt (apply k_put; kbt_sums; assumption; kbd_text; assumption; assumption; exact cell_news (by k_asm) (by assumption); kfm_hd; kfm_hd; kby_none; kbt_ne; k_whole); intro _ _ _ _ _ S' H'; obtain ⟨hm2, hm3, ⟨vw9, nw9, hm4⟩, ⟨va9, na9, hm5⟩⟩ := ks_mem S' H' (by assumption); k_sweep))
local macro_rules | `(tactic| walk_at "call ref") => `(tactic| (k_here; k_dflt (apply k_faults; kbt_sums; assumption; kbd_text; assumption; assumption; kfm_hd; kfm_hd; kfm_hd; assumption; kbt_ne; k_whole); intro _ _ _ _ _ _ _ _; k_sweep))
local macro_rules | `(tactic| walk_at "compareOp Eq ref ref") => `(tactic| (k_here; k_dflt (refine' k_eq ?F ?N ?S ?l ?st ?ah ?m ?hi ?hw ?u ?_; (case F | N => k_asm); (case S => assumption); (case l => kbd_text); (case st | ah => assumption); (case m => exact List.Mem.head _); (case hi | hw => assumption); (case u => kbt_words); k_whole)))
local macro_rules | `(tactic| walk_at "subscriptTail") => `(tactic| (k_here; (with_reducible show wpAny _ _ (subscriptTail _ _ (Value.ref _) (Value.int _ _)) _ _ _); k_dflt (refine' pick6 ?N ?m ?m1 ?m2 ?m3 ?m4 ?m5 ?m6 ?k0 ?k6 ?_; (case N => k_asm); (case m | m1 | m2 | m3 | m4 | m5 | m6 => k_mem); (case k0 | k6 => omega); k_whole); intro _ _ _ _ _))
theorem right_spec {w : World} {mg mb : Str → Option Value} {R : Heap} {s : Shared} {a : SAd} {pu sc : Addr} {cs : List (Int × Int)} {rem : List Int} {Q E : Value → Shared → Prop}
    (C : Cx w mg mb R s.heap) (HS : StoreS w s.heap a cs []) (HP : PurseS s.heap pu sc rem) (nd : (saddrs a ++ [pu, sc]).Nodup) (r0 : ∀ x ∈ saddrs a ++ [pu, sc], R.get? x = none) (hz : cs.length < 500) (hz0 : 0 < cs.length)
    (hQ : ∀ h' tk', Kept [a.sk, pu] s.heap h' → Q (.bool true) { s with heap := h', toks := tk' }) :
    wpAny (model PySem.Challenge.rw_ok0022_01.row.prog w) (AA 600 6000) (call (.ref 449) [.ref pu, .ref a.S]) Q E s := by
  refine' enterS (binds := [(Str.ofString "purse", .ref pu), (Str.ofString "store", .ref a.S)]) C ?k6 ?k7 ?k8 ?k9 ?kB [a.sk, pu] ?_ ?c2 ?c3 ?c4 ?c5
  case k6 => k_is
  case k7 => k_is
  case k8 => decide
  case k9 => exact BindsTo.of_eq rfl
  case kB => exact locs rfl
  case c2 => rfl
  case c3 => rfl
  case c4 => rfl
  case c5 => decide
  intro g L h₁ lst hL S gn X T F N
  have lt : ∀ {b : Addr} {o : Obj}, s.heap.get? b = some o → b ≠ L := fun e => hL ▸ Nat.ne_of_lt (Heap.lt_size e)
  have ok : ∀ x ∈ saddrs a ++ [pu, sc], x ≠ L ∧ g.get? x = none := fun x hx => ⟨by
    obtain ⟨o, ho⟩ := (List.mem_append.mp hx).elim ((store_word w a cs []).lv HS x) ((purse_word pu sc rem).lv HP x)
    exact lt ho, gn x (r0 x hx)⟩
  (try dsimp only)
  (try k_fold)
  repeat' ((fail_if_success (with_reducible show wpAny _ _ (execs (Stmt.For _ _ _ _ _ :: _) _) _ _ _)); first | (k_unfold; (try dsimp only)) | walk1 | (dsimp only; walk1) | fail "no step")
  rename Fr g L _ _ => Fx
  rename News g L _ _ => Nx
  rename ∀ p : Addr × Obj, p ∈ lst → @LT.lt Nat _ p.1 _ => lx
  rename @LT.lt Nat _ _ _ ∧ _ => lx2
  obtain ⟨wl, al, lst9, ew, ea, N9, S9, H9, ak, frw, fra⟩ := k_start Fx Nx S HS HP nd ok lx lx2.1
  subst ew ea
  clear Nx lx lx2 S
  obtain ⟨hm2, hm3, ⟨vw9, nw9, hm4⟩, ⟨va9, na9, hm5⟩⟩ := ks_mem S9 H9 ak
  repeat' ((fail_if_success (with_reducible show wpAny _ _ (pyIter _) _ _ _)); first | (k_unfold; (try dsimp only)) | walk1 | (dsimp only; walk1) | fail "no step")
  have hr7 := takeV_range rem (lim := 7) (by decide)
  rename Gl g L _ _ _ _ => S8
  rename KS _ _ _ _ _ _ _ _ _ _ _ _ => H8
  rename Fr g L _ _ => Fx
  rename News g L _ _ => Nx
  refine' glue_loop (n := (takeV rem 7).toNat) (W' := [a.sk, pu, wl, al]) (as := kaddrs a pu sc wl al) [Str.ofString "way", Str.ofString "cell"] (KP w a cs pu sc wl al) ?hh ?hr ?hb ?hn ?F ?N ?S ?hl ?hP ?hw ?has ?hW ?turn ?done
  case hh => rfl
  case hr => assumption
  case hb => omega
  case hn => omega
  case F => assumption
  case N => assumption
  case S => exact S8
  case hl => exact fun _ h => h
  case hP => exact ⟨_, _, _, _, H8, rfl, (fun _ h => nomatch h), rfl, Nat.le_refl _, Nat.le_refl _⟩
  case hw => exact fun i => kp_word w i
  case has => exact fun x hx => ak.ok x hx
  case hW => (intro x hx; simp only [List.mem_cons, List.not_mem_nil, or_false] at hx; rcases hx with rfl | rfl | rfl | rfl <;> (refine ⟨by simp, ?_⟩) <;> first | (left; simp; done) | (right; assumption))
  case turn =>
    intro i t u h tk lst hi H F N S
    replace F : Fr g L h _ := F
    replace N : News g L h _ := N
    replace S : Gl g L _ _ _ _ := S
    obtain ⟨st7, rem7, asked7, wrong7, H, hst7, hin7, hwr7, hla7, hlw7⟩ := H
    have hi7 : i < 7 := by omega
    have hr6 := takeV_range rem7 (lim := 6) (by decide)
    have hr4 := takeV_range rem7.tail (lim := 4) (by decide)
    obtain ⟨hm2, hm3, ⟨vw9, nw9, hm4⟩, ⟨va9, na9, hm5⟩⟩ := ks_mem S H ak
    clear H8 S8
    (try dsimp only)
    (try k_fold)
    repeat' ((fail_if_success (with_reducible show wpAny _ _ (pyIter _) _ _ _)); first | (k_unfold; (try dsimp only)) | walk1 | (dsimp only; walk1) | fail "no step")
    all_goals (try dsimp only)
    all_goals (rename Gl g L _ _ _ _ => Se)
    all_goals (rename KS _ _ _ _ _ _ _ _ _ _ _ _ => He)
    all_goals (rename Fr g L _ _ => Fe)
    all_goals (rename News g L _ _ => Ne)
    all_goals (refine gend Fe Ne Se (fun _ h => h) (by intro z h1 h2; simp only [List.contains_cons, List.contains_nil, Bool.or_false, Bool.or_eq_false_iff, beq_eq_false_iff_ne, ne_eq] at h2; simp [h1, h2]) ?_)
    · exact kp1 He hst7 hin7 hwr7 hla7 hlw7 hr6.1 hr6.2 hz0 (by omega)
    · exact kp2 He hst7 hin7 hwr7 hla7 hlw7 hr6.1 hr6.2 hz0 (by omega)
    · exact kp3 He hst7 hin7 hwr7 hla7 hlw7
  case done =>
    intro u h tk lst H F N S
    replace F : Fr g L h _ := F
    replace N : News g L h _ := N
    replace S : Gl g L _ _ _ _ := S
    obtain ⟨st7, rem7, asked7, wrong7, H, hst7, hin7, hwr7, hla7, hlw7⟩ := H
    obtain ⟨hm2, hm3, ⟨vw9, nw9, hm4⟩, ⟨va9, na9, hm5⟩⟩ := ks_mem S H ak
    clear H8 S8
    (try dsimp only)
    (try k_fold)
    repeat' ((fail_if_success (with_reducible show wpAny _ _ (pyIter _) _ _ _)); first | (k_unfold; (try dsimp only)) | walk1 | (dsimp only; walk1) | fail "no step")
    all_goals (try dsimp only)
    rename Gl g L _ _ _ _ => Se
    rename Fr g L _ _ => Fe
    rename News g L _ _ => Ne
    refine hQ _ _ (Se.fin Fe Ne (fun p hp => ?_) (hL ▸ get_size _))
    repeat' (first | exact hp | refine List.Mem.tail _ ?_)
end
theorem frows_of {h : Heap} {lg : List (Addr × Obj)} {vs : List Value} {fl : List (Int × Str)} (x : FaultsIn lg vs fl) (hp : ∀ p ∈ lg, h.get? p.1 = some p.2) : FRows h vs fl := by
  obtain ⟨hl, hx⟩ := x
  induction vs generalizing fl with
  | nil => cases fl with
    | nil => trivial
    | cons => simp at hl
  | cons v vs ih => cases fl with
    | nil => simp at hl
    | cons q fl =>
      refine ⟨?_, ih (by simpa using hl) fun i r e => ?_⟩
      · obtain ⟨r, k1, k2, n, e, hm⟩ := hx 0 q rfl
        simp at e
        exact ⟨r, k1, k2, e, _, hp _ hm, rfl, n, rfl⟩
      · exact hx (i + 1) r (by simpa using e)
theorem rows_off {g h : Heap} {L t : Addr} {m : Str → Option Value} {rows : List (Int × Str)} (F : Fr g L h m) (x : RowsL h t rows) : t ≠ L := fun q => by
  obtain ⟨vs, n, e, _⟩ := x
  obtain ⟨oL, _, _, hoL, hd, _⟩ := F.ns
  rw [q, hoL] at e
  cases e
  cases hd
structure LS (w : World) (nm : NAd) (c : Addr) (ts : List Str) (fs : List (Int × Int)) (cv : Option Value) (h : Heap) : Prop where
  nam : NamesS w h nm ts fs
  cel : h.IsCell c cv
theorem cell_kept {h h' : Heap} {W : List Addr} {c : Addr} {cv : Option Value} (x : h.IsCell c cv) (k : Kept W h h') (n : c ∉ W) : h'.IsCell c cv := let ⟨o, e, d⟩ := x; ⟨o, k _ _ e n, d⟩
theorem ls_word (w : World) {nm : NAd} {c : Addr} {ts : List Str} {fs : List (Int × Int)} {cv : Option Value} : Word (LS w nm c ts fs cv) (c :: naddrs nm) where
  st x k h nt := ⟨(names_word w nm ts fs).st x.nam k (fun y hy m => h y hy (.tail _ m)) nt, cell_kept x.cel k (fun m => h _ m (.head _))⟩
  lv x y hy := by
    rcases List.mem_cons.mp hy with rfl | hy
    · obtain ⟨o, e, _⟩ := x.cel; exact ⟨o, e⟩
    · exact (names_word w nm ts fs).lv x.nam y hy
structure LX (w : World) (nm : NAd) (c : Addr) (a : SAd) (cs : List (Int × Int)) (ts : List Str) (fs : List (Int × Int)) (cv : Option Value) (h : Heap) : Prop where
  ls : LS w nm c ts fs cv h
  sto : StoreS w h a cs []
theorem lx_word (w : World) {nm : NAd} {c : Addr} {a : SAd} {cs : List (Int × Int)} {ts : List Str} {fs : List (Int × Int)} {cv : Option Value} : Word (LX w nm c a cs ts fs cv) ((c :: naddrs nm) ++ saddrs a) where
  st x k h nt := ⟨(ls_word w).st x.ls k (fun y hy m => h y hy (List.mem_append.mpr (.inl m))) nt, (store_word w a cs []).st x.sto k (fun y hy m => h y hy (List.mem_append.mpr (.inr m))) nt⟩
  lv x y hy := (List.mem_append.mp hy).elim ((ls_word w).lv x.ls y) ((store_word w a cs []).lv x.sto y)
structure AL (g : Heap) (L : Addr) (nm : NAd) (c : Addr) : Prop where
  nd : (c :: naddrs nm).Nodup
  ok : ∀ x ∈ c :: naddrs nm, x ≠ L ∧ g.get? x = none
structure AX (g : Heap) (L : Addr) (nm : NAd) (c : Addr) (a : SAd) : Prop where
  al : AL g L nm c
  nd : ((c :: naddrs nm) ++ saddrs a).Nodup
  ok : ∀ x ∈ (c :: naddrs nm) ++ saddrs a, x ≠ L ∧ g.get? x = none
section
variable {g : Heap} {L : Addr} {nm : NAd} {c : Addr} {a : SAd}
theorem AL.l0 (x : AL g L nm c) : ∀ q ∈ [L], q ∉ c :: naddrs nm := fun q hq m => (x.ok q m).1 (List.mem_singleton.mp hq)
theorem AX.l0 (x : AX g L nm c a) : ∀ q ∈ [L], q ∉ (c :: naddrs nm) ++ saddrs a := fun q hq m => (x.ok q m).1 (List.mem_singleton.mp hq)
theorem AX.an (x : AX g L nm c a) : AN g L nm a := ⟨(List.nodup_cons.mp x.nd).2, fun y hy => x.ok y (.tail _ hy)⟩
theorem AX.nc (x : AX g L nm c a) : c ∉ naddrs nm ++ saddrs a := (List.nodup_cons.mp x.nd).1
end
theorem LX.ns {w : World} {h : Heap} {nm : NAd} {c : Addr} {a : SAd} {cs : List (Int × Int)} {ts : List Str} {fs : List (Int × Int)} {cv : Option Value} (x : LX w nm c a cs ts fs cv h) : NS w nm a cs [] ts fs h := ⟨x.ls.nam, x.sto⟩
theorem Gl.gone {g h0 hs h : Heap} {L x : Addr} {W : List Addr} {m : Str → Option Value} {lst news : List (Addr × Obj)} (S : Gl g L W h0 hs lst) (F : Fr g L h m) (N : News g L h news) (hl : ∀ p ∈ lst, p ∈ news) (hW : ∀ q ∈ W, ∃ o, hs.get? q = some o) (e : h.get? x = none) : h0.get? x = none := by
  cases q : h0.get? x with
  | none => rfl
  | some o =>
    have k := S.kept F N hl
    obtain ⟨oL, _, _, hoL, _⟩ := F.ns
    have xL : x ≠ L := fun z => by rw [z, hoL] at e; cases e
    by_cases m : x ∈ L :: W
    · rcases List.mem_cons.mp m with m | m
      · exact absurd m xL
      · obtain ⟨o', ho'⟩ := hW x m
        rw [k _ _ ho' (by simpa using xL)] at e; cases e
    · rw [k _ _ (S.kp _ _ q m) (by simpa using xL)] at e; cases e
theorem Gl.gone2 {g h0 hs : Heap} {L x : Addr} {W : List Addr} {lst : List (Addr × Obj)} (S : Gl g L W h0 hs lst) (hW : ∀ q ∈ W, ∃ o, hs.get? q = some o) (xL : x ≠ L) (e : hs.get? x = none) : h0.get? x = none := by
  cases q : h0.get? x with
  | none => rfl
  | some o =>
    by_cases m : x ∈ L :: W
    · rcases List.mem_cons.mp m with m | m
      · exact absurd m xL
      · obtain ⟨o', ho'⟩ := hW x m
        rw [ho'] at e; cases e
    · rw [S.kp _ _ q m] at e; cases e
theorem Gl.above {g h0 hs : Heap} {L x : Addr} {W : List Addr} {lst : List (Addr × Obj)} (S : Gl g L W h0 hs lst) (xL : x ≠ L) (gx : g.get? x = none) (lx : ∀ p ∈ lst, p.1 ≠ x) : hs.get? x = none := by
  cases q : hs.get? x with
  | none => rfl
  | some o => exact absurd rfl (lx _ (S.mem q xL gx))
noncomputable def DueL (L : Addr) (h : Heap) (d : Addr) (rows : List (Int × Str)) : Prop := d ≠ L ∧ RowsL h d rows
theorem DueL.kept {L : Addr} {h h' : Heap} {W : List Addr} {d : Addr} {rows : List (Int × Str)} (x : DueL L h d rows) (k : Kept W h h') (n : d ∉ W) (nt : NT h W) : DueL L h' d rows := ⟨x.1, x.2.kept k n nt⟩
theorem ls_mem {w : World} {g h0 h : Heap} {L : Addr} {W : List Addr} {lst : List (Addr × Obj)} {nm : NAd} {c : Addr} {ts : List Str} {fs : List (Int × Int)} {cv : Option Value} (S : Gl g L W h0 h lst) (H : LS w nm c ts fs cv h) (ah : AL g L nm c) :
    (nm.N, instObj 154 nm.dN) ∈ lst ∧ (nm.dN, dictOf (nmEs w.params nm) nm.n) ∈ lst ∧ ∃ o, (c, o) ∈ lst ∧ o.data = .cell cv := by
  obtain ⟨o, e, d⟩ := H.cel
  exact ⟨S.mem H.nam.i.s (ah.ok _ (by simp)).1 (ah.ok _ (by simp)).2, S.mem H.nam.i.d (ah.ok _ (by simp)).1 (ah.ok _ (by simp)).2, o, S.mem e (ah.ok _ (by simp)).1 (ah.ok _ (by simp)).2, d⟩
theorem lx_mem {w : World} {g h0 h : Heap} {L : Addr} {W : List Addr} {lst : List (Addr × Obj)} {nm : NAd} {c : Addr} {a : SAd} {cs : List (Int × Int)} {ts : List Str} {fs : List (Int × Int)} {cv : Option Value} (S : Gl g L W h0 h lst) (H : LX w nm c a cs ts fs cv h) (ah : AX g L nm c a) :
    (a.S, instObj 374 a.dS) ∈ lst ∧ (a.dS, dictOf (stEs w.params a) a.n) ∈ lst ∧ (nm.N, instObj 154 nm.dN) ∈ lst ∧ (nm.dN, dictOf (nmEs w.params nm) nm.n) ∈ lst ∧ (∃ o, (c, o) ∈ lst ∧ o.data = .cell cv) ∧ ∃ vs n, (a.hp, PySem.W.listOf (List.toArray vs) n) ∈ lst ∧ vs.length = cs.length := by
  obtain ⟨vs, n, e, hv⟩ := H.sto.hp
  obtain ⟨h3, h4, h5⟩ := ls_mem S H.ls ah.al
  exact ⟨S.mem H.sto.i.s (ah.ok _ (by simp)).1 (ah.ok _ (by simp)).2, S.mem H.sto.i.d (ah.ok _ (by simp)).1 (ah.ok _ (by simp)).2, h3, h4, h5, vs, n, S.mem e (ah.ok _ (by simp)).1 (ah.ok _ (by simp)).2, hv.1⟩
theorem l_names {w : World} {mg mb : Str → Option Value} {g h0 hs : Heap} {L : Addr} {W : List Addr} {m : Str → Option Value} {news lst : List (Addr × Obj)} {A : Around} {s : Shared} {c : Addr} {cv : Option Value} {Q E : Value → Shared → Prop}
    (F : Fr g L s.heap m) (N : News g L s.heap news) (X : (frag.heap_1 w.params).In g) (T : TopRead vw (looseW vw [Str.ofString "VOID", Str.ofString "Store"]) mg mb g) (S : Gl g L W h0 hs lst) (hl : ∀ p ∈ lst, p ∈ news) (hc : hs.IsCell c cv) (okc : c ≠ L ∧ g.get? c = none) (hh : A.handled = none) (hd : A.depth ≤ 700) (hu : A.units ≤ 7000)
    (hQ : ∀ h' tk' nm lst', Fr g L h' m → News g L h' lst' → Gl g L W h0 h' lst' → LS w nm c (addsR rows0).1 (addsR rows0).2 cv h' → AL g L nm c → Q (.ref nm.N) { s with heap := h', toks := tk' }) :
    wpAny (model PySem.Challenge.rw_ok0022_01.row.prog w) A (call (.ref 154) []) Q E s := by
  have hc1 := cell_kept hc (S.kept F N hl) (by simpa using okc.1)
  obtain ⟨oL, _, _, hoL, _⟩ := F.ns
  refine wp_big hh hd hu (names_new (R := g) ⟨X, T, F.keep⟩ fun h' tk' nm kp st nd fr => ?_)
  have F' := fr_kept F kp (fun _ h => nomatch h) (fun h => nomatch h)
  obtain ⟨lst', N', S'⟩ := glue F' (S.step F N hl kp (fun _ h => nomatch h))
  refine hQ _ _ nm _ F' N' S' ⟨st, cell_kept hc1 kp (fun h => nomatch h)⟩ ⟨List.nodup_cons.mpr ⟨fun q => ?_, nd⟩, fun x hx => ?_⟩
  · obtain ⟨o, e, _⟩ := hc1
    rw [fr _ q] at e; cases e
  · rcases List.mem_cons.mp hx with rfl | hx
    · exact okc
    · exact ⟨fun q => (by have := fr x hx; rw [q, hoL] at this; cases this), none_of_up F (fr x hx)⟩
theorem l_heap {w : World} {mg mb : Str → Option Value} {g h0 hs : Heap} {L : Addr} {W : List Addr} {m : Str → Option Value} {news lst : List (Addr × Obj)} {A : Around} {s : Shared} {nm : NAd} {c : Addr} {ts : List Str} {fs : List (Int × Int)} {cv : Option Value} {pu sc : Addr} {rem : List Int} {Q E : Value → Shared → Prop}
    (F : Fr g L s.heap m) (N : News g L s.heap news) (X : (frag.heap_1 w.params).In g) (T : TopRead vw (looseW vw [Str.ofString "VOID", Str.ofString "Store"]) mg mb g) (S : Gl g L W h0 hs lst) (hl : ∀ p ∈ lst, p ∈ news) (H : LS w nm c ts fs cv hs) (al : AL g L nm c) (hP : PurseS s.heap pu sc rem) (ps : pu ≠ L ∧ g.get? pu = none) (ss : sc ≠ L ∧ g.get? sc = none) (lx : ∀ p ∈ lst, p.1 ≠ sc) (lx2 : ∀ p ∈ lst, p.1 ≠ pu) (hz1 : ts.length < 500) (hz2 : fs.length < 500)
    (hWl : ∀ q ∈ W, q ∈ c :: naddrs nm) (hW : ∀ q ∈ [nm.tx, nm.an, nm.fx, nm.fn], q ∈ W ∨ h0.get? q = none) (hh : A.handled = none) (hd : A.depth ≤ 600) (hu : A.units ≤ 6000)
    (hQ : ∀ h' tk' a lst', Fr g L h' m → News g L h' lst' → Gl g L W h0 h' lst' → a.N = nm.N → LX w nm c a (heapV rem ts fs).cs (heapV rem ts fs).ts (heapV rem ts fs).fs cv h' → AX g L nm c a → (∀ x ∈ saddrs a, h0.get? x = none) →
      (∀ p2 s2 r2, PurseS hs p2 s2 r2 → (p2 ≠ L ∧ g.get? p2 = none) → (s2 ≠ L ∧ g.get? s2 = none) → p2 ∉ c :: naddrs nm → s2 ∉ c :: naddrs nm → PurseS h' p2 s2 r2 ∧ p2 ∉ saddrs a ∧ s2 ∉ saddrs a) → Q (.ref a.S) { s with heap := h', toks := tk' }) :
    wpAny (model PySem.Challenge.rw_ok0022_01.row.prog w) A (call (.ref 418) [.ref pu, .ref nm.N]) Q E s := by
  have k1 := S.kept F N hl
  have H1 := (ls_word w).st H k1 al.l0 S.nt
  have pl : ∀ x ∈ c :: naddrs nm, ∃ o, (x, o) ∈ lst := fun x hx => by
    obtain ⟨o, ho⟩ := (ls_word w).lv H x hx
    exact ⟨o, S.mem ho (al.ok x hx).1 (al.ok x hx).2⟩
  have off1 : ∀ x ∈ c :: naddrs nm, x ≠ pu ∧ x ≠ sc := fun x hx => by
    obtain ⟨o, ho⟩ := pl x hx
    exact ⟨lx2 _ ho, lx _ ho⟩
  have nd : (naddrs nm ++ [pu, sc]).Nodup := List.nodup_append.mpr ⟨(List.nodup_cons.mp al.nd).2, by simpa using hP.ne, fun x hx y hy => by
    rcases List.mem_cons.mp hy with rfl | hy
    · exact (off1 x (.tail _ hx)).1
    · rw [List.mem_singleton.mp hy]; exact (off1 x (.tail _ hx)).2⟩
  have ok2 : ∀ x ∈ naddrs nm ++ [pu, sc], x ≠ L ∧ g.get? x = none := fun x hx => by
    rcases List.mem_append.mp hx with hx | hx
    · exact al.ok x (.tail _ hx)
    · rcases List.mem_cons.mp hx with rfl | hx
      · exact ps
      · rw [List.mem_singleton.mp hx]; exact ss
  have hWo : ∀ q ∈ W, ∃ o, hs.get? q = some o := fun q hq => (ls_word w).lv H q (hWl q hq)
  obtain ⟨oL, _, _, hoL, _⟩ := F.ns
  refine wp_big hh hd hu (heap_spec (R := g) ⟨X, T, F.keep⟩ H1.nam hP nd (fun x hx => (ok2 x hx).2) hz1 hz2 fun h' tk' a kp eN hN' hS' fr => ?_)
  have wl : L ∉ [nm.tx, nm.an, nm.fx, nm.fn, pu] := by simp [(al.ok nm.tx (by simp)).1.symm, (al.ok nm.an (by simp)).1.symm, (al.ok nm.fx (by simp)).1.symm, (al.ok nm.fn (by simp)).1.symm, ps.1.symm]
  have F' := fr_kept F kp (by simp [(al.ok nm.tx (by simp)).2, (al.ok nm.an (by simp)).2, (al.ok nm.fx (by simp)).2, (al.ok nm.fn (by simp)).2, ps.2]) wl
  have pu0 : h0.get? pu = none := S.gone2 hWo ps.1 (S.above ps.1 ps.2 lx2)
  obtain ⟨lst', N', S'⟩ := glue F' (S.step F N hl kp (fun x hx => by
    simp only [List.mem_cons, List.not_mem_nil, or_false] at hx
    rcases hx with rfl | rfl | rfl | rfl | rfl
    · exact hW _ (by simp)
    · exact hW _ (by simp)
    · exact hW _ (by simp)
    · exact hW _ (by simp)
    · exact .inr pu0))
  have offS : ∀ x ∈ saddrs a, ∀ y, (∃ o, s.heap.get? y = some o) → x ≠ y := fun x hx y ⟨o, ho⟩ e => by rw [← e, fr x hx] at ho; cases ho
  have cW : c ∉ [nm.tx, nm.an, nm.fx, nm.fn, pu] := by
    have := (List.nodup_cons.mp al.nd).1
    have z := (off1 c (.head _)).1
    simp only [List.mem_cons, List.not_mem_nil, or_false, not_or] at this ⊢
    exact ⟨this.2.2.1, this.2.2.2.1, this.2.2.2.2.1, this.2.2.2.2.2, z⟩
  refine hQ _ _ a _ F' N' S' eN ⟨⟨hN', cell_kept H1.cel kp cW⟩, hS'⟩ ⟨al, ?_, fun x hx => ?_⟩ (fun x hx => S.gone F N hl hWo (fr x hx)) (fun p2 s2 r2 hp2 o1 o2 n1 n2 => ?_)
  · refine List.nodup_append.mpr ⟨al.nd, ?_, fun x hx y hy => (offS y hy x ((ls_word w).lv H1 x hx)).symm⟩
    obtain ⟨vs, n, e1, _⟩ := hS'.hp
    obtain ⟨vs2, n2', e2, _⟩ := hS'.sk
    have a1 := ne_of_objs hS'.i.s hS'.i.d (by simp)
    have a2 := ne_of_objs hS'.i.s e1 (by simp)
    have a3 := ne_of_objs hS'.i.s e2 (by simp)
    have a4 := ne_of_objs hS'.i.d e1 (by simp)
    have a5 := ne_of_objs hS'.i.d e2 (by simp)
    simp [a1, a2, a3, a4, a5, hS'.ne]
  · rcases List.mem_append.mp hx with hx | hx
    · exact al.ok x hx
    · exact ⟨offS x hx L ⟨oL, hoL⟩, none_of_up F (fr x hx)⟩
  · have hp3 := hp2.kept k1 (by simpa using o1.1) (by simpa using o2.1)
    have lv := (purse_word p2 s2 r2).lv hp3
    obtain ⟨op, hop⟩ := (purse_word p2 s2 r2).lv hp2 p2 (by simp)
    have q1 := S.mem hop o1.1 o1.2
    obtain ⟨os, hos⟩ := (purse_word p2 s2 r2).lv hp2 s2 (by simp)
    have q2 := S.mem hos o2.1 o2.2
    refine ⟨hp3.kept kp ?_ ?_, fun m => offS _ m p2 (lv p2 (by simp)) rfl, fun m => offS _ m s2 (lv s2 (by simp)) rfl⟩
    · simp only [List.mem_cons, List.not_mem_nil, or_false, not_or] at n1 ⊢
      exact ⟨n1.2.2.2.1, n1.2.2.2.2.1, n1.2.2.2.2.2.1, n1.2.2.2.2.2.2, lx2 _ q1⟩
    · simp only [List.mem_cons, List.not_mem_nil, or_false, not_or] at n2 ⊢
      exact ⟨n2.2.2.2.1, n2.2.2.2.2.1, n2.2.2.2.2.2.1, n2.2.2.2.2.2.2, lx2 _ q2⟩
theorem l_cell {w : World} {g h0 hs : Heap} {L : Addr} {W : List Addr} {m : Str → Option Value} {news lst : List (Addr × Obj)} {A : Around} {s : Shared} {nm : NAd} {c : Addr} {a : SAd} {cs : List (Int × Int)} {ts : List Str} {fs : List (Int × Int)} {cv : Option Value} {M : Model} {fa : Addr} {cn : Str} {sco : Scope} {ccd : Value} {cl : List (Str × Addr)} {x : Str} {v : Value} {Q : Unit → Shared → Prop} {E : Value → Shared → Prop}
    (F : Fr g L s.heap m) (N : News g L s.heap news) (S : Gl g L W h0 hs lst) (hl : ∀ p ∈ lst, p ∈ news) (H : LX w nm c a cs ts fs cv hs) (ax : AX g L nm c a) (hc : cl.lookup x = some c) (hW : c ∈ W ∨ h0.get? c = none)
    (hQ : ∀ h' lst', Fr g L h' m → News g L h' lst' → Gl g L W h0 h' lst' → LX w nm c a cs ts fs (some v) h' → Q () { s with heap := h' })
    (hk : sco.kind = .function) (hx : (envX cn sco L fa ccd cl).kindOf x = some .cell) : wpAny M A (storeName (envX cn sco L fa ccd cl) x v) Q E s := by
  have H1 := (lx_word w).st H (S.kept F N hl) ax.l0 S.nt
  refine wpAny_storeName_cell hk hx hc H1.ls.cel fun h' hv hs' => ?_
  obtain ⟨oc, ec, dc⟩ := H1.ls.cel
  have nt : NT s.heap [c] := fun q hq o ho ⟨its, n, e⟩ => by
    rw [List.mem_singleton.mp hq, ec] at ho; cases ho; rw [dc] at e; cases e
  have kp : Kept [c] s.heap h' := fun b o q m => hs'.extBut b o (by simpa using m) q
  have F' := fr_kept F kp (by simpa using (ax.ok c (by simp)).2) (by simpa using (ax.ok c (by simp)).1.symm)
  obtain ⟨lst', N', S'⟩ := glue F' (S.step F N hl kp (by simpa using hW))
  have nc := ax.nc
  refine hQ _ _ F' N' S' ⟨⟨(names_word w nm ts fs).st H1.ls.nam kp (fun y hy m => nc (by rw [List.mem_singleton.mp hy] at m; exact List.mem_append.mpr (.inl m))) nt, hv⟩, (store_word w a cs []).st H1.sto kp (fun y hy m => nc (by rw [List.mem_singleton.mp hy] at m; exact List.mem_append.mpr (.inr m))) nt⟩
theorem l_faults {w : World} {mg mb : Str → Option Value} {g h0 hs : Heap} {L : Addr} {W : List Addr} {m : Str → Option Value} {news lst : List (Addr × Obj)} {A : Around} {s : Shared} {nm : NAd} {c : Addr} {a : SAd} {cs : List (Int × Int)} {ts : List Str} {fs : List (Int × Int)} {cv : Option Value} {Q E : Value → Shared → Prop}
    (F : Fr g L s.heap m) (N : News g L s.heap news) (X : (frag.heap_1 w.params).In g) (T : TopRead vw (looseW vw [Str.ofString "VOID", Str.ofString "Store"]) mg mb g) (S : Gl g L W h0 hs lst) (hl : ∀ p ∈ lst, p ∈ news) (H : LX w nm c a cs ts fs cv hs) (ax : AX g L nm c a) (eN : a.N = nm.N) (hz : cs.length < 1000) (hz2 : fs.length < 1000) (hF : FunOk fs cs) (hh : A.handled = none) (hd : A.depth ≤ 500) (hu : A.units ≤ 5000)
    (hQ : ∀ h' tk' t lst', Fr g L h' m → News g L h' lst' → Gl g L W h0 h' lst' → LX w nm c a cs ts fs cv h' → DueL L h' t (faultsTo fs cs cs.length) → (∀ d rows, DueL L hs d rows → DueL L h' d rows) → Q (.ref t) { s with heap := h', toks := tk' }) :
    wpAny (model PySem.Challenge.rw_ok0022_01.row.prog w) A (call (.ref 383) [.ref a.S]) Q E s := by
  have k1 := S.kept F N hl
  have H1 := (lx_word w).st H k1 ax.l0 S.nt
  obtain ⟨v1, n1, e1, c1⟩ := H1.sto.hp
  obtain ⟨v2, n2, e2, c2⟩ := H1.ls.nam.fx
  refine wp_big hh hd hu (heap_faults_spec (R := g) ⟨X, T, F.keep⟩ H1.sto.i H1.ls.nam.i eN ⟨_, e1, rfl, _, rfl⟩ c1 ⟨_, e2, rfl, _, rfl⟩ c2 hz hz2 hF fun h' tk' t lg kp fr hf => ?_)
  have F' := fr_kept F kp (fun _ h => nomatch h) (fun h => nomatch h)
  obtain ⟨lst', N', S'⟩ := glue F' (S.step F N hl kp (fun _ h => nomatch h))
  have H2 := (lx_word w).st H1 kp (fun _ h => nomatch h) (fun _ h => nomatch h)
  obtain ⟨vs, n, tl, elg, _, _, hfi⟩ := hf
  have ht := fr (t, PySem.W.listOf (List.toArray vs) n) (by rw [elg]; exact .head _)
  obtain ⟨oL, _, _, hoL, _⟩ := F.ns
  refine hQ _ _ t _ F' N' S' H2 ⟨fun q => ?_, vs, n, ht.1, ?_⟩ (fun d rows x => (x.kept k1 (by simpa using x.1) S.nt).kept kp (fun h => nomatch h) (fun _ h => nomatch h))
  · have := ht.2; rw [q, hoL] at this; cases this
  · exact frows_of (h := h') (lg := tl) hfi fun p hp => (fr p (by rw [elg]; exact .tail _ hp)).1
theorem l_spoiled {w : World} {mg mb : Str → Option Value} {g h0 hs : Heap} {L : Addr} {W : List Addr} {m : Str → Option Value} {news lst : List (Addr × Obj)} {A : Around} {s : Shared} {nm : NAd} {c : Addr} {a : SAd} {cs : List (Int × Int)} {ts : List Str} {fs : List (Int × Int)} {cv : Option Value} {way at' : Int} {kw ka : Tok} {Q E : Value → Shared → Prop}
    (F : Fr g L s.heap m) (N : News g L s.heap news) (X : (frag.heap_1 w.params).In g) (T : TopRead vw (looseW vw [Str.ofString "VOID", Str.ofString "Store"]) mg mb g) (S : Gl g L W h0 hs lst) (hl : ∀ p ∈ lst, p ∈ news) (H : LX w nm c a cs ts fs cv hs) (ax : AX g L nm c a) (k0 : 0 ≤ at') (k1 : at' < cs.length) (hz : cs.length < 500) (hz1 : ts.length < 500) (hz2 : fs.length < 500) (hW : ∀ q ∈ [nm.tx, nm.an, nm.fx, nm.fn, a.hp], q ∈ W ∨ h0.get? q = none) (hh : A.handled = none) (hd : A.depth ≤ 600) (hu : A.units ≤ 6000)
    (hQ : ∀ h' tk' t lst', Fr g L h' m → News g L h' lst' → Gl g L W h0 h' lst' → LX w nm c a (spoil way at' cs ts fs).1 (spoil way at' cs ts fs).2.2.1 (spoil way at' cs ts fs).2.2.2 cv h' → DueL L h' t (spoil way at' cs ts fs).2.1 → Q (.ref t) { s with heap := h', toks := tk' }) :
    wpAny (model PySem.Challenge.rw_ok0022_01.row.prog w) A (call (.ref 435) [.ref a.S, .int way kw, .int at' ka, .ref nm.N]) Q E s := by
  have H1 := (lx_word w).st H (S.kept F N hl) ax.l0 S.nt
  have an := ax.an
  refine wp_big hh hd hu (spoiled_spec (R := g) ⟨X, T, F.keep⟩ H1.ns an.nd (fun x hx => (an.ok x hx).2) k0 k1 hz hz1 hz2 fun h' tk' t kp hr hn => ?_)
  have wL : L ∉ [nm.tx, nm.an, nm.fx, nm.fn, a.hp] := by simp [an.ln.tx, an.ln.an, an.ln.fx, an.ln.fn, (an.ok a.hp (by simp)).1.symm]
  have F' := fr_kept F kp (by simp [an.nr.tx, an.nr.an, an.nr.fx, an.nr.fn, (an.ok a.hp (by simp)).2]) wL
  obtain ⟨lst', N', S'⟩ := glue F' (S.step F N hl kp hW)
  have nc := ax.nc
  simp only [List.cons_append, List.nil_append, List.mem_cons, List.not_mem_nil, or_false, not_or] at nc
  exact hQ _ _ t _ F' N' S' ⟨⟨hn.nam, cell_kept H1.ls.cel kp (by simp only [List.mem_cons, List.not_mem_nil, or_false, not_or]; exact ⟨nc.2.2.1, nc.2.2.2.1, nc.2.2.2.2.1, nc.2.2.2.2.2.1, nc.2.2.2.2.2.2.2.2.1⟩)⟩, hn.sto⟩ ⟨rows_off F' hr, hr⟩
theorem l_fspoiled {w : World} {mg mb : Str → Option Value} {g h0 hs : Heap} {L : Addr} {W : List Addr} {m : Str → Option Value} {news lst : List (Addr × Obj)} {A : Around} {s : Shared} {nm : NAd} {c : Addr} {a : SAd} {cs : List (Int × Int)} {ts : List Str} {fs : List (Int × Int)} {cv : Option Value} {way place : Int} {kw kp' : Tok} {Q E : Value → Shared → Prop}
    (F : Fr g L s.heap m) (N : News g L s.heap news) (X : (frag.heap_1 w.params).In g) (T : TopRead vw (looseW vw [Str.ofString "VOID", Str.ofString "Store"]) mg mb g) (S : Gl g L W h0 hs lst) (hl : ∀ p ∈ lst, p ∈ news) (H : LX w nm c a cs ts fs cv hs) (ax : AX g L nm c a) (k0 : 0 ≤ place) (k1 : place < cs.length) (hz : cs.length < 500) (hW : ∀ q ∈ [a.hp], q ∈ W ∨ h0.get? q = none) (hh : A.handled = none) (hd : A.depth ≤ 600) (hu : A.units ≤ 6000)
    (hQ : ∀ h' tk' t lst', Fr g L h' m → News g L h' lst' → Gl g L W h0 h' lst' → LX w nm c a (fspoil way place cs).1 ts fs cv h' → DueL L h' t (fspoil way place cs).2 → Q (.ref t) { s with heap := h', toks := tk' }) :
    wpAny (model PySem.Challenge.rw_ok0022_01.row.prog w) A (call (.ref 442) [.ref a.S, .int place kp', .int way kw]) Q E s := by
  have H1 := (lx_word w).st H (S.kept F N hl) ax.l0 S.nt
  have an := ax.an
  refine wp_big hh hd hu (fspoiled_spec (R := g) ⟨X, T, F.keep⟩ H1.ns an.nd (fun x hx => (an.ok x hx).2) k0 k1 hz fun h' tk' t kp hr hn => ?_)
  have F' := fr_kept F kp (by simpa using (an.ok a.hp (by simp)).2) (by simpa using (an.ok a.hp (by simp)).1.symm)
  obtain ⟨lst', N', S'⟩ := glue F' (S.step F N hl kp hW)
  have nc := ax.nc
  exact hQ _ _ t _ F' N' S' ⟨⟨hn.nam, cell_kept H1.ls.cel kp (fun m => nc (by rw [List.mem_singleton.mp m]; simp))⟩, hn.sto⟩ ⟨rows_off F' hr, hr⟩
theorem l_funcells {w : World} {mg mb : Str → Option Value} {g h0 hs : Heap} {L : Addr} {W : List Addr} {m : Str → Option Value} {news lst : List (Addr × Obj)} {A : Around} {s : Shared} {nm : NAd} {c : Addr} {a : SAd} {cs : List (Int × Int)} {ts : List Str} {fs : List (Int × Int)} {cv : Option Value} {Q E : Value → Shared → Prop}
    (F : Fr g L s.heap m) (N : News g L s.heap news) (X : (frag.heap_1 w.params).In g) (T : TopRead vw (looseW vw [Str.ofString "VOID", Str.ofString "Store"]) mg mb g) (S : Gl g L W h0 hs lst) (hl : ∀ p ∈ lst, p ∈ news) (H : LX w nm c a cs ts fs cv hs) (ax : AX g L nm c a) (hz : cs.length < 1000) (hh : A.handled = none) (hd : A.depth ≤ 800) (hu : A.units ≤ 8000)
    (hQ : ∀ h' tk' t vs, Fr g L h' m → News g L h' ((t, PySem.W.listOf (List.toArray vs) vs.length) :: news) → IntsAre vs (cells6 (fun k => decide ((cAt cs k.toNat).1 = 6)) cs.length) → (∀ p ∈ news, p.1 ≠ t) → Q (.ref t) { s with heap := h', toks := tk' }) :
    wpAny (model PySem.Challenge.rw_ok0022_01.row.prog w) A (call (.ref 423) [.ref a.S]) Q E s := by
  have H1 := (lx_word w).st H (S.kept F N hl) ax.l0 S.nt
  refine wp_big hh hd hu (funcells_spec (R := g) ⟨X, T, F.keep⟩ H1.sto.i H1.sto.hp hz fun h' tk' t vs kp f e hi => hQ h' tk' t vs (F.keeps kp.all) (news_add (lg := [(t, PySem.W.listOf (List.toArray vs) vs.length)]) F N kp fun p hp => by rw [List.mem_singleton.mp hp]; exact ⟨e, f⟩) hi fun p hp q => ?_)
  rw [← q, (N p hp).1] at f; cases f
theorem l_right {w : World} {mg mb : Str → Option Value} {g h0 hs : Heap} {L : Addr} {W : List Addr} {m : Str → Option Value} {news lst : List (Addr × Obj)} {A : Around} {s : Shared} {nm : NAd} {c : Addr} {a : SAd} {cs : List (Int × Int)} {ts : List Str} {fs : List (Int × Int)} {cv : Option Value} {pu sc : Addr} {rem : List Int} {Q E : Value → Shared → Prop}
    (F : Fr g L s.heap m) (N : News g L s.heap news) (X : (frag.heap_1 w.params).In g) (T : TopRead vw (looseW vw [Str.ofString "VOID", Str.ofString "Store"]) mg mb g) (S : Gl g L W h0 hs lst) (hl : ∀ p ∈ lst, p ∈ news) (H : LX w nm c a cs ts fs cv hs) (ax : AX g L nm c a) (hP : PurseS hs pu sc rem) (ps : pu ≠ L ∧ g.get? pu = none) (ss : sc ≠ L ∧ g.get? sc = none) (np : pu ∉ saddrs a) (nsc : sc ∉ saddrs a) (hz : cs.length < 500) (hz0 : 0 < cs.length) (hh : A.handled = none) (hd : A.depth ≤ 600) (hu : A.units ≤ 6000)
    (hQ : ∀ h' tk', Fr g L h' m → Q (.bool true) { s with heap := h', toks := tk' }) :
    wpAny (model PySem.Challenge.rw_ok0022_01.row.prog w) A (call (.ref 449) [.ref pu, .ref a.S]) Q E s := by
  have k1 := S.kept F N hl
  have H1 := (lx_word w).st H k1 ax.l0 S.nt
  have an := ax.an
  refine wp_big hh hd hu (right_spec (R := g) ⟨X, T, F.keep⟩ H1.sto (hP.kept k1 (by simpa using ps.1) (by simpa using ss.1)) ?_ (fun x hx => ?_) hz hz0 fun h' tk' kp => hQ h' tk' (fr_kept F kp (by simp [(an.ok a.sk (by simp)).2, ps.2]) (by simp [(an.ok a.sk (by simp)).1.symm, ps.1.symm])))
  · refine List.nodup_append.mpr ⟨(List.nodup_append.mp an.nd).2.1, by simpa using hP.ne, fun x hx y hy q => ?_⟩
    rcases List.mem_cons.mp hy with hy | hy
    · exact np (by rw [← hy, ← q]; exact hx)
    · exact nsc (by rw [← List.mem_singleton.mp hy, ← q]; exact hx)
  · rcases List.mem_append.mp hx with hx | hx
    · exact (an.ok x (List.mem_append.mpr (.inr hx))).2
    · rcases List.mem_cons.mp hx with rfl | hx
      · exact ps.2
      · rw [List.mem_singleton.mp hx]; exact ss.2
noncomputable abbrev fT : Str := Str.ofString "f"
noncomputable abbrev T0 : List Str := (addsR rows0).1
noncomputable abbrev F0 : List (Int × Int) := (addsR rows0).2
/-- the names' tables as the law lets them grow -/
noncomputable def NOK (ts : List Str) (fs : List (Int × Int)) : Prop :=
  ∃ y : List Int, (∀ k ∈ y, k = 1 ∨ k = 2) ∧ y.Nodup ∧ fs = F0 ++ y.map (fun k => ((29 : Int), k)) ∧ ((ts = T0 ∧ y = []) ∨ ts = T0 ++ [fT])
theorem nok0 : NOK (addsR rows0).1 (addsR rows0).2 := ⟨[], (fun _ h => nomatch h), List.nodup_nil, by simp, .inl ⟨rfl, rfl⟩⟩
theorem pl_T0len : T0.length = 29 := by decide +kernel
theorem pl_F0len : F0.length = 32 := by decide +kernel
theorem pl_fT : fT ∉ T0 := by decide +kernel
theorem pl_F0 : cAt F0 0 = (1, 2) := by decide +kernel
theorem pl_idx : (T0 ++ [fT]).idxOf fT = 29 := by decide +kernel
theorem pl_ylen {y : List Int} (h : ∀ k ∈ y, k = 1 ∨ k = 2) (n : y.Nodup) : y.length ≤ 2 := by
  match y, h, n with
  | [], _, _ => simp
  | [_], _, _ => simp
  | [_, _], _, _ => simp
  | a :: b :: c :: r, h, n =>
    exfalso
    have ha := h a (by simp)
    have hb := h b (by simp)
    have hc := h c (by simp)
    simp only [List.nodup_cons, List.mem_cons, not_or] at n
    obtain ⟨⟨n1, n2, _⟩, ⟨n3, _⟩, _⟩ := n
    omega
theorem nok_len {ts : List Str} {fs : List (Int × Int)} (h : NOK ts fs) : ts.length < 100 ∧ fs.length < 100 := by
  obtain ⟨y, h1, h2, rfl, h3⟩ := h
  have hy := pl_ylen h1 h2
  have e1 := pl_T0len
  have e2 := pl_F0len
  refine ⟨?_, ?_⟩
  · rcases h3 with ⟨rfl, _⟩ | rfl
    · omega
    · simp only [List.length_append, List.length_cons, List.length_nil]; omega
  · simp only [List.length_append, List.length_map]; omega
theorem cAt_left {cs : List (Int × Int)} {y : List (Int × Int)} {i : Nat} (h : i < cs.length) : cAt (cs ++ y) i = cAt cs i := by
  unfold cAt
  rw [List.getD_eq_getElem?_getD, List.getD_eq_getElem?_getD, List.getElem?_append_left h]
theorem cAt_snoc {cs : List (Int × Int)} {c : Int × Int} : cAt (cs ++ [c]) cs.length = c := by
  unfold cAt
  rw [List.getD_eq_getElem?_getD, List.getElem?_append_right (Nat.le_refl _), Nat.sub_self]; rfl
theorem cAt_self {cs : List (Int × Int)} {a : Nat} {c : Int × Int} (h : a < cs.length) : cAt (cs.set a c) a = c := by
  unfold cAt
  rw [List.getD_eq_getElem?_getD, List.getElem?_set_self h]; rfl
theorem cAt_other {cs : List (Int × Int)} {a i : Nat} {c : Int × Int} (h : a ≠ i) : cAt (cs.set a c) i = cAt cs i := by
  unfold cAt
  rw [List.getD_eq_getElem?_getD, List.getD_eq_getElem?_getD, List.getElem?_set_ne h]
theorem idx_at {fs : List (Int × Int)} {c : Int × Int} (h : c ∈ fs) : fs.idxOf c < fs.length ∧ cAt fs (fs.idxOf c) = c := by
  have h1 := List.idxOf_lt_length_iff.mpr h
  refine ⟨h1, ?_⟩
  unfold cAt
  rw [List.getD_eq_getElem?_getD, List.getElem?_eq_getElem h1, List.getElem_idxOf]; rfl
theorem nok_key {ts : List Str} {fs : List (Int × Int)} (h : NOK ts fs) (k : Int) : addA ts fT = T0 ++ [fT] ∧ fkey ts fT k = (29, k) := by
  obtain ⟨y, _, _, _, h⟩ := h
  have e : addA ts fT = T0 ++ [fT] := by
    rcases h with ⟨rfl, _⟩ | rfl
    · exact addA_neg pl_fT
    · exact addA_pos (List.mem_append.mpr (.inr (.head _)))
  refine ⟨e, ?_⟩
  unfold fkey
  rw [e, pl_idx]; rfl
theorem nok_f0 {ts : List Str} {fs : List (Int × Int)} (h : NOK ts fs) : cAt fs 0 = (1, 2) ∧ 0 < fs.length := by
  obtain ⟨y, _, _, rfl, _⟩ := h
  have e2 := pl_F0len
  refine ⟨?_, ?_⟩
  · rw [cAt_left (by omega), pl_F0]
  · rw [List.length_append]; omega
theorem addF_mem (fs : List (Int × Int)) (c : Int × Int) : c ∈ addF fs c := by
  unfold addF
  split
  · assumption
  · exact List.mem_append.mpr (.inr (.head _))
theorem addF_ext (fs : List (Int × Int)) (c : Int × Int) : ∃ x, addF fs c = fs ++ x := by
  unfold addF
  split
  · exact ⟨[], by simp⟩
  · exact ⟨[c], rfl⟩
theorem nok_func {ts : List Str} {fs : List (Int × Int)} {k : Int} (h : NOK ts fs) (hk : k = 1 ∨ k = 2) : NOK (addA ts fT) (addF fs (fkey ts fT k)) := by
  obtain ⟨e1, e2⟩ := nok_key h k
  obtain ⟨y, h1, h2, h3, h4⟩ := h
  rw [e1, e2]
  unfold addF
  split
  · exact ⟨y, h1, h2, h3, .inr rfl⟩
  · rename_i n
    refine ⟨y ++ [k], fun z hz => ?_, ?_, ?_, .inr rfl⟩
    · rcases List.mem_append.mp hz with hz | hz
      · exact h1 z hz
      · rw [List.mem_singleton.mp hz]; exact hk
    · refine List.nodup_append.mpr ⟨h2, by simp, fun a ha b hb => ?_⟩
      rw [List.mem_singleton.mp hb]
      rintro rfl
      exact n (h3 ▸ List.mem_append.mpr (.inr (List.mem_map.mpr ⟨a, ha, rfl⟩)))
    · rw [h3, List.map_append, ← List.append_assoc]; rfl
theorem nok_no {ts : List Str} {fs : List (Int × Int)} {k : Int} (h : NOK ts fs) (hk : k = 1 ∨ k = 2) :
    0 < (addF fs (fkey ts fT k)).idxOf (fkey ts fT k) ∧ (addF fs (fkey ts fT k)).idxOf (fkey ts fT k) < (addF fs (fkey ts fT k)).length ∧ (cAt (addF fs (fkey ts fT k)) ((addF fs (fkey ts fT k)).idxOf (fkey ts fT k))).2 = k := by
  have hn := nok_f0 (nok_func h hk)
  obtain ⟨_, e2⟩ := nok_key h k
  obtain ⟨h1, h2⟩ := idx_at (addF_mem fs (fkey ts fT k))
  refine ⟨Nat.pos_of_ne_zero fun z => ?_, h1, by rw [h2, e2]⟩
  rw [z, hn.1, e2] at h2
  exact absurd (show (1 : Int) = 29 from congrArg Prod.fst h2) (by decide)
/-- a cell of a sound heap -/
noncomputable def CellOk (fs cs : List (Int × Int)) (i : Nat) : Prop :=
  let c := cAt cs i
  (c.1 = 0 ∧ 0 ≤ c.2 ∧ c.2 ≤ i) ∨ (c.1 = 3 ∧ 0 ≤ c.2 ∧ c.2 + 1 < cs.length) ∨ (c.1 = 4 ∨ c.1 = 5) ∨
  (c.1 = 6 ∧ 0 < c.2 ∧ c.2 < fs.length ∧ 1 ≤ (cAt fs c.2.toNat).2) ∨
  (c.1 = 2 ∧ 0 ≤ c.2 ∧ c.2 < i ∧ (cAt cs c.2.toNat).1 = 6 ∧ c.2 + (cAt fs (cAt cs c.2.toNat).2.toNat).2 < cs.length)
noncomputable def Sound (fs cs : List (Int × Int)) : Prop := ∀ i, i < cs.length → CellOk fs cs i
theorem ok_fault {fs cs : List (Int × Int)} {i : Nat} (hi : i < cs.length) (h : CellOk fs cs i) : cellFault fs cs i = Str.ofString "" := by
  unfold CellOk at h
  unfold cellFault
  dsimp only at *
  rcases h with ⟨h1, h2, h3⟩ | ⟨h1, h2, h3⟩ | h1 | ⟨h1, h2, h3, h4⟩ | ⟨h1, h2, h3, h4, h5⟩
  · rw [if_neg (by omega), if_neg (by omega), if_pos h1, if_neg (by omega), if_neg (by omega)]
  · rw [if_neg (by omega), if_neg (by omega), if_neg (by omega), if_pos h1, if_neg (by omega)]
  · rw [if_neg (by omega), if_neg (by omega), if_neg (by omega), if_neg (by omega), if_neg (by omega)]
  · rw [if_neg (by omega), if_pos h1, if_neg (by omega)]
  · rw [if_neg (by omega), if_neg (by omega), if_neg (by omega), if_neg (by omega), if_pos h1, if_neg (by omega), if_neg (by omega)]
theorem ok_fun {fs cs : List (Int × Int)} {i : Nat} (h : CellOk fs cs i) (h6 : (cAt cs i).1 = 6) : 0 < (cAt cs i).2 ∧ (cAt cs i).2 < fs.length ∧ 1 ≤ (cAt fs (cAt cs i).2.toNat).2 := by
  unfold CellOk at h
  dsimp only at h
  rcases h with ⟨h1, h2, h3⟩ | ⟨h1, h2, h3⟩ | h1 | ⟨h1, h2, h3, h4⟩ | ⟨h1, h2, h3, h4, h5⟩
  · omega
  · omega
  · omega
  · exact ⟨h2, h3, h4⟩
  · omega
theorem ok_str {fs cs : List (Int × Int)} {i : Nat} (h : CellOk fs cs i) (h2 : (cAt cs i).1 = 2) : 0 ≤ (cAt cs i).2 ∧ (cAt cs i).2 < i ∧ (cAt cs (cAt cs i).2.toNat).1 = 6 ∧ (cAt cs i).2 + (cAt fs (cAt cs (cAt cs i).2.toNat).2.toNat).2 < cs.length := by
  unfold CellOk at h
  dsimp only at h
  rcases h with ⟨h1, _, h3⟩ | ⟨h1, _, h3⟩ | h1 | ⟨h1, _, h3, h4⟩ | ⟨h1, h6, h3, h4, h5⟩
  · omega
  · omega
  · omega
  · omega
  · exact ⟨h6, h3, h4, h5⟩
theorem ok_keep {fs cs cs' x : List (Int × Int)} {i : Nat} (sd : Sound fs cs) (hl : cs.length ≤ cs'.length) (hi : i < cs.length) (e : cAt cs' i = cAt cs i) (hp : ∀ p : Nat, p + 1 < cs.length → (cAt cs p).1 = 6 → cAt cs' p = cAt cs p) : CellOk (fs ++ x) cs' i := by
  have h := sd i hi
  unfold CellOk at h ⊢
  dsimp only at *
  rw [e]
  rcases h with ⟨h1, h2, h3⟩ | ⟨h1, h2, h3⟩ | h1 | ⟨h1, h2, h3, h4⟩ | ⟨h1, h2, h3, h4, h5⟩
  · exact .inl ⟨h1, h2, h3⟩
  · exact .inr (.inl ⟨h1, h2, by omega⟩)
  · exact .inr (.inr (.inl h1))
  · refine .inr (.inr (.inr (.inl ⟨h1, h2, by rw [List.length_append]; omega, ?_⟩)))
    rw [cAt_left (by omega)]; exact h4
  · have h6 := ok_fun (sd (cAt cs i).2.toNat (by omega)) h4
    have e2 := hp (cAt cs i).2.toNat (by omega) h4
    refine .inr (.inr (.inr (.inr ⟨h1, h2, h3, by rw [e2]; exact h4, ?_⟩)))
    rw [e2, cAt_left (by omega)]; omega
theorem sound_fs {fs cs : List (Int × Int)} (x : List (Int × Int)) (sd : Sound fs cs) : Sound (fs ++ x) cs := fun _ hi => ok_keep sd (Nat.le_refl _) hi rfl fun _ _ _ => rfl
theorem sound_snoc {fs cs : List (Int × Int)} {c : Int × Int} (sd : Sound fs cs) (h : CellOk fs (cs ++ [c]) cs.length) : Sound fs (cs ++ [c]) := fun i hi => by
  rcases Nat.lt_or_ge i cs.length with q | q
  · have := ok_keep (x := []) (cs' := cs ++ [c]) sd (by simp) q (cAt_left q) fun p hp _ => cAt_left (by omega)
    rwa [List.append_nil] at this
  · have e : i = cs.length := by simp only [List.length_append, List.length_cons, List.length_nil] at hi; omega
    rw [e]; exact h
theorem simple_ok (fs cs : List (Int × Int)) (rem : List Int) : CellOk fs (cs ++ [simpleV rem cs.length]) cs.length := by
  unfold CellOk
  dsimp only
  rw [cAt_snoc]
  unfold simpleV
  split
  · exact .inr (.inr (.inl (.inl rfl)))
  · split
    · rename_i h
      have := takeV_range rem.tail h.2
      exact .inl ⟨rfl, this.1, by dsimp only; omega⟩
    · exact .inr (.inr (.inl (.inr rfl)))
noncomputable def HOk (v : HV) : Prop := NOK v.ts v.fs ∧ Sound v.fs v.cs
theorem hok_new {v : HV} (h : HOk v) : HOk (newV v) := ⟨h.1, sound_snoc h.2 (by unfold CellOk; dsimp only; rw [cAt_snoc]; exact .inl ⟨rfl, by dsimp only; omega, by dsimp only; omega⟩)⟩
theorem hok_push {v : HV} (h : HOk v) : HOk (pushV v) := ⟨h.1, sound_snoc h.2 (simple_ok _ _ _)⟩
theorem hok_pushes (n : Nat) {v : HV} (h : HOk v) : HOk (pushesV n v) := by
  induction n with
  | zero => exact h
  | succ n ih => exact hok_push ih
theorem hok_take {v : HV} (h : HOk v) : HOk (takeW v) := h
theorem hok_func {v : HV} {k : Int} (h : HOk v) (hk : k = 1 ∨ k = 2) : HOk (funcW v k) := by
  refine ⟨nok_func h.1 hk, ?_⟩
  obtain ⟨x, e⟩ := addF_ext v.fs (fkey v.ts fT k)
  show Sound (addF v.fs (fkey v.ts fT k)) v.cs
  rw [e]
  exact sound_fs x h.2
theorem pushes_cs (n : Nat) (v : HV) : ∃ z, (pushesV n v).cs = v.cs ++ z := by
  induction n with
  | zero => exact ⟨[], by simp [pushesV]⟩
  | succ n ih =>
    obtain ⟨z, e⟩ := ih
    exact ⟨_, by show (pushesV n v).cs ++ _ = _; rw [e, List.append_assoc]⟩
theorem hok_lap {v : HV} (h : HOk v) : HOk (lapV v) := by
  have h1 := hok_take h
  by_cases q0 : takeV v.rem 5 = 0
  · simp only [lapV, if_pos q0]; exact hok_new h1
  by_cases q1 : takeV v.rem 5 < 3
  · simp only [lapV, if_neg q0, if_pos q1]; exact hok_push h1
  by_cases q2 : takeV v.rem 5 = 3
  · simp only [lapV, if_neg q0, if_neg q1, if_pos q2]
    have h2 := hok_push (hok_push h1)
    refine ⟨h2.1, sound_snoc h2.2 ?_⟩
    unfold CellOk
    dsimp only
    rw [cAt_snoc]
    refine .inr (.inl ⟨rfl, by dsimp only; omega, ?_⟩)
    simp only [pushV, List.length_append, List.length_cons, List.length_nil]; omega
  simp only [lapV, if_neg q0, if_neg q1, if_neg q2]
  have hr := takeV_range (takeW v).rem (lim := 2) (by decide)
  have hk : 1 + takeV (takeW v).rem 2 = 1 ∨ 1 + takeV (takeW v).rem 2 = 2 := by omega
  generalize hw : 1 + takeV (takeW v).rem 2 = wide at *
  have h2 : HOk (takeW (takeW v)) := h1
  generalize takeW (takeW v) = u at *
  have h3 := hok_func h2 hk
  have hno := nok_no h2.1 hk
  have a1 : 0 < funNo u wide := Int.ofNat_lt.mpr hno.1
  have a2 : funNo u wide < ((funcW u wide).fs.length : Int) := Int.ofNat_lt.mpr hno.2.1
  have a3 : (cAt (funcW u wide).fs (funNo u wide).toNat).2 = wide := hno.2.2
  have h4 : HOk (cellW (funcW u wide) (6, funNo u wide)) := by
    refine ⟨h3.1, sound_snoc h3.2 ?_⟩
    unfold CellOk
    dsimp only
    rw [cAt_snoc]
    refine .inr (.inr (.inr (.inl ⟨rfl, ?_, ?_, ?_⟩)))
    · exact a1
    · exact a2
    · show 1 ≤ (cAt (funcW u wide).fs (funNo u wide).toNat).2
      rw [a3]; omega
  have h5 := hok_pushes wide.toNat h4
  have hl := pushes_len wide.toNat (cellW (funcW u wide) (6, funNo u wide))
  obtain ⟨z, ez⟩ := pushes_cs wide.toNat (cellW (funcW u wide) (6, funNo u wide))
  refine ⟨h5.1, sound_snoc h5.2 ?_⟩
  have l4 : (cellW (funcW u wide) (6, funNo u wide)).cs.length = (funcW u wide).cs.length + 1 := by simp [cellW]
  have e6 : cAt ((pushesV wide.toNat (cellW (funcW u wide) (6, funNo u wide))).cs ++ [(2, ((funcW u wide).cs.length : Int))]) (funcW u wide).cs.length = (6, funNo u wide) := by
    rw [cAt_left (by omega), ez, cAt_left (by omega)]
    exact cAt_snoc
  unfold CellOk
  dsimp only
  rw [cAt_snoc]
  dsimp only
  rw [Int.toNat_natCast, e6]
  refine .inr (.inr (.inr (.inr ⟨rfl, by omega, by omega, rfl, ?_⟩)))
  have e7 : (cAt (cellW (pushesV wide.toNat (cellW (funcW u wide) (6, funNo u wide))) (2, ((funcW u wide).cs.length : Int))).fs (funNo u wide).toNat).2 = wide := by
    show (cAt (pushesV wide.toNat (cellW (funcW u wide) (6, funNo u wide))).fs (funNo u wide).toNat).2 = wide
    rw [hl.2.2]
    exact a3
  dsimp only at e7 ⊢
  rw [e7]
  simp only [List.length_append, List.length_cons, List.length_nil]
  omega
theorem hok_laps (n : Nat) {v : HV} (h : HOk v) : HOk (lapsV n v) := by
  induction n with
  | zero => exact h
  | succ n ih => exact hok_lap ih
theorem hok_heap {rem : List Int} {ts : List Str} {fs : List (Int × Int)} (h : NOK ts fs) : HOk (heapV rem ts fs) :=
  hok_laps _ (hok_take (hok_new (v := ⟨rem, [], ts, fs⟩) ⟨h, fun i hi => absurd hi (Nat.not_lt_zero i)⟩))
theorem nok_heap {rem : List Int} {ts : List Str} {fs : List (Int × Int)} (h : NOK ts fs) : NOK (heapV rem ts fs).ts (heapV rem ts fs).fs := (hok_heap h).1
theorem sound_heap {rem : List Int} {ts : List Str} {fs : List (Int × Int)} (h : NOK ts fs) : Sound (heapV rem ts fs).fs (heapV rem ts fs).cs := (hok_heap h).2
theorem nok_spoil {way at' : Int} {cs : List (Int × Int)} {ts : List Str} {fs : List (Int × Int)} (h : NOK ts fs) : NOK (spoil way at' cs ts fs).2.2.1 (spoil way at' cs ts fs).2.2.2 := by
  unfold spoil
  dsimp only
  repeat' split
  all_goals first | exact h | exact nok_func h (.inl rfl)
/-- two heaps alike but for the names -/
noncomputable def Sim (v u : HV) : Prop := v.rem = u.rem ∧ v.cs.map (·.1) = u.cs.map (·.1)
theorem Sim.len {v u : HV} (s : Sim v u) : v.cs.length = u.cs.length := by have := congrArg List.length s.2; simpa using this
theorem Sim.cell {v u : HV} {c d : Int × Int} (s : Sim v u) (h : c.1 = d.1) : Sim (cellW v c) (cellW u d) := ⟨s.1, by simp [cellW, s.2, h]⟩
theorem Sim.take {v u : HV} (s : Sim v u) : Sim (takeW v) (takeW u) := ⟨by simp [takeW, s.1], s.2⟩
theorem Sim.func {v u : HV} {k l : Int} (s : Sim v u) : Sim (funcW v k) (funcW u l) := ⟨s.1, s.2⟩
theorem Sim.new {v u : HV} (s : Sim v u) : Sim (newV v) (newV u) := ⟨s.1, by simp [newV, s.2]⟩
theorem Sim.push {v u : HV} (s : Sim v u) : Sim (pushV v) (pushV u) := ⟨by simp [pushV, s.1], by simp [pushV, s.2, s.1, s.len]⟩
theorem Sim.pushes {v u : HV} (n : Nat) (s : Sim v u) : Sim (pushesV n v) (pushesV n u) := by
  induction n with
  | zero => exact s
  | succ n ih => exact ih.push
theorem Sim.lap {v u : HV} (s : Sim v u) : Sim (lapV v) (lapV u) := by
  have e := s.1
  by_cases q0 : takeV v.rem 5 = 0
  · have p0 := q0; rw [e] at p0
    simp only [lapV, if_pos q0, if_pos p0]; exact s.take.new
  by_cases q1 : takeV v.rem 5 < 3
  · have p0 := q0; rw [e] at p0
    have p1 := q1; rw [e] at p1
    simp only [lapV, if_neg q0, if_neg p0, if_pos q1, if_pos p1]; exact s.take.push
  have p0 := q0; rw [e] at p0
  have p1 := q1; rw [e] at p1
  by_cases q2 : takeV v.rem 5 = 3
  · have p2 := q2; rw [e] at p2
    simp only [lapV, if_neg q0, if_neg p0, if_neg q1, if_neg p1, if_pos q2, if_pos p2]; exact s.take.push.push.cell rfl
  have p2 := q2; rw [e] at p2
  simp only [lapV, if_neg q0, if_neg p0, if_neg q1, if_neg p1, if_neg q2, if_neg p2]
  have e2 : takeV (takeW v).rem 2 = takeV (takeW u).rem 2 := by rw [s.take.1]
  rw [e2]
  exact Sim.cell (Sim.pushes _ (Sim.cell (Sim.func (Sim.take s.take)) rfl)) rfl
theorem Sim.laps {v u : HV} (n : Nat) (s : Sim v u) : Sim (lapsV n v) (lapsV n u) := by
  induction n with
  | zero => exact s
  | succ n ih => exact ih.lap
theorem heap_tags (rem : List Int) (ts ts' : List Str) (fs fs' : List (Int × Int)) : (heapV rem ts fs).cs.map (·.1) = (heapV rem ts' fs').cs.map (·.1) :=
  (Sim.laps _ (Sim.take (Sim.new (v := ⟨rem, [], ts, fs⟩) (u := ⟨rem, [], ts', fs'⟩) ⟨rfl, rfl⟩))).2
theorem lap_cs (v : HV) : ∃ z, (lapV v).cs = v.cs ++ z := by
  by_cases q0 : takeV v.rem 5 = 0
  · simp only [lapV, if_pos q0]; exact ⟨_, rfl⟩
  by_cases q1 : takeV v.rem 5 < 3
  · simp only [lapV, if_neg q0, if_pos q1]; exact ⟨_, rfl⟩
  by_cases q2 : takeV v.rem 5 = 3
  · simp only [lapV, if_neg q0, if_neg q1, if_pos q2, cellW, pushV, takeW, List.append_assoc]; exact ⟨_, rfl⟩
  simp only [lapV, if_neg q0, if_neg q1, if_neg q2]
  obtain ⟨z, ez⟩ := pushes_cs (1 + takeV (takeW v).rem 2).toNat (cellW (funcW (takeW (takeW v)) (1 + takeV (takeW v).rem 2)) (6, funNo (takeW (takeW v)) (1 + takeV (takeW v).rem 2)))
  refine ⟨(6, funNo (takeW (takeW v)) (1 + takeV (takeW v).rem 2)) :: (z ++ [(2, ((funcW (takeW (takeW v)) (1 + takeV (takeW v).rem 2)).cs.length : Int))]), ?_⟩
  show (pushesV _ _).cs ++ _ = _
  rw [ez]
  simp [cellW, funcW, takeW]
theorem laps_cs (n : Nat) (v : HV) : ∃ z, (lapsV n v).cs = v.cs ++ z := by
  induction n with
  | zero => exact ⟨[], by simp [lapsV]⟩
  | succ n ih =>
    obtain ⟨z, e⟩ := ih
    obtain ⟨z', e'⟩ := lap_cs (lapsV n v)
    exact ⟨z ++ z', by rw [lapsV, e', e, List.append_assoc]⟩
theorem heap_len (rem : List Int) (ts : List Str) (fs : List (Int × Int)) : 0 < (heapV rem ts fs).cs.length ∧ (heapV rem ts fs).cs.length < 100 ∧ (cAt (heapV rem ts fs).cs 0).1 = 0 := by
  have h1 := (laps_len (takeV rem 12).toNat (startV rem ts fs)).1
  have h2 := takeV_range rem (lim := 12) (by decide)
  obtain ⟨z, e⟩ := laps_cs (takeV rem 12).toNat (startV rem ts fs)
  have e0 : (startV rem ts fs).cs = [(0, 0)] := rfl
  have l0 : (startV rem ts fs).cs.length = 1 := rfl
  unfold heapV
  refine ⟨?_, by omega, ?_⟩
  · rw [e, List.length_append]; omega
  · rw [e, e0]; rfl
theorem faults_none {fs cs : List (Int × Int)} {n : Nat} (h : ∀ i, i < n → cellFault fs cs i = Str.ofString "") : faultsTo fs cs n = [] := by
  induction n with
  | zero => rfl
  | succ n ih => rw [faultsTo, ih fun i hi => h i (by omega), faultAt, if_pos (h n (by omega))]; rfl
theorem sound_none {fs cs : List (Int × Int)} (h : Sound fs cs) : faultsTo fs cs cs.length = [] := faults_none fun i hi => ok_fault hi (h i hi)
theorem sound_fun {fs cs : List (Int × Int)} (h : Sound fs cs) : FunOk fs cs := fun i hi h6 => let q := ok_fun (h i hi) h6; ⟨Int.le_of_lt q.1, q.2.1⟩
theorem faults_one {fs cs : List (Int × Int)} {n k : Nat} {x : Str} (hk : k < n) (h1 : cellFault fs cs k = x) (hx : x ≠ Str.ofString "") (h2 : ∀ i, i < n → i ≠ k → cellFault fs cs i = Str.ofString "") : faultsTo fs cs n = [((k : Int), x)] := by
  induction n with
  | zero => omega
  | succ n ih =>
    rw [faultsTo]
    by_cases e : k = n
    · subst e
      rw [faults_none fun i hi => h2 i (by omega) (by omega), faultAt, if_neg (by rw [h1]; exact hx), h1]; rfl
    · rw [ih (by omega) fun i hi hn => h2 i (by omega) hn, faultAt, if_pos (h2 n (by omega) (Ne.symm e))]; rfl
theorem spoil_one {a : Nat} {cs fs : List (Int × Int)} {c : Int × Int} {x : Str} (sd : Sound fs cs) (h1 : a < cs.length) (h6 : (cAt cs a).1 ≠ 6) (c6 : c.1 ≠ 6) (hf : cellFault fs (cs.set a c) a = x) (hx : x ≠ Str.ofString "") :
    faultsTo fs (cs.set a c) (cs.set a c).length = [((a : Int), x)] ∧ FunOk fs (cs.set a c) ∧ (cs.set a c).length = cs.length := by
  have hl : (cs.set a c).length = cs.length := by simp
  have ok : ∀ i, i < cs.length → i ≠ a → CellOk fs (cs.set a c) i := fun i hi n => by
    have := ok_keep (x := []) (cs' := cs.set a c) sd (by rw [hl]; exact Nat.le_refl _) hi (cAt_other (Ne.symm n)) fun p _ p6 => cAt_other fun e => h6 (e ▸ p6)
    rwa [List.append_nil] at this
  refine ⟨faults_one (by omega) hf hx fun i hi n => ok_fault hi (ok i (by omega) n), fun i hi i6 => ?_, hl⟩
  by_cases e : i = a
  · subst e; rw [cAt_self h1] at i6; exact absurd i6 c6
  · have q := ok_fun (ok i (by omega) e) i6
    exact ⟨Int.le_of_lt q.1, q.2.1⟩
theorem spoil_two {a : Nat} {cs : List (Int × Int)} {ts : List Str} {fs : List (Int × Int)} (nk : NOK ts fs) (sd : Sound fs cs) (h1 : a + 1 < cs.length) (h6 : (cAt cs a).1 ≠ 6) :
    let fs' := addF fs (fkey ts fT 1)
    let cs' := (cs.set (cs.length - 1) (6, ((fs'.idxOf (fkey ts fT 1) : Nat) : Int))).set a (2, (cs.length : Int) - 1)
    faultsTo fs' cs' cs'.length = [((a : Int), Str.ofString "structure beyond the heap")] ∧ FunOk fs' cs' ∧ cs'.length = cs.length := by
  obtain ⟨z, ez⟩ := addF_ext fs (fkey ts fT 1)
  have hno := nok_no nk (k := 1) (.inl rfl)
  generalize hi : (addF fs (fkey ts fT 1)).idxOf (fkey ts fT 1) = no at *
  generalize hg : addF fs (fkey ts fT 1) = fs' at *
  intro fs9 cs'
  have hl : cs'.length = cs.length := by simp [cs']
  have ea : cAt cs' a = (2, (cs.length : Int) - 1) := cAt_self (by simp; omega)
  have el : cAt cs' (cs.length - 1) = (6, (no : Int)) := by
    show cAt ((cs.set _ _).set a _) _ = _
    rw [cAt_other (by omega), cAt_self (by omega), ← hi]
  have eo : ∀ i, i ≠ a → i ≠ cs.length - 1 → cAt cs' i = cAt cs i := fun i n1 n2 => by
    show cAt ((cs.set _ _).set a _) _ = _
    rw [cAt_other (Ne.symm n1), cAt_other (Ne.symm n2)]
  have ok : ∀ i, i < cs.length → i ≠ a → CellOk fs' cs' i := fun i hi n => by
    by_cases q : i = cs.length - 1
    · unfold CellOk
      dsimp only
      rw [q, el]
      refine .inr (.inr (.inr (.inl ⟨rfl, ?_, ?_, ?_⟩)))
      · dsimp only; omega
      · dsimp only; omega
      · dsimp only; rw [Int.toNat_natCast]; omega
    · rw [ez]
      exact ok_keep sd (by rw [hl]; exact Nat.le_refl _) hi (eo i n q) fun p p1 p6 => eo p (fun e => h6 (e ▸ p6)) (by omega)
  refine ⟨faults_one (by omega) ?_ (by decide +kernel) fun i hi n => ok_fault hi (ok i (by omega) n), fun i hi i6 => ?_, hl⟩
  · unfold cellFault
    dsimp only
    have e3 : ((cs.length : Int) - 1).toNat = cs.length - 1 := by omega
    rw [ea, hl]
    dsimp only
    rw [e3, el]
    dsimp only
    rw [if_neg (by decide), if_neg (by decide), if_neg (by decide), if_neg (by decide), if_pos rfl, if_neg (by omega), Int.toNat_natCast, if_pos (by show (cs.length : Int) ≤ (cs.length : Int) - 1 + (cAt fs' no).2; omega)]
  · by_cases e : i = a
    · subst e; rw [ea] at i6; exact absurd (show (2 : Int) = 6 from i6) (by decide)
    · have q := ok_fun (ok i (by omega) e) i6
      exact ⟨Int.le_of_lt q.1, q.2.1⟩
theorem spoil_ok {way at' : Int} {cs : List (Int × Int)} {ts : List Str} {fs : List (Int × Int)} (n : NOK ts fs) (h : Sound fs cs) (h0 : 0 ≤ at') (h1 : at' < cs.length) (h6 : (cAt cs at'.toNat).1 ≠ 6) :
    faultsTo (spoil way at' cs ts fs).2.2.2 (spoil way at' cs ts fs).1 (spoil way at' cs ts fs).1.length = (spoil way at' cs ts fs).2.1 ∧ FunOk (spoil way at' cs ts fs).2.2.2 (spoil way at' cs ts fs).1 ∧ (spoil way at' cs ts fs).1.length = cs.length := by
  obtain ⟨a, rfl⟩ := Int.eq_ofNat_of_zero_le h0
  rw [Int.toNat_natCast] at h6
  have h2 : a < cs.length := by omega
  have hl : ∀ c : Int × Int, (cs.set a c).length = cs.length := fun c => by simp
  unfold spoil
  dsimp only
  rw [Int.toNat_natCast]
  split
  · exact spoil_one h h2 h6 (by dsimp only; decide) (by unfold cellFault; dsimp only; rw [cAt_self h2]; rfl) (by decide +kernel)
  split
  · exact spoil_one h h2 h6 (by dsimp only; decide) (by unfold cellFault; dsimp only; rw [cAt_self h2, hl]; dsimp only; rw [if_neg (by decide), if_neg (by decide), if_pos rfl, if_pos (by omega)]) (by decide +kernel)
  split
  · exact spoil_one h h2 h6 (by dsimp only; decide) (by unfold cellFault; dsimp only; rw [cAt_self h2, hl]; dsimp only; rw [if_neg (by decide), if_neg (by decide), if_pos rfl, if_pos (by omega)]) (by decide +kernel)
  split
  · split
    · exact spoil_one h h2 h6 (by dsimp only; decide) (by unfold cellFault; dsimp only; rw [cAt_self h2, hl]; dsimp only; rw [if_neg (by decide), if_neg (by decide), if_pos rfl, if_neg (by omega), if_pos (by omega)]) (by decide +kernel)
    · exact ⟨sound_none h, sound_fun h, rfl⟩
  split
  · exact spoil_one h h2 h6 (by dsimp only; decide) (by unfold cellFault; dsimp only; rw [cAt_self h2, hl]; dsimp only; rw [if_neg (by decide), if_neg (by decide), if_neg (by decide), if_pos rfl, if_pos (by omega)]) (by decide +kernel)
  split
  · exact spoil_one h h2 h6 (by dsimp only; decide) (by unfold cellFault; dsimp only; rw [cAt_self h2, hl]; dsimp only; rw [if_neg (by decide), if_neg (by decide), if_neg (by decide), if_pos rfl, if_pos (by omega)]) (by decide +kernel)
  split
  · exact spoil_one h h2 h6 (by dsimp only; decide) (by unfold cellFault; dsimp only; rw [cAt_self h2, hl]; dsimp only; rw [Int.toNat_natCast, cAt_self h2, if_neg (by decide), if_neg (by decide), if_neg (by decide), if_neg (by decide), if_pos rfl, if_pos (.inr (.inr (by dsimp only; decide)))]) (by decide +kernel)
  split
  · exact spoil_one h h2 h6 (by dsimp only; decide) (by unfold cellFault; dsimp only; rw [cAt_self h2, hl]; dsimp only; rw [if_neg (by decide), if_neg (by decide), if_neg (by decide), if_neg (by decide), if_pos rfl, if_pos (.inr (.inl (Int.le_refl _)))]) (by decide +kernel)
  split
  · split
    · have e : ((cs.length : Int) - 1).toNat = cs.length - 1 := by omega
      rw [e]
      exact spoil_two n h (by omega) h6
    · exact ⟨sound_none h, sound_fun h, rfl⟩
  · exact ⟨sound_none h, sound_fun h, rfl⟩
theorem rangeKs_succ (n : Nat) : rangeKs 0 (n + 1) = rangeKs 0 n ++ [(n : Int)] := by
  simp [rangeKs, List.range_succ]
theorem cells6_succ (p : Int → Bool) (n : Nat) : cells6 p (n + 1) = cells6 p n ++ (if p n then [(n : Int)] else []) := by
  unfold cells6
  rw [rangeKs_succ, List.filter_append]
  congr 1
  rw [List.filter_cons, List.filter_nil]
theorem faults_map {fs cs : List (Int × Int)} {q : Int → Bool} {f : Int → Str} : ∀ {n : Nat}, (∀ i : Nat, i < n → q i = true → cellFault fs cs i = f i ∧ f i ≠ Str.ofString "") → (∀ i : Nat, i < n → q i = false → cellFault fs cs i = Str.ofString "") → faultsTo fs cs n = (cells6 q n).map fun k => (k, f k)
  | 0, _, _ => rfl
  | n + 1, h1, h2 => by
    rw [faultsTo, faults_map (fun i hi => h1 i (by omega)) (fun i hi => h2 i (by omega)), cells6_succ, List.map_append]
    congr 1
    unfold faultAt
    cases e : q n with
    | true =>
      obtain ⟨a, b⟩ := h1 n (by omega) e
      rw [if_neg (by rw [a]; exact b), a]; rfl
    | false => rw [if_pos (h2 n (by omega) e)]; rfl
theorem cells6_none {r : Int → Bool} {n : Nat} (h : ∀ i : Nat, i < n → r i = false) : cells6 r n = [] := by
  induction n with
  | zero => rfl
  | succ n ih => rw [cells6_succ, ih fun i hi => h i (by omega), h n (by omega)]; rfl
theorem cells6_congr {q r : Int → Bool} {n : Nat} (h : ∀ i : Nat, i < n → q i = r i) : cells6 q n = cells6 r n := by
  induction n with
  | zero => rfl
  | succ n ih => rw [cells6_succ, cells6_succ, ih fun i hi => h i (by omega), h n (by omega)]
theorem cells6_head {r : Int → Bool} {p : Nat} : ∀ {n : Nat}, (∀ i : Nat, i < n → r i = true → p < i) → cells6 (fun k => decide (k = (p : Int)) || r k) n = (if p < n then [(p : Int)] else []) ++ cells6 r n
  | 0, _ => rfl
  | n + 1, h => by
    rw [cells6_succ, cells6_head fun i hi => h i (by omega), cells6_succ]
    by_cases e : n = p
    · subst e
      rw [cells6_none fun i hi => by
        cases z : r i with
        | false => rfl
        | true => have := h i (by omega) z; omega]
      have z : r n = false := by
        cases z : r n with
        | false => rfl
        | true => have := h n (by omega) z; omega
      simp [z]
    · have e2 : (if p < n + 1 then [(p : Int)] else []) = if p < n then [(p : Int)] else [] := by
        by_cases q : p < n
        · rw [if_pos q, if_pos (by omega)]
        · rw [if_neg q, if_neg (by omega)]
      have e3 : decide ((n : Int) = (p : Int)) = false := by simpa using fun q : (n : Int) = p => e (by omega)
      rw [e2, e3, Bool.false_or, List.append_assoc]
theorem fspoil_ok {way place : Int} {cs : List (Int × Int)} {ts : List Str} {fs : List (Int × Int)} (n : NOK ts fs) (h : Sound fs cs) (h0 : 0 ≤ place) (h1 : place < cs.length) (h6 : (cAt cs place.toNat).1 = 6) :
    faultsTo fs (fspoil way place cs).1 (fspoil way place cs).1.length = (fspoil way place cs).2 ∧ FunOk fs (fspoil way place cs).1 ∧ (fspoil way place cs).1.length = cs.length := by
  obtain ⟨a, rfl⟩ := Int.eq_ofNat_of_zero_le h0
  rw [Int.toNat_natCast] at h6
  have h2 : a < cs.length := by omega
  have hl : ∀ c : Int × Int, (cs.set a c).length = cs.length := fun c => by simp
  obtain ⟨f0, fl⟩ := nok_f0 n
  have ok : ∀ (c : Int × Int) (i : Nat), i < cs.length → i ≠ a → cAt cs i ≠ (2, (a : Int)) → CellOk fs (cs.set a c) i := fun c i hi n2 n3 => by
    have h3 := h i hi
    have h5 := cAt_other (cs := cs) (c := c) (Ne.symm n2)
    unfold CellOk at h3 ⊢
    dsimp only at *
    rw [h5, hl]
    rcases h3 with q | q | q | q | ⟨q1, q2, q3, q4, q5⟩
    · exact .inl q
    · exact .inr (.inl q)
    · exact .inr (.inr (.inl q))
    · exact .inr (.inr (.inr (.inl q)))
    · have e : a ≠ (cAt cs i).2.toNat := fun e => n3 (Prod.ext q1 (by dsimp only; omega))
      rw [cAt_other e]
      exact .inr (.inr (.inr (.inr ⟨q1, q2, q3, q4, q5⟩)))
  have fo : ∀ (c : Int × Int), (c.1 = 6 → 0 ≤ c.2 ∧ c.2 < fs.length) → FunOk fs (cs.set a c) := fun c hc i hi i6 => by
    by_cases e : i = a
    · subst e; rw [cAt_self h2] at i6 ⊢; exact hc i6
    · rw [cAt_other (Ne.symm e)] at i6 ⊢
      exact sound_fun h i (by simpa using hi) i6
  unfold fspoil
  split
  · dsimp only
    rw [Int.toNat_natCast]
    refine ⟨?_, fo _ (fun e => absurd e (by decide)), hl _⟩
    rw [hl]
    refine faults_map (fun i hi q => ⟨?_, by decide +kernel⟩) fun i hi q => ?_
    · have q2 : cAt cs i = (2, (a : Int)) := by simpa using q
      have ia : i ≠ a := fun e => by subst e; rw [q2] at h6; exact absurd (show (2 : Int) = 6 from h6) (by decide)
      unfold cellFault
      dsimp only
      rw [cAt_other (Ne.symm ia), q2, hl]
      dsimp only
      rw [Int.toNat_natCast, cAt_self h2, if_neg (by decide), if_neg (by decide), if_neg (by decide), if_neg (by decide), if_pos rfl, if_pos (.inr (.inr (by dsimp only; decide)))]
    · have q2 : cAt cs i ≠ (2, (a : Int)) := by simpa using q
      by_cases ia : i = a
      · subst ia
        unfold cellFault
        dsimp only
        rw [cAt_self h2]
        rfl
      · exact ok_fault (by rw [hl]; exact hi) (ok _ i hi ia q2)
  · dsimp only
    rw [Int.toNat_natCast]
    refine ⟨?_, fo _ (fun _ => ⟨Int.le_refl _, by dsimp only; omega⟩), hl _⟩
    rw [hl]
    have hp : ∀ i : Nat, i < cs.length → cAt (cs.set a (6, 0)) i = (2, (a : Int)) → a < i := fun i hi e => by
      by_cases ia : i = a
      · subst ia; rw [cAt_self h2] at e; exact absurd (show (6 : Int) = 2 from congrArg Prod.fst e) (by decide)
      · rw [cAt_other (Ne.symm ia)] at e
        have := ok_str (h i hi) (by rw [e])
        rw [e] at this
        have := this.2.1
        dsimp only at this
        omega
    have e1 : faultsTo fs (cs.set a (6, 0)) cs.length = (cells6 (fun k => decide (k = (a : Int)) || (decide (cAt (cs.set a (6, 0)) k.toNat = (2, (a : Int))) && decide ((cs.length : Int) ≤ a + 2))) cs.length).map fun k => (k, if k = (a : Int) then Str.ofString "list functor in a functor cell" else Str.ofString "structure beyond the heap") := by
      refine faults_map (f := fun k => if k = (a : Int) then Str.ofString "list functor in a functor cell" else Str.ofString "structure beyond the heap") (fun i hi q => ⟨?_, ?_⟩) fun i hi q => ?_
      · by_cases ia : i = a
        · subst ia
          unfold cellFault
          dsimp only
          rw [cAt_self h2, if_pos rfl]
          rw [if_neg (by decide), if_pos rfl, if_pos rfl]
        · have ia' : ¬ (i : Int) = a := by omega
          simp only [ia', decide_false, Bool.false_or, Bool.and_eq_true, decide_eq_true_eq, Int.toNat_natCast] at q
          rw [if_neg ia']
          unfold cellFault
          dsimp only
          rw [q.1, hl]
          dsimp only
          rw [Int.toNat_natCast, cAt_self h2]
          dsimp only
          rw [if_neg (by decide), if_neg (by decide), if_neg (by decide), if_neg (by decide), if_pos rfl, if_neg (by omega)]
          have f1 : (cAt fs (0 : Int).toNat).2 = 2 := by show (cAt fs 0).2 = 2; rw [f0]
          rw [f1, if_pos q.2]
      · split
        · decide +kernel
        · decide +kernel
      · simp only [Bool.or_eq_false_iff, decide_eq_false_iff_not, Bool.and_eq_false_iff, Int.toNat_natCast] at q
        have ia : i ≠ a := by have := q.1; omega
        by_cases q2 : cAt cs i = (2, (a : Int))
        · have q3 : ¬ (cs.length : Int) ≤ (a : Int) + 2 := by
            rcases q.2 with q | q
            · rw [cAt_other (Ne.symm ia)] at q; exact absurd q2 q
            · exact q
          unfold cellFault
          dsimp only
          rw [cAt_other (Ne.symm ia), q2, hl]
          dsimp only
          rw [Int.toNat_natCast, cAt_self h2]
          dsimp only
          have f1 : (cAt fs (0 : Int).toNat).2 = 2 := by show (cAt fs 0).2 = 2; rw [f0]
          rw [if_neg (by decide), if_neg (by decide), if_neg (by decide), if_neg (by decide), if_pos rfl, if_neg (by omega), f1, if_neg q3]
        · exact ok_fault (by rw [hl]; exact hi) (ok _ i hi ia q2)
    rw [e1, cells6_head (p := a) fun i hi q => hp i hi (by simp only [Bool.and_eq_true, decide_eq_true_eq, Int.toNat_natCast] at q; exact q.1), if_pos h2, List.map_append]
    rw [List.map_cons, List.map_nil, if_pos rfl, List.singleton_append]
    congr 1
    unfold ptrs
    rw [hl]
    unfold cells6
    rw [List.filter_filter]
    have e4 : ∀ k : Int, (decide ((cs.length : Int) ≤ (a : Int) + 2) && decide (cAt (cs.set a (6, 0)) k.toNat = (2, (a : Int)))) = (decide (cAt (cs.set a (6, 0)) k.toNat = (2, (a : Int))) && decide ((cs.length : Int) ≤ (a : Int) + 2)) := fun k => Bool.and_comm _ _
    simp only [e4]
    refine List.map_congr_left fun k hk => ?_
    obtain ⟨k1, k2⟩ := List.mem_filter.mp hk
    have k3 := mem_rangeKs k1
    simp only [Bool.and_eq_true, decide_eq_true_eq] at k2
    have := hp k.toNat (by omega) k2.1
    rw [if_neg (by omega)]
section
noncomputable def e0 : Heap := default
theorem e0_none (b : Addr) : e0.get? b = none := rfl
noncomputable abbrev LX.cs {w : World} {nm : NAd} {c : Addr} {a : SAd} {cs : List (Int × Int)} {ts : List Str} {fs : List (Int × Int)} {cv : Option Value} {h : Heap} (_ : LX w nm c a cs ts fs cv h) : List (Int × Int) := cs
noncomputable def tagsOf (rem : List Int) : List Int := (heapV rem T0 F0).cs.map (·.1)
theorem purse_new {g h : Heap} {L pu sc : Addr} {rest : List (Addr × Obj)} {pos : Int} {kp : Tok} {n n2 : Nat} {ws : List Value} {ns : List Int} (N : News g L h ((pu, PySem.W.listOf #[.ref sc, .int pos kp] n) :: (sc, PySem.W.listOf (List.toArray ws) n2) :: rest)) (hi : IntsAre ws ns) (h0 : 0 ≤ pos) (hz : ns.length < 1000) (lt : @LT.lt Nat _ sc pu) : PurseS h pu sc (ns.drop pos.toNat) :=
  ⟨⟨ws, ns, pos, kp, n, (N _ (.head _)).1, ⟨_, (N _ (.tail _ (.head _))).1, rfl, _, rfl⟩, hi, h0, hz, rfl⟩, Nat.ne_of_gt lt⟩
theorem l_heap1 {w : World} {mg mb : Str → Option Value} {g h0 hs : Heap} {L : Addr} {W : List Addr} {m : Str → Option Value} {lst : List (Addr × Obj)} {A : Around} {s : Shared} {nm : NAd} {c : Addr} {ts : List Str} {fs : List (Int × Int)} {cv : Option Value} {pu sc : Addr} {ws : List Value} {n n2 : Nat} {kp : Tok} {ns : List Int} {Q E : Value → Shared → Prop}
    (F : Fr g L s.heap m) (N : News g L s.heap ((pu, PySem.W.listOf #[.ref sc, .int 0 kp] n) :: (sc, PySem.W.listOf (List.toArray ws) n2) :: lst)) (X : (frag.heap_1 w.params).In g) (T : TopRead vw (looseW vw [Str.ofString "VOID", Str.ofString "Store"]) mg mb g) (S : Gl g L W h0 hs lst) (H : LS w nm c ts fs cv hs) (al : AL g L nm c) (hi : IntsAre ws ns) (hz : ns.length < 1000) (lx : ∀ p ∈ lst, p.1 < sc) (lt : @LT.lt Nat _ sc pu) (nok : NOK ts fs)
    (hWl : ∀ q ∈ W, q ∈ c :: naddrs nm) (hW : ∀ q ∈ [nm.tx, nm.an, nm.fx, nm.fn], q ∈ W ∨ h0.get? q = none) (hh : A.handled = none) (hd : A.depth ≤ 600) (hu : A.units ≤ 6000)
    (hQ : ∀ h' tk' a lst' cs' ts' fs', Fr g L h' m → News g L h' lst' → Gl g L W h0 h' lst' → LX w nm c a cs' ts' fs' cv h' → AX g L nm c a → (∀ x ∈ saddrs a, h0.get? x = none) → a.N = nm.N → NOK ts' fs' → Sound fs' cs' → FunOk fs' cs' → faultsTo fs' cs' cs'.length = [] → cs'.map (·.1) = tagsOf ns → cs'.length = (tagsOf ns).length → 0 < cs'.length → cs'.length < 100 → (cAt cs' 0).1 = 0 →
      (∀ p2 s2 r2, PurseS hs p2 s2 r2 → (p2 ≠ L ∧ g.get? p2 = none) → (s2 ≠ L ∧ g.get? s2 = none) → p2 ∉ c :: naddrs nm → s2 ∉ c :: naddrs nm → PurseS h' p2 s2 r2 ∧ p2 ∉ saddrs a ∧ s2 ∉ saddrs a) → Q (.ref a.S) { s with heap := h', toks := tk' }) :
    wpAny (model PySem.Challenge.rw_ok0022_01.row.prog w) A (call (.ref 418) [.ref pu, .ref nm.N]) Q E s := by
  have hl := nok_len nok
  have hh1 := heap_len ns ts fs
  have ht := heap_tags ns ts T0 fs F0
  refine l_heap F N X T S (fun _ h => .tail _ (.tail _ h)) H al (purse_new N hi (Int.le_refl 0) hz lt) (N _ (.head _)).2 (N _ (.tail _ (.head _))).2 (fun p hp => Nat.ne_of_lt (lx p hp)) (fun p hp => Nat.ne_of_lt (Nat.lt_trans (lx p hp) lt)) (by omega) (by omega) hWl hW hh hd hu fun h' tk' a lst' F' N' S' eN H' ax fr hp => ?_
  have sd := sound_heap (rem := ns) nok
  exact hQ h' tk' a lst' _ _ _ F' N' S' H' ax fr eN (nok_heap nok) sd (sound_fun sd) (sound_none sd) ht (by rw [← List.length_map (f := fun (x : Int × Int) => x.1)]; exact congrArg List.length ht) hh1.1 hh1.2.1 hh1.2.2 hp
noncomputable def funsOf (tags : List Int) : List Int := cells6 (fun k => decide (tags.getD k.toNat 0 = 6)) tags.length
theorem funs_is {vs : List Value} {cs : List (Int × Int)} {tags : List Int} (hi : IntsAre vs (cells6 (fun k => decide ((cAt cs k.toNat).1 = 6)) cs.length)) (e : cs.map (·.1) = tags) : IntsAre vs (funsOf tags) ∧ vs.length = (funsOf tags).length ∧ vs.length ≤ cs.length := by
  have q : cells6 (fun k => decide ((cAt cs k.toNat).1 = 6)) cs.length = funsOf tags := by
    subst e
    unfold funsOf cells6
    rw [List.length_map]
    refine List.filter_congr fun k _ => ?_
    unfold cAt
    rw [List.getD_eq_getElem?_getD, List.getD_eq_getElem?_getD, List.getElem?_map]
    cases cs[k.toNat]? <;> simp
  rw [q] at hi
  refine ⟨hi, hi.length, ?_⟩
  rw [hi.length, ← q]
  exact Nat.le_trans (List.length_filter_le _ _) (by rw [rangeKs_length]; exact Nat.le_refl _)
theorem mem_cells6 {p : Int → Bool} {n : Nat} {x : Int} (h : x ∈ cells6 p n) : 0 ≤ x ∧ x < n ∧ p x = true := by
  obtain ⟨h1, h2⟩ := List.mem_filter.mp h
  have := mem_rangeKs h1
  exact ⟨by omega, by omega, h2⟩
theorem cells6_at {p : Int → Bool} {n j : Nat} (h : j < (cells6 p n).length) : 0 ≤ (cells6 p n).getD j 0 ∧ (cells6 p n).getD j 0 < n ∧ p ((cells6 p n).getD j 0) = true := by
  rw [List.getD_eq_getElem?_getD, List.getElem?_eq_getElem h]
  exact mem_cells6 (List.getElem_mem h)
theorem cells6_pos {p : Int → Bool} {n : Nat} {ys : List Value} (hi : IntsAre ys (cells6 p n)) (h0 : p 0 = true) (hn : 0 < n) : 0 < ys.length := by
  rw [hi.length]
  refine List.length_pos_of_mem (a := 0) (List.mem_filter.mpr ⟨?_, h0⟩)
  exact List.mem_map.mpr ⟨0, List.mem_range.mpr hn, by simp⟩
theorem mod_at {x : Int} {n : Nat} (h : 0 < n) : (Int.fmod x (n : Int)).toNat < n := by
  rw [Int.fmod_eq_emod_of_nonneg x (by omega)]
  have h1 := Int.emod_nonneg x (b := (n : Int)) (by omega)
  have h2 := Int.emod_lt_of_pos x (b := (n : Int)) (by omega)
  omega
theorem l_spoiled1 {w : World} {mg mb : Str → Option Value} {g h0 hs : Heap} {L : Addr} {W : List Addr} {m : Str → Option Value} {news lst : List (Addr × Obj)} {A : Around} {s : Shared} {nm : NAd} {c : Addr} {a : SAd} {cs : List (Int × Int)} {ts : List Str} {fs : List (Int × Int)} {cv : Option Value} {way at' : Int} {kw ka : Tok} {Q E : Value → Shared → Prop}
    (F : Fr g L s.heap m) (N : News g L s.heap news) (X : (frag.heap_1 w.params).In g) (T : TopRead vw (looseW vw [Str.ofString "VOID", Str.ofString "Store"]) mg mb g) (S : Gl g L W h0 hs lst) (hl : ∀ p ∈ lst, p ∈ news) (H : LX w nm c a cs ts fs cv hs) (ax : AX g L nm c a) (k0 : 0 ≤ at') (k1 : at' < cs.length) (h6 : (cAt cs at'.toNat).1 ≠ 6) (nok : NOK ts fs) (sd : Sound fs cs) (hz : cs.length < 100) (hW : ∀ q ∈ [nm.tx, nm.an, nm.fx, nm.fn, a.hp], q ∈ W ∨ h0.get? q = none) (hh : A.handled = none) (hd : A.depth ≤ 600) (hu : A.units ≤ 6000)
    (hQ : ∀ h' tk' t lst' cs' rows ts' fs', Fr g L h' m → News g L h' lst' → Gl g L W h0 h' lst' → LX w nm c a cs' ts' fs' cv h' → DueL L h' t rows → faultsTo fs' cs' cs'.length = rows → FunOk fs' cs' → cs'.length = cs.length → NOK ts' fs' → Q (.ref t) { s with heap := h', toks := tk' }) :
    wpAny (model PySem.Challenge.rw_ok0022_01.row.prog w) A (call (.ref 435) [.ref a.S, .int way kw, .int at' ka, .ref nm.N]) Q E s := by
  have hn := nok_len nok
  have so := spoil_ok (way := way) nok sd k0 k1 h6
  exact l_spoiled F N X T S hl H ax k0 k1 (by omega) (by omega) (by omega) hW hh hd hu fun h' tk' t lst' F' N' S' H' D' => hQ h' tk' t lst' _ _ _ _ F' N' S' H' D' so.1 so.2.1 so.2.2 (nok_spoil nok)
theorem l_spoiled2 {w : World} {mg mb : Str → Option Value} {g h0 hs : Heap} {L : Addr} {W : List Addr} {m : Str → Option Value} {news lst : List (Addr × Obj)} {A : Around} {s : Shared} {nm : NAd} {c : Addr} {a : SAd} {cs : List (Int × Int)} {ts : List Str} {fs : List (Int × Int)} {cv : Option Value} {way at' x : Int} {kw ka : Tok} {ys : List Value} {Q E : Value → Shared → Prop}
    (F : Fr g L s.heap m) (N : News g L s.heap news) (X : (frag.heap_1 w.params).In g) (T : TopRead vw (looseW vw [Str.ofString "VOID", Str.ofString "Store"]) mg mb g) (S : Gl g L W h0 hs lst) (hl : ∀ p ∈ lst, p ∈ news) (H : LX w nm c a cs ts fs cv hs) (ax : AX g L nm c a) (hi : IntsAre ys (cells6 (fun k => decide (¬ (cAt cs k.toNat).1 = 6)) cs.length)) (hy : 0 < ys.length) (e : at' = (cells6 (fun k => decide (¬ (cAt cs k.toNat).1 = 6)) cs.length).getD (Int.fmod x (ys.length : Int)).toNat 0) (nok : NOK ts fs) (sd : Sound fs cs) (hz : cs.length < 100) (hW : ∀ q ∈ [nm.tx, nm.an, nm.fx, nm.fn, a.hp], q ∈ W ∨ h0.get? q = none) (hh : A.handled = none) (hd : A.depth ≤ 600) (hu : A.units ≤ 6000)
    (hQ : ∀ h' tk' t lst' cs' rows ts' fs', Fr g L h' m → News g L h' lst' → Gl g L W h0 h' lst' → LX w nm c a cs' ts' fs' cv h' → DueL L h' t rows → faultsTo fs' cs' cs'.length = rows → FunOk fs' cs' → cs'.length = cs.length → NOK ts' fs' → Q (.ref t) { s with heap := h', toks := tk' }) :
    wpAny (model PySem.Challenge.rw_ok0022_01.row.prog w) A (call (.ref 435) [.ref a.S, .int way kw, .int at' ka, .ref nm.N]) Q E s := by
  have hj : (Int.fmod x (ys.length : Int)).toNat < (cells6 (fun k => decide (¬ (cAt cs k.toNat).1 = 6)) cs.length).length := by rw [← hi.length]; exact mod_at hy
  obtain ⟨h1, h2, h3⟩ := cells6_at hj
  rw [← e] at h1 h2 h3
  exact l_spoiled1 F N X T S hl H ax h1 h2 (by simpa using h3) nok sd hz hW hh hd hu hQ
theorem l_fspoiled1 {w : World} {mg mb : Str → Option Value} {g h0 hs : Heap} {L : Addr} {W : List Addr} {m : Str → Option Value} {news lst : List (Addr × Obj)} {A : Around} {s : Shared} {nm : NAd} {c : Addr} {a : SAd} {cs : List (Int × Int)} {ts : List Str} {fs : List (Int × Int)} {cv : Option Value} {way place : Int} {kw kp' : Tok} {Q E : Value → Shared → Prop}
    (F : Fr g L s.heap m) (N : News g L s.heap news) (X : (frag.heap_1 w.params).In g) (T : TopRead vw (looseW vw [Str.ofString "VOID", Str.ofString "Store"]) mg mb g) (S : Gl g L W h0 hs lst) (hl : ∀ p ∈ lst, p ∈ news) (H : LX w nm c a cs ts fs cv hs) (ax : AX g L nm c a) (k0 : 0 ≤ place) (k1 : place < cs.length) (h6 : (cAt cs place.toNat).1 = 6) (nok : NOK ts fs) (sd : Sound fs cs) (hz : cs.length < 100) (hW : ∀ q ∈ [a.hp], q ∈ W ∨ h0.get? q = none) (hh : A.handled = none) (hd : A.depth ≤ 600) (hu : A.units ≤ 6000)
    (hQ : ∀ h' tk' t lst' cs' rows, Fr g L h' m → News g L h' lst' → Gl g L W h0 h' lst' → LX w nm c a cs' ts fs cv h' → DueL L h' t rows → faultsTo fs cs' cs'.length = rows → FunOk fs cs' → cs'.length = cs.length → Q (.ref t) { s with heap := h', toks := tk' }) :
    wpAny (model PySem.Challenge.rw_ok0022_01.row.prog w) A (call (.ref 442) [.ref a.S, .int place kp', .int way kw]) Q E s := by
  have so := fspoil_ok (way := way) nok sd k0 k1 h6
  exact l_fspoiled F N X T S hl H ax k0 k1 (by omega) hW hh hd hu fun h' tk' t lst' F' N' S' H' D' => hQ h' tk' t lst' _ _ F' N' S' H' D' so.1 so.2.1 so.2.2
theorem l_fspoiled2 {w : World} {mg mb : Str → Option Value} {g h0 hs : Heap} {L : Addr} {W : List Addr} {m : Str → Option Value} {news lst : List (Addr × Obj)} {A : Around} {s : Shared} {nm : NAd} {c : Addr} {a : SAd} {cs : List (Int × Int)} {ts : List Str} {fs : List (Int × Int)} {cv : Option Value} {way place : Int} {j : Nat} {tags : List Int} {kw kp' : Tok} {Q E : Value → Shared → Prop}
    (F : Fr g L s.heap m) (N : News g L s.heap news) (X : (frag.heap_1 w.params).In g) (T : TopRead vw (looseW vw [Str.ofString "VOID", Str.ofString "Store"]) mg mb g) (S : Gl g L W h0 hs lst) (hl : ∀ p ∈ lst, p ∈ news) (H : LX w nm c a cs ts fs cv hs) (ax : AX g L nm c a) (ht : cs.map (·.1) = tags) (e : place = (funsOf tags).getD j 0) (hj : j < (funsOf tags).length) (nok : NOK ts fs) (sd : Sound fs cs) (hz : cs.length < 100) (hW : ∀ q ∈ [a.hp], q ∈ W ∨ h0.get? q = none) (hh : A.handled = none) (hd : A.depth ≤ 600) (hu : A.units ≤ 6000)
    (hQ : ∀ h' tk' t lst' cs' rows, Fr g L h' m → News g L h' lst' → Gl g L W h0 h' lst' → LX w nm c a cs' ts fs cv h' → DueL L h' t rows → faultsTo fs cs' cs'.length = rows → FunOk fs cs' → cs'.length = cs.length → Q (.ref t) { s with heap := h', toks := tk' }) :
    wpAny (model PySem.Challenge.rw_ok0022_01.row.prog w) A (call (.ref 442) [.ref a.S, .int place kp', .int way kw]) Q E s := by
  obtain ⟨h1, h2, h3⟩ := cells6_at hj
  have hl2 : tags.length = cs.length := by rw [← ht, List.length_map]
  have e2 : place = (cells6 (fun k => decide (tags.getD k.toNat 0 = 6)) tags.length).getD j 0 := e
  rw [← e2] at h1 h2 h3
  rw [hl2] at h2
  refine l_fspoiled1 F N X T S hl H ax h1 h2 ?_ nok sd hz hW hh hd hu hQ
  have h4 : tags.getD place.toNat 0 = 6 := by simpa using h3
  rw [← ht, List.getD_eq_getElem?_getD, List.getElem?_map] at h4
  unfold cAt
  rw [List.getD_eq_getElem?_getD]
  cases q : cs[place.toNat]? with
  | none => rw [q] at h4; simp at h4
  | some v => rw [q] at h4; simpa using h4
theorem fault_strok (fs cs : List (Int × Int)) (k : Nat) : PyData.strOk (cellFault fs cs k) = true := by
  unfold cellFault
  dsimp only
  repeat' split
  all_goals decide +kernel
theorem faults_strok (fs cs : List (Int × Int)) : ∀ (n : Nat), ∀ r ∈ faultsTo fs cs n, PyData.strOk r.2 = true
  | 0, r, h => nomatch h
  | n + 1, r, h => by
    rcases List.mem_append.mp h with h | h
    · exact faults_strok fs cs n r h
    · unfold faultAt at h
      split at h
      · cases h
      · rw [List.mem_singleton.mp h]; exact fault_strok fs cs n
noncomputable def rowD (r : Int × Str) : Dat := .tuple [.int r.1, .str r.2]
theorem rowD_ok {rows : List (Int × Str)} (h : ∀ r ∈ rows, PyData.strOk r.2 = true) : ∀ d ∈ rows.map rowD, kqdOk 8 d = true := fun d hd => by
  obtain ⟨r, hr, rfl⟩ := List.mem_map.mp hd
  simp [rowD, kqdOk, h r hr]
theorem rows_reads {h : Heap} : ∀ {vs : List Value} {rows : List (Int × Str)}, FRows h vs rows → ∃ as, ReadsAll h vs (kqdPs (rows.map rowD)) as
  | [], [], _ => ⟨_, .nil⟩
  | _ :: _, _ :: _, ⟨⟨r, k1, k2, e, o, ho, hc, n, hd⟩, x⟩ => by
    obtain ⟨as, q⟩ := rows_reads x
    subst e
    exact ⟨_, .cons (reads_tuple_at ho hc hd (.cons (Reads.int _ k1) (.cons (Reads.str _ k2) .nil))) q⟩
theorem l_ne {w : World} {g h0 hs : Heap} {L : Addr} {W : List Addr} {m : Str → Option Value} {news lst : List (Addr × Obj)} {A : Around} {s : Shared} {t d : Addr} {fs cs : List (Int × Int)} {rows : List (Int × Str)} {Q E : Value → Shared → Prop}
    (F : Fr g L s.heap m) (N : News g L s.heap news) (S : Gl g L W h0 hs lst) (hl : ∀ p ∈ lst, p ∈ news) (da : DueL L hs t (faultsTo fs cs cs.length)) (db : DueL L hs d rows) (e : faultsTo fs cs cs.length = rows) (hu : A.units + 64 < cLine) (h : Q (.bool false) s) :
    wpAny (model PySem.Challenge.rw_ok0022_01.row.prog w) A (compareOp .NotEq (.ref t) (.ref d)) Q E s := by
  have k := S.kept F N hl
  obtain ⟨v1, n1, e1, r1⟩ := (da.kept k (by simpa using da.1) S.nt).2
  obtain ⟨v2, n2, e2, r2⟩ := (db.kept k (by simpa using db.1) S.nt).2
  obtain ⟨a1, q1⟩ := rows_reads r1
  obtain ⟨a2, q2⟩ := rows_reads r2
  refine ne_dat (reads_list_at e1 rfl rfl (by simpa using q1)) (reads_list_at e2 rfl rfl (by simpa using q2)) (rowD_ok (faults_strok _ _ _)) (rowD_ok (e ▸ faults_strok _ _ _)) hu fun c hc => ?_
  rw [hc.mpr (by rw [e])]
  exact h
theorem l_ne0 {w : World} {g h0 hs : Heap} {L : Addr} {W : List Addr} {m : Str → Option Value} {news lst : List (Addr × Obj)} {A : Around} {s : Shared} {t d : Addr} {fs cs : List (Int × Int)} {n : Nat} {Q E : Value → Shared → Prop}
    (F : Fr g L s.heap m) (N : News g L s.heap news) (S : Gl g L W h0 hs lst) (hl : ∀ p ∈ lst, p ∈ news) (da : DueL L hs t (faultsTo fs cs cs.length)) (hm : (d, PySem.W.listOf #[] n) ∈ news) (e : faultsTo fs cs cs.length = []) (hu : A.units + 64 < cLine) (h : Q (.bool false) s) :
    wpAny (model PySem.Challenge.rw_ok0022_01.row.prog w) A (compareOp .NotEq (.ref t) (.ref d)) Q E s := by
  have k := S.kept F N hl
  obtain ⟨v1, n1, e1, r1⟩ := (da.kept k (by simpa using da.1) S.nt).2
  obtain ⟨a1, q1⟩ := rows_reads r1
  refine ne_dat (ds := (faultsTo fs cs cs.length).map rowD) (es := []) (reads_list_at e1 rfl rfl (by simpa using q1)) (reads_list_at (N.get hm) rfl rfl ReadsAll.nil) (rowD_ok (faults_strok _ _ _)) (fun _ h => nomatch h) hu fun c hc => ?_
  rw [hc.mpr (by rw [e]; rfl)]
  exact h
theorem sub_gl {w : World} {g h0 hs : Heap} {L : Addr} {W : List Addr} {m : Str → Option Value} {news lst : List (Addr × Obj)} {A : Around} {s : Shared} {nm : NAd} {c : Addr} {a : SAd} {cs : List (Int × Int)} {ts : List Str} {fs : List (Int × Int)} {cv : Option Value} {value slice : PySem.Expr} {k : Int} {u : Tok} {Q E : Value → Shared → Prop}
    (F : Fr g L s.heap m) (N : News g L s.heap news) (S : Gl g L W h0 hs lst) (hl : ∀ p ∈ lst, p ∈ news) (H : LX w nm c a cs ts fs cv hs) (ax : AX g L nm c a) (k0 : 0 ≤ k) (hk : k < cs.length) (hz : cs.length < 1000)
    (h : ∀ r k1 k2, IsTup hs r (List.toArray [.int (cAt cs k.toNat).1 k1, .int (cAt cs k.toNat).2 k2]) → Q (.ref r) s)
    (hs' : subscripted slice false (.ref a.hp) (.int k u) = operate [.ref a.hp, .int k u] (getItem (.ref a.hp) (.int k u)) := by with_unfolding_all rfl) : wpAny (model PySem.Challenge.rw_ok0022_01.row.prog w) A (subscriptTail value slice (.ref a.hp) (.int k u)) Q E s := by
  have hlt : k.toNat < cs.length := by omega
  obtain ⟨vs, n, e, hv⟩ := H.sto.hp
  obtain ⟨v, hv1, r, k1, k2, rfl, ht⟩ := hv.2 k.toNat _ (cAt_lt hlt)
  have e2 := S.kept F N hl _ _ e (by simpa using (ax.ok a.hp (by simp)).1)
  have hL : s.heap.IsList a.hp vs.toArray := ⟨_, e2, rfl, n, rfl⟩
  exact tail_any hL.typeIs slot_list_getitem.lookup (wpAny_getItem_list hL k0 (by omega) (by simpa using hv1) (h r k1 k2 ht)) hs'
theorem comp_end {h₀ : Heap} {L I C D : Addr} {m : Str → Option Value} {s₁ : Shared} {oI oC oD : Obj} {rest : Value → List (Addr × Obj) → Prop} {y : Value} {h' : Heap} {tk : Nat} {nw : List (Addr × Obj)}
    (F : Fr h₀ L h' m) (N : News h₀ L h' ((I, oI) :: (C, oC) :: (D, oD) :: nw)) (off : LCg.Off3 I C D nw) (r : rest y nw) : LCg.CompEnd h₀ L m s₁ I oI C oC D oD (fun _ => True) rest y { s₁ with heap := h', toks := tk } :=
  LCg.CompEnd.intro F N nw (fun _ h => h) off trivial r
noncomputable def LP (w : World) (nm : NAd) (c : Addr) (h : Heap) : Prop := ∃ ts fs cv, LS w nm c ts fs cv h ∧ NOK ts fs
theorem lp_word (w : World) {nm : NAd} {c : Addr} : Word (LP w nm c) (c :: naddrs nm) where
  st x k h nt := let ⟨ts, fs, cv, H, r⟩ := x; ⟨ts, fs, cv, (ls_word w).st H k h nt, r⟩
  lv x := let ⟨_, _, _, H, _⟩ := x; (ls_word w).lv H
theorem fr_cut {g h : Heap} {L : Addr} {m : Str → Option Value} {x : Str} {v : Value} (e : m x = some v) (F : Fr g L h m) : ∃ mr : Str → Option Value, Fr g L h (fun y => if y = x then some v else mr y) :=
  ⟨m, fr_same F (by funext y; by_cases q : y = x <;> simp [q, e])⟩
theorem claim_raises (l : OpenLaw) (a : List WData) (cls : ExcName) : l.row.claim.raises a cls = false := rfl
theorem claim_post (l : OpenLaw) (a : List WData) : l.row.claim.post a (.bool true) a = true := by
  refine postW_of (X := true) rfl ?_ rfl
  show WTm.value [] (.eq .res (.lit (.bool true))) _ = _
  wtm_val
theorem fin_purse {w : World} {g h0 hs h : Heap} {L : Addr} {W : List Addr} {m : Str → Option Value} {lst : List (Addr × Obj)} {nm : NAd} {c : Addr} {ts : List Str} {fs : List (Int × Int)} {cv : Option Value} {pu sc : Addr} {pos : Int} {kp : Tok} {n n2 : Nat} {ws : List Value} {ns : List Int}
    (F : Fr g L h m) (N : News g L h ((pu, PySem.W.listOf #[.ref sc, .int pos kp] n) :: (sc, PySem.W.listOf (List.toArray ws) n2) :: lst)) (S : Gl g L W h0 hs lst) (H : LS w nm c ts fs cv hs) (al : AL g L nm c) (hi : IntsAre ws ns) (p0 : 0 ≤ pos) (hz : ns.length < 1000) (lt : @LT.lt Nat _ sc pu) (lx : ∀ p ∈ lst, p.1 < sc) :
    ∃ lst', News g L h lst' ∧ Gl g L W h0 h lst' ∧ LS w nm c ts fs cv h ∧ PurseS h pu sc (ns.drop pos.toNat) ∧ (pu ≠ L ∧ g.get? pu = none) ∧ (sc ≠ L ∧ g.get? sc = none) ∧ pu ∉ c :: naddrs nm ∧ sc ∉ c :: naddrs nm := by
  have hl : ∀ p ∈ lst, p ∈ (pu, PySem.W.listOf #[.ref sc, .int pos kp] n) :: (sc, PySem.W.listOf (List.toArray ws) n2) :: lst := fun _ h => .tail _ (.tail _ h)
  have H1 := (ls_word w).st H (S.kept F N hl) al.l0 S.nt
  have lo : ∀ x ∈ c :: naddrs nm, @LT.lt Nat _ x sc := fun x hx => by
    obtain ⟨o, ho⟩ := (ls_word w).lv H x hx
    exact lx _ (S.mem ho (al.ok x hx).1 (al.ok x hx).2)
  obtain ⟨lst', N', S'⟩ := glue F (S.step F N hl (Kept.refl [] h) (fun _ h => nomatch h))
  exact ⟨lst', N', S', H1, purse_new N hi p0 hz lt, (N _ (.head _)).2, (N _ (.tail _ (.head _))).2, fun m => Nat.lt_irrefl _ (Nat.lt_trans lt (lo pu m)), fun m => Nat.lt_irrefl _ (lo sc m)⟩
local macro_rules | `(tactic| k_mem) => `(tactic| (first | exact List.Mem.head _ | assumption | (refine' List.Mem.tail _ ?_; (first | exact List.Mem.head _ | assumption | (refine' List.Mem.tail _ ?_; (first | exact List.Mem.head _ | assumption | (refine' List.Mem.tail _ ?_; (first | exact List.Mem.head _ | assumption | (refine' List.Mem.tail _ ?_; (first | exact List.Mem.head _ | assumption | (refine' List.Mem.tail _ ?_; (first | exact List.Mem.head _ | assumption | (refine' List.Mem.tail _ ?_; (first | exact List.Mem.head _ | assumption | (refine' List.Mem.tail _ ?_; (first | exact List.Mem.head _ | assumption | (refine' List.Mem.tail _ ?_; (first | exact List.Mem.head _ | assumption | (refine' List.Mem.tail _ ?_; (first | exact List.Mem.head _ | assumption))))))))))))))))))))
local macro_rules | `(tactic| walk_at "call ref") => `(tactic| (k_here; k_dflt (apply l_names; kbt_sums; assumption; kbd_text; assumption; assumption; kbt_ne; k_whole); intro _ _ _ _ _ _ S' H' _; obtain ⟨hm2, hm3, oc9, hm4, hm5⟩ := ls_mem S' H' (by assumption); k_sweep; have nk' := nok0))
local macro_rules | `(tactic| walk_at "call ref") => `(tactic| (k_here; k_dflt (apply l_heap1; kbt_sums; assumption; assumption; assumption; assumption; omega; assumption; omega; assumption; simp; kby_none; kbt_ne; k_whole); intro _ _ _ _ _ _ _ _ _ S' H' _ _ _ _ _ _ _ _ _ _ _ _ hP2'; (try (have hp9' := hP2' _ _ _ (by assumption) (by assumption) (by assumption) (by assumption) (by assumption); obtain ⟨hp91', hp92', hp93'⟩ := hp9')); obtain ⟨hm2, hm3, hm4, hm5, ⟨oc9, hm6, hm7⟩, vh9, nh9, hm8, hm9⟩ := lx_mem S' H' (by assumption); k_sweep))
local macro_rules | `(tactic| walk_at "storeName") => `(tactic| (k_here; k_dflt (refine' l_cell ?F ?N ?S ?l ?st ?ax ?c ?w ?_ ?k ?x; (case k | x | c => rfl); (case F | N => k_asm); (case S => assumption); (case l => kbd_text); (case st | ax => assumption); (case w => kby_none); k_whole); intro _ _ _ _ S' H'; obtain ⟨hm2, hm3, hm4, hm5, ⟨oc9, hm6, hm7⟩, vh9, nh9, hm8, hm9⟩ := lx_mem S' H' (by assumption); k_sweep))
local macro_rules | `(tactic| walk_at "call ref") => `(tactic| (k_here; k_dflt (apply l_faults; kbt_sums; assumption; kbd_text; assumption; assumption; assumption; omega; exact Nat.lt_trans (nok_len (by assumption)).2 (by decide); assumption; kbt_ne; k_whole); intro _ _ _ _ _ _ S' H' _ K'; (try (have D9' := K' _ _ (by assumption))); obtain ⟨hm2, hm3, hm4, hm5, ⟨oc9, hm6, hm7⟩, vh9, nh9, hm8, hm9⟩ := lx_mem S' H' (by assumption); k_sweep))
local macro_rules | `(tactic| walk_at "call ref") => `(tactic| (k_here; k_dflt (apply l_spoiled2; kbt_sums; assumption; kbd_text; assumption; assumption; assumption; assumption; exact rfl; assumption; assumption; omega; kby_none; kbt_ne; k_whole); intro _ _ _ _ _ _ _ _ _ _ S' H' _ _ _ _ _; obtain ⟨hm2, hm3, hm4, hm5, ⟨oc9, hm6, hm7⟩, vh9, nh9, hm8, hm9⟩ := lx_mem S' H' (by assumption); k_sweep))
local macro_rules | `(tactic| walk_at "call ref") => `(tactic| (k_here; k_dflt (apply l_funcells; kbt_sums; assumption; kbd_text; assumption; assumption; omega; kbt_ne; k_whole); intro _ _ _ _ _ _ hi' _; k_sweep; have hT' := funs_is hi' (by assumption); obtain ⟨hT1', hT2', hT3'⟩ := hT'; clear hi'))
local macro_rules | `(tactic| walk_at "call ref") => `(tactic| (k_here; k_dflt (apply l_fspoiled2; kbt_sums; assumption; kbd_text; assumption; assumption; assumption; exact rfl; omega; assumption; assumption; omega; kby_none; kbt_ne; k_whole); intro _ _ _ _ _ _ _ _ S' H' _ _ _ _; obtain ⟨hm2, hm3, hm4, hm5, ⟨oc9, hm6, hm7⟩, vh9, nh9, hm8, hm9⟩ := lx_mem S' H' (by assumption); k_sweep))
local macro_rules | `(tactic| walk_at "compareOp NotEq ref ref") => `(tactic| (k_here; k_dflt (refine' l_ne0 ?F ?N ?S ?l ?da ?hm ?e ?u ?_; (case F | N => k_asm); (case S => assumption); (case l => kbd_text); (case da => assumption); (case hm => k_mem); (case e => assumption); (case u => kbt_words); k_whole)))
local macro_rules | `(tactic| walk_at "compareOp NotEq ref ref") => `(tactic| (k_here; k_dflt (refine' l_ne ?F ?N ?S ?l ?da ?db ?e ?u ?_; (case F | N => k_asm); (case S => assumption); (case l => kbd_text); (case da | db | e => assumption); (case u => kbt_words); k_whole)))
local macro_rules | `(tactic| walk_at "subscriptTail") => `(tactic| (k_here; (with_reducible show wpAny _ _ (subscriptTail _ _ (Value.ref _) (Value.int _ _)) _ _ _); k_dflt (refine' item_gl ?F ?N ?S ?l ?t ?a ?b ?j ?x ?_; (case F | N => k_asm); (case S => assumption); (case l => kbd_text); (case t => assumption); (case a | b => decide); (case j | x => rfl); k_whole)))
local macro_rules | `(tactic| walk_at "subscriptTail") => `(tactic| (k_here; (with_reducible show wpAny _ _ (subscriptTail _ _ (Value.ref _) (Value.int _ _)) _ _ _); k_dflt (refine' sub_gl ?F ?N ?S ?l ?st ?ax ?k0 ?k1 ?z ?_; (case F | N => k_asm); (case S => assumption); (case l => kbd_text); (case st | ax => assumption); (case k0 | k1 | z => omega); k_whole); intro _ _ _ _))
local macro_rules | `(tactic| walk_at "CompEnd") => `(tactic| (k_here; k_dflt (refine' comp_end ?F ?N ?off ?r; (case F | N => k_asm); (case off => (simp only [LCg.Off3, and_true]; assumption))); (try dsimp only)))
local macro_rules | `(tactic| k_qdec) => `(tactic| decide +kernel)
local macro_rules | `(tactic| walk_at "eval ListComp") => `(tactic| (k_here; k_dflt (refine LCt.ListComp_T (F₀ := by k_asm) (by with_unfolding_all rfl) (by decide) (by rfl) (by decide) (by rfl) ?_)))
theorem law_holds : PySem.Challenge.rw_ok0022_01.Holds := by
    w_on
    refine holds_law said fun sd => ?_
    refine PySem.W.holds_open (q := vw) (loose := [Str.ofString "VOID", Str.ofString "Store"]) (Xt := xt) (XP := XL vw lvs) (Yf := Hook.obs kH) (Ya := Hook.val kH) (YP := Hook.says kH) (N := 5896) hleft (Hook.of kH) (Hook.keeps kH) (fun s e => xl_of s (Bool.and_eq_true_iff.mp e).1) XL.keeps (by rfl) (by rfl) (by rfl) (fun s e => recFacts_of (Bool.and_eq_true_iff.mp e).2) (by rfl) sd (by decide +kernel) ⟨rfl, rfl, rfl, rfl, rfl, by decide +kernel⟩ ?hw ?hc
    case hw => w_witness2
    clear sd
    k_go0
    (all_goals try k_fold)
    rename Top _ _ _ _ _ _ => Tp
    have T := topRead_of Tp
    rename World => w
    rename Fr _ _ _ _ => Fx
    rename News _ _ _ _ => Nx
    obtain ⟨mr, Fx⟩ := fr_cut (x := Str.ofString "script") (by with_unfolding_all rfl) Fx
    rename Shared => s1
    rename List Int => ks
    have hc0 : Heap.IsCell _ (s1.heap.objs.size + 1) none := ⟨_, (Nx _ (.head _)).1, by assumption⟩
    have okc : @Ne Addr (s1.heap.objs.size + 1) s1.heap.objs.size ∧ s1.heap.get? (s1.heap.objs.size + 1) = none := (Nx _ (.head _)).2
    obtain ⟨lst, N, S⟩ := glue (W := []) (h0 := e0) Fx (fun b o e _ => by rw [e0_none] at e; cases e)
    clear Nx
    obtain ⟨oc0, hm0, hd0⟩ := hc0
    have hm1 := S.mem hm0 okc.1 okc.2
    have hc0 : Heap.IsCell _ (s1.heap.objs.size + 1) none := ⟨oc0, hm0, hd0⟩
    repeat' ((fail_if_success (with_reducible show wpAny _ _ (execs _ (envOf _ _ _ _ _)) _ _ _)); (fail_if_success (with_reducible show wpAny _ _ (execs _ (envOfC _ _ _ 423 _)) _ _ _)); (fail_if_success (with_reducible show wpAny _ _ (pyIter _) _ _ _)); first | (k_unfold; (try dsimp only)) | walk1 | (dsimp only; walk1) | fail "no step")
    rename Gl _ _ _ _ _ _ => S1
    rename LX _ _ _ _ _ _ _ _ _ => H1
    rename AX _ _ _ _ _ => ax1
    rename Fr _ _ _ _ => Fx
    rename News _ _ _ _ => Nx
    rename NOK _ _ => nk1
    rename NAd => nm
    have al1 := ax1.al
    refine' glue_loop (n := 9) (W' := [nm.tx, nm.an, nm.fx, nm.fn, s1.heap.objs.size + 1]) (as := (s1.heap.objs.size + 1) :: naddrs nm) [Str.ofString "free", Str.ofString "at", Str.ofString "due"] (fun _ h => LP w nm (s1.heap.objs.size + 1) h) ?hh ?hr ?hb ?hn ?F ?N ?S ?hl ?hP ?hw ?has ?hW ?turn ?done
    case hh => rfl
    case hr => assumption
    case hb => rfl
    case hn => decide
    case F => exact Fx
    case N => exact Nx
    case S => exact S1
    case hl => exact fun _ h => h
    case hP => exact ⟨_, _, _, H1.ls, nk1⟩
    case hw => exact fun _ => lp_word w
    case has => exact fun x hx => al1.ok x hx
    case hW => (intro x hx; simp only [List.mem_cons, List.not_mem_nil, or_false] at hx; rcases hx with rfl | rfl | rfl | rfl | rfl <;> exact ⟨by simp, .inr rfl⟩)
    case turn =>
      intro i t u h tk lst hi H F N S
      replace F : Fr s1.heap s1.heap.objs.size h _ := F
      replace N : News s1.heap s1.heap.objs.size h _ := N
      replace S : Gl s1.heap s1.heap.objs.size _ _ _ _ := S
      obtain ⟨ts2, fs2, cv2, H, nk⟩ := H
      obtain ⟨hm2, hm3, oc9, hm4, hm5⟩ := ls_mem S H al1
      clear S1 H1
      (try dsimp only)
      (try k_fold)
      repeat' ((fail_if_success (with_reducible show wpAny _ _ (eval (Expr.BinOp _ _ _ _) _) _ _ _)); (fail_if_success (with_reducible show wpAny _ _ (execs _ (envOf _ _ _ _ _)) _ _ _)); (fail_if_success (with_reducible show wpAny _ _ (execs _ (envOfC _ _ _ 423 _)) _ _ _)); (fail_if_success (with_reducible show wpAny _ _ (pyIter _) _ _ _)); first | (k_unfold; (try dsimp only)) | walk1 | (dsimp only; walk1) | fail "no step")
      refine' comp_end ?F9 ?N9 ?off9 ?r9
      case F9 => k_asm
      case N9 => k_asm
      case off9 => (simp only [LCg.Off3, and_true]; assumption)
      case r9 => exact kci_no (if_neg (by simp [*])) rfl
      rename IntsAre _ (List.foldl _ _ _) => hI8
      rename LX _ _ _ _ _ _ _ _ _ => H7
      have hI9 := fold_cells0 (n := List.length (LX.cs H7)) (by dsimp only [LX.cs]; omega) hI8
      dsimp only [LX.cs] at hI9
      have hy9 := cells6_pos hI9 (by simp [*]) (by assumption)
      clear hI8
      repeat' ((fail_if_success (with_reducible show wpAny _ _ (execs _ (envOf _ _ _ _ _)) _ _ _)); (fail_if_success (with_reducible show wpAny _ _ (execs _ (envOfC _ _ _ 423 _)) _ _ _)); (fail_if_success (with_reducible show wpAny _ _ (pyIter _) _ _ _)); first | (k_unfold; (try dsimp only)) | walk1 | (dsimp only; walk1) | fail "no step")
      (try dsimp only)
      rename Gl s1.heap _ _ _ _ _ => Se
      rename LX _ _ _ _ _ _ _ _ _ => He
      rename Fr s1.heap _ _ _ => Fe
      rename News s1.heap _ _ _ => Ne
      rename NOK _ _ => nke
      exact gend Fe Ne Se (fun _ h => h) (by intro z h1 h2; simp only [List.contains_cons, List.contains_nil, Bool.or_false, Bool.or_eq_false_iff, beq_eq_false_iff_ne, ne_eq] at h2; simp [h1, h2]) ⟨_, _, _, He.ls, nke⟩
    case done =>
      intro u h tk lst H F N S
      replace F : Fr s1.heap s1.heap.objs.size h _ := F
      replace N : News s1.heap s1.heap.objs.size h _ := N
      replace S : Gl s1.heap s1.heap.objs.size _ _ _ _ := S
      obtain ⟨ts2, fs2, cv2, H, nk⟩ := H
      obtain ⟨hm2, hm3, oc9, hm4, hm5⟩ := ls_mem S H al1
      clear S1 H1
      (try dsimp only)
      (try k_fold)
      repeat' ((fail_if_success (with_reducible show wpAny _ _ (execs _ (envOf _ _ _ _ _)) _ _ _)); (fail_if_success (with_reducible show wpAny _ _ (execs _ (envOfC _ _ _ 423 _)) _ _ _)); (fail_if_success (with_reducible show wpAny _ _ (pyIter _) _ _ _)); first | (k_unfold; (try dsimp only)) | walk1 | (dsimp only; walk1) | fail "no step")
      rename Gl s1.heap _ _ _ _ _ => S2
      rename LX _ _ _ _ _ _ _ _ _ => H2
      rename Fr s1.heap _ _ _ => F2
      rename News s1.heap _ _ _ => N2
      rename NOK _ _ => nk2
      rename List.length _ = List.length (funsOf _) => hl2
      refine' glue_loop (n := List.length (funsOf (tagsOf (ks.take 60)))) (W' := [nm.tx, nm.an, nm.fx, nm.fn, s1.heap.objs.size + 1]) (as := (s1.heap.objs.size + 1) :: naddrs nm) [Str.ofString "way", Str.ofString "due"] (fun _ h => LP w nm (s1.heap.objs.size + 1) h) ?hh8 ?hr8 ?hb8 ?hn8 ?F8 ?N8 ?S8 ?hl8 ?hP8 ?hw8 ?has8 ?hW8 ?turn8 ?done8
      case hr8 => assumption
      case hb8 => omega
      case hh8 => rfl
      case hn8 => omega
      case F8 => exact F2
      case N8 => exact N2
      case S8 => exact S2
      case hl8 => (intro p hp; repeat' (first | exact hp | refine List.Mem.tail _ ?_))
      case hP8 => exact ⟨_, _, _, H2.ls, nk2⟩
      case hw8 => exact fun _ => lp_word w
      case has8 => exact fun x hx => al1.ok x hx
      case hW8 => (intro x hx; simp only [List.mem_cons, List.not_mem_nil, or_false] at hx; rcases hx with rfl | rfl | rfl | rfl | rfl <;> exact ⟨by simp, .inr rfl⟩)
      case turn8 =>
        intro i t u h tk lst hi H F N S
        replace F : Fr s1.heap s1.heap.objs.size h _ := F
        replace N : News s1.heap s1.heap.objs.size h _ := N
        replace S : Gl s1.heap s1.heap.objs.size _ _ _ _ := S
        obtain ⟨ts3, fs3, cv3, H, nk⟩ := H
        clear S2 H2
        (try dsimp only)
        (try k_fold)
        repeat' ((fail_if_success (with_reducible show wpAny _ _ (execs _ (envOf _ _ _ _ _)) _ _ _)); (fail_if_success (with_reducible show wpAny _ _ (execs _ (envOfC _ _ _ 423 _)) _ _ _)); (fail_if_success (with_reducible show wpAny _ _ (pyIter _) _ _ _)); first | (k_unfold; (try dsimp only)) | walk1 | (dsimp only; walk1) | fail "no step")
        rename Fr s1.heap _ _ _ => F3
        rename News s1.heap _ _ _ => N3
        refine' glue_loop (n := 2) (W' := [nm.tx, nm.an, nm.fx, nm.fn, s1.heap.objs.size + 1]) (as := (s1.heap.objs.size + 1) :: naddrs nm) [Str.ofString "due"] (fun _ h => LP w nm (s1.heap.objs.size + 1) h) ?hh7 ?hr7 ?hb7 ?hn7 ?F7 ?N7 ?S7 ?hl7 ?hP7 ?hw7 ?has7 ?hW7 ?turn7 ?done7
        case hr7 => assumption
        case hb7 => rfl
        case hh7 => rfl
        case hn7 => decide
        case F7 => exact F3
        case N7 => exact N3
        case S7 => exact S
        case hl7 => (intro p hp; repeat' (first | exact hp | refine List.Mem.tail _ ?_))
        case hP7 => exact ⟨_, _, _, H, nk⟩
        case hw7 => exact fun _ => lp_word w
        case has7 => exact fun x hx => al1.ok x hx
        case hW7 => (intro x hx; exact ⟨by simp only [List.mem_cons, List.not_mem_nil, or_false] at hx; rcases hx with rfl | rfl | rfl | rfl | rfl <;> simp, .inl hx⟩)
        case turn7 =>
          intro i2 t2 u2 h2 tk2 lst2 hi2 H F N S
          replace F : Fr s1.heap s1.heap.objs.size h2 _ := F
          replace N : News s1.heap s1.heap.objs.size h2 _ := N
          replace S : Gl s1.heap s1.heap.objs.size _ _ _ _ := S
          obtain ⟨ts4, fs4, cv4, H, nk⟩ := H
          obtain ⟨hm2, hm3, oc9, hm4, hm5⟩ := ls_mem S H al1
          (try dsimp only)
          (try k_fold)
          repeat' ((fail_if_success (with_reducible show wpAny _ _ (execs _ (envOf _ _ _ _ _)) _ _ _)); (fail_if_success (with_reducible show wpAny _ _ (execs _ (envOfC _ _ _ 423 _)) _ _ _)); (fail_if_success (with_reducible show wpAny _ _ (pyIter _) _ _ _)); first | (k_unfold; (try dsimp only)) | walk1 | (dsimp only; walk1) | fail "no step")
          (try dsimp only)
          rename Gl s1.heap _ _ _ _ _ => Se
          rename LX _ _ _ _ _ _ _ _ _ => He
          rename Fr s1.heap _ _ _ => Fe
          rename News s1.heap _ _ _ => Ne
          rename NOK _ _ => nke
          exact gend Fe Ne Se (fun _ h => h) (by intro z h1 h2; simp only [List.contains_cons, List.contains_nil, Bool.or_false, Bool.or_eq_false_iff, beq_eq_false_iff_ne, ne_eq] at h2; simp [h1, h2]) ⟨_, _, _, He.ls, nke⟩
        case done7 =>
          intro u2 h2 tk2 lst2 H F N S
          replace F : Fr s1.heap s1.heap.objs.size h2 _ := F
          replace N : News s1.heap s1.heap.objs.size h2 _ := N
          replace S : Gl s1.heap s1.heap.objs.size _ _ _ _ := S
          (try dsimp only)
          (try k_fold)
          repeat' ((fail_if_success (with_reducible show wpAny _ _ (execs _ (envOf _ _ _ _ _)) _ _ _)); (fail_if_success (with_reducible show wpAny _ _ (execs _ (envOfC _ _ _ 423 _)) _ _ _)); (fail_if_success (with_reducible show wpAny _ _ (pyIter _) _ _ _)); first | (k_unfold; (try dsimp only)) | walk1 | (dsimp only; walk1) | fail "no step")
          (try dsimp only)
          refine gend F N S (fun _ h => h) ?_ H
          intro z h1 h2
          simp only [List.contains_cons, List.contains_nil, Bool.or_false, Bool.or_eq_false_iff, beq_eq_false_iff_ne, ne_eq] at h2
          have c1 : ¬ ([Str.ofString "due"].contains z = true) := by simp only [List.contains_cons, List.contains_nil, Bool.or_false, beq_iff_eq]; exact h2.2
          have c2 : ¬ ([Str.ofString "way", Str.ofString "due"].contains z = true) := by simp only [List.contains_cons, List.contains_nil, Bool.or_false, Bool.or_eq_true, beq_iff_eq, not_or]; exact h2
          refine (if_neg h2.1).trans ((if_neg c1).trans ((if_neg h1).trans ((if_neg c2).trans ?_)))
          rw [hl2]
          first | done | rfl
      case done8 =>
        intro u h tk lst H F N S
        replace F : Fr s1.heap s1.heap.objs.size h _ := F
        replace N : News s1.heap s1.heap.objs.size h _ := N
        replace S : Gl s1.heap s1.heap.objs.size _ _ _ _ := S
        obtain ⟨ts3, fs3, cv3, H, nk⟩ := H
        clear S2 H2
        (try dsimp only)
        (try k_fold)
        repeat' ((fail_if_success (with_reducible show wpAny _ _ (exec (Stmt.Return _ _) _) _ _ _)); (fail_if_success (with_reducible show wpAny _ _ (execs _ (envOf _ _ _ _ _)) _ _ _)); (fail_if_success (with_reducible show wpAny _ _ (execs _ (envOfC _ _ _ 423 _)) _ _ _)); (fail_if_success (with_reducible show wpAny _ _ (pyIter _) _ _ _)); first | (k_unfold; (try dsimp only)) | walk1 | (dsimp only; walk1) | fail "no step")
        rename Fr s1.heap _ _ _ => F4
        rename News s1.heap _ _ _ => N4
        rename IntsAre _ (List.take 60 ks) => hI4
        obtain ⟨lst5, N5, S5, H5, hp5, o5, o6, n5, n6⟩ := fin_purse F4 N4 S H al1 hI4 (Int.fdiv_nonneg (Int.natCast_nonneg _) (by decide)) (by omega) (by omega) (by assumption)
        clear S H N4
        obtain ⟨hm2, hm3, oc9, hm4, hm5⟩ := ls_mem S5 H5 al1
        repeat' ((fail_if_success (with_reducible show wpAny _ _ (call (Value.ref 449) _) _ _ _)); (fail_if_success (with_reducible show wpAny _ _ (execs _ (envOf _ _ _ _ _)) _ _ _)); (fail_if_success (with_reducible show wpAny _ _ (execs _ (envOfC _ _ _ 423 _)) _ _ _)); (fail_if_success (with_reducible show wpAny _ _ (pyIter _) _ _ _)); first | (k_unfold; (try dsimp only)) | walk1 | (dsimp only; walk1) | fail "no step")
        refine' l_right ?F9 ?N9 ?X9 ?T9 ?S9 ?l9 ?st9 ?ax9 ?hP9 ?o1 ?o2 ?np9 ?ns9 ?z9 ?z0 ?h91 ?h92 ?h93 ?_
        case F9 => k_asm
        case N9 => k_asm
        case X9 => k_asm
        case T9 => k_asm
        case S9 => assumption
        case l9 => exact fun _ h => h
        case st9 => assumption
        case ax9 => assumption
        case hP9 => assumption
        case o1 => assumption
        case o2 => assumption
        case np9 => assumption
        case ns9 => assumption
        case z9 => omega
        case z0 => assumption
        case h91 => rfl
        case h92 => exact Nat.le_of_ble_eq_true rfl
        case h93 => exact Nat.le_of_ble_eq_true rfl
        intro h9 tk9 F9
        (try dsimp only)
        k_unfold
        (try dsimp only)
        exact goodW_bool F9 (by assumption) (claim_raises _ _) (claim_post _ _)
end
end Mine
theorem PySem.Challenge.cw_ok0022_01_holds : PySem.Challenge.rw_ok0022_01.Holds :=
  Mine.law_holds
