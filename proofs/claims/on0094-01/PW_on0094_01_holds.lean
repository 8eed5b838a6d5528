import PyProof.Rows.All
import Wide.All
import OpenK.AllK
import Wide.FinOn
import KE.KDictSum
import PyProof.ExcBaseAll.Exception
import PyProof.ExcAttrAll.Exception
import PyProof.ExcArgsOwn
import Lean
import PySem.Challenge.RW_on0094_01
set_option Elab.async false
namespace Mine
section
open PySem PySem.W PyProof.Rows
lay_quick PySem.Challenge.pw_on0094_01
def keepAt (l : List Stmt) (is : List Nat) : List Stmt := is.filterMap (l[·]?)
noncomputable def view : Program := { PySem.Challenge.pw_on0094_01 with main := { PySem.Challenge.pw_on0094_01.main with body := keepAt PySem.Challenge.pw_on0094_01.main.body [0,2,3,5,6,7,8,10,11,12,13,15,16,17,18,19,20] } }
theorem left_boot {p q : Program} {loose : List Str} {Xt : Shared → Bool} {α : Type} {Yf : Shared → α} {Ya : World → α} {N : Nat} (e : opening p = plainProg p.main.scope.names) (hN : Nat.ble 600 N = true) (f : ∀ s, fenceModules? p s = some s)
    (h : ∀ (w : World) (os : OsState), (topFrom treeTable p w N ⟨boot_heap w.params, Array.mk [], boot_drawn, boot_toks, os⟩).map (fun s => (openSeen q loose (importedModules p.main.body) Xt true s, Yf s)) = some (openGood q loose, Ya w)) : LeftO p q loose Xt Yf Ya N := fun w => by
  obtain ⟨⟨H, gs, d, k, os⟩, e1, e2⟩ := Option.map_eq_some_iff.mp (boot_open e hN f w)
  obtain ⟨rfl, rfl, rfl, rfl⟩ : H = boot_heap w.params ∧ gs = Array.mk [] ∧ d = boot_drawn ∧ k = boot_toks := by simpa using e2
  unfold openEnds
  rw [e1]
  exact h w os
theorem view_twin : view = { PySem.W.Fast.tw17483165942133484713 with main := { PySem.W.Fast.tw17483165942133484713.main with body := keepAt PySem.W.Fast.tw17483165942133484713.main.body [0,2,3,5,6,7,8,10,11,12,13,15,16,17,18,19,20] } } := by unfold view; rw [PySem.W.Fast.te17483165942133484713]
local macro_rules | `(tactic| o_head $H) => `(tactic| (refine holds_open (q := Mine.view) (loose := [Str.ofString "GateloomError"]) (Xt := fun s => xlAt Mine.view [] s && recOk (RowW.records (OpenRow.toRowW PySem.Challenge.rw_on0094_01.row)) s) (XP := XL Mine.view []) (Yf := Hook.obs $H) (Ya := Hook.val $H) (YP := Hook.says $H) (N := 2868) ?hl (Hook.of $H) (Hook.keeps $H) (fun s e => xl_of s (Bool.and_eq_true_iff.mp e).1) XL.keeps (by rfl) (by rfl) (by rfl) (fun s e => recFacts_of (Bool.and_eq_true_iff.mp e).2) (by rfl) (by first | assumption | decide +kernel) (by decide +kernel) ⟨rfl, rfl, rfl, rfl, rfl, by decide +kernel⟩ ?hw ?hc; (case hl => (refine left_boot (p := PySem.Challenge.pw_on0094_01) (by rfl) rfl (fun s => by rfl) (fun w os => ?_); unfold topFrom; rw [Mine.view_twin, PySem.W.Fast.te14082659384304107361, PySem.W.Fast.te4187177175401517315, PySem.W.Fast.te17483165942133484713]; kernel_rfl))))
set_option maxRecDepth 100000 in
set_option maxHeartbeats 0 in
open_top hd for PySem.Challenge.rw_on0094_01
end
section
open PySem PySem.W PySem.Calls PyProof.Rows
set_option maxRecDepth 100000
/-- two addresses differ: kept out of omega's sight -/
def Dis (a b : Addr) : Prop := @Ne Nat a b
theorem Dis.l {a b : Addr} (h : Dis a b) : @Ne Nat a b := h
theorem Dis.r {a b : Addr} (h : Dis b a) : @Ne Nat a b := Ne.symm h
theorem hs_app {ts2 X ts : List (Addr × Obj)} (led : List (Addr × Obj)) (h : ∀ p ∈ led, p ∈ X) (ht : ∀ p ∈ ts, p ∈ X) : ∀ p ∈ led ++ (ts2 ++ ts), p ∈ ts2 ++ X := fun p hp => by
  rcases List.mem_append.mp hp with hp | hp
  · exact List.mem_append_right _ (h p hp)
  · rcases List.mem_append.mp hp with hp | hp
    · exact List.mem_append_left _ hp
    · exact List.mem_append_right _ (ht p hp)
inductive Ex2 {α0 α1 : Type} (p : α0 → α1 → Prop) : Prop
  | mk (a0 : α0) (a1 : α1) (h : p a0 a1) : Ex2 p
inductive Ex3 {α0 α1 α2 : Type} (p : α0 → α1 → α2 → Prop) : Prop
  | mk (a0 : α0) (a1 : α1) (a2 : α2) (h : p a0 a1 a2) : Ex3 p
inductive Ex4 {α0 α1 α2 α3 : Type} (p : α0 → α1 → α2 → α3 → Prop) : Prop
  | mk (a0 : α0) (a1 : α1) (a2 : α2) (a3 : α3) (h : p a0 a1 a2 a3) : Ex4 p
inductive Ex5 {α0 α1 α2 α3 α4 : Type} (p : α0 → α1 → α2 → α3 → α4 → Prop) : Prop
  | mk (a0 : α0) (a1 : α1) (a2 : α2) (a3 : α3) (a4 : α4) (h : p a0 a1 a2 a3 a4) : Ex5 p
inductive Ex6 {α0 α1 α2 α3 α4 α5 : Type} (p : α0 → α1 → α2 → α3 → α4 → α5 → Prop) : Prop
  | mk (a0 : α0) (a1 : α1) (a2 : α2) (a3 : α3) (a4 : α4) (a5 : α5) (h : p a0 a1 a2 a3 a4 a5) : Ex6 p
inductive Ex8 {α0 α1 α2 α3 α4 α5 α6 α7 : Type} (p : α0 → α1 → α2 → α3 → α4 → α5 → α6 → α7 → Prop) : Prop
  | mk (a0 : α0) (a1 : α1) (a2 : α2) (a3 : α3) (a4 : α4) (a5 : α5) (a6 : α6) (a7 : α7) (h : p a0 a1 a2 a3 a4 a5 a6 a7) : Ex8 p
inductive Ex10 {α0 α1 α2 α3 α4 α5 α6 α7 α8 α9 : Type} (p : α0 → α1 → α2 → α3 → α4 → α5 → α6 → α7 → α8 → α9 → Prop) : Prop
  | mk (a0 : α0) (a1 : α1) (a2 : α2) (a3 : α3) (a4 : α4) (a5 : α5) (a6 : α6) (a7 : α7) (a8 : α8) (a9 : α9) (h : p a0 a1 a2 a3 a4 a5 a6 a7 a8 a9) : Ex10 p
inductive Ex12 {α0 α1 α2 α3 α4 α5 α6 α7 α8 α9 α10 α11 : Type} (p : α0 → α1 → α2 → α3 → α4 → α5 → α6 → α7 → α8 → α9 → α10 → α11 → Prop) : Prop
  | mk (a0 : α0) (a1 : α1) (a2 : α2) (a3 : α3) (a4 : α4) (a5 : α5) (a6 : α6) (a7 : α7) (a8 : α8) (a9 : α9) (a10 : α10) (a11 : α11) (h : p a0 a1 a2 a3 a4 a5 a6 a7 a8 a9 a10 a11) : Ex12 p
inductive Ex16 {α0 α1 α2 α3 α4 α5 α6 α7 α8 α9 α10 α11 α12 α13 α14 α15 : Type} (p : α0 → α1 → α2 → α3 → α4 → α5 → α6 → α7 → α8 → α9 → α10 → α11 → α12 → α13 → α14 → α15 → Prop) : Prop
  | mk (a0 : α0) (a1 : α1) (a2 : α2) (a3 : α3) (a4 : α4) (a5 : α5) (a6 : α6) (a7 : α7) (a8 : α8) (a9 : α9) (a10 : α10) (a11 : α11) (a12 : α12) (a13 : α13) (a14 : α14) (a15 : α15) (h : p a0 a1 a2 a3 a4 a5 a6 a7 a8 a9 a10 a11 a12 a13 a14 a15) : Ex16 p
inductive Ex20 {α0 α1 α2 α3 α4 α5 α6 α7 α8 α9 α10 α11 α12 α13 α14 α15 α16 α17 α18 α19 : Type} (p : α0 → α1 → α2 → α3 → α4 → α5 → α6 → α7 → α8 → α9 → α10 → α11 → α12 → α13 → α14 → α15 → α16 → α17 → α18 → α19 → Prop) : Prop
  | mk (a0 : α0) (a1 : α1) (a2 : α2) (a3 : α3) (a4 : α4) (a5 : α5) (a6 : α6) (a7 : α7) (a8 : α8) (a9 : α9) (a10 : α10) (a11 : α11) (a12 : α12) (a13 : α13) (a14 : α14) (a15 : α15) (a16 : α16) (a17 : α17) (a18 : α18) (a19 : α19) (h : p a0 a1 a2 a3 a4 a5 a6 a7 a8 a9 a10 a11 a12 a13 a14 a15 a16 a17 a18 a19) : Ex20 p

noncomputable abbrev PR : Program := PySem.Challenge.rw_on0094_01.row.prog
noncomputable abbrev VW : Program := view
noncomputable abbrev LO : List Str := looseW view [Str.ofString "GateloomError"]

theorem enter_def {w : World} {A : Around} {s : Shared} {K : Frag} {R : Result → Shared → Prop} {name qual : Str} {params : Arguments} {body : List Stmt} {scope : Scope} {dV kV doc pm cdv ct oc : Value} {an od : Option Addr} {osl : Array (Option Value)} {f : Addr} {args : Args} {binds : List (Str × Value)}
    (muts : List (Addr × Obj)) (hm : ∀ p ∈ muts, s.heap.get? p.1 = some p.2) (X : K.In s.heap) (hlim : s.heap.NoLimit)
    (ho : K.lookup f = some ⟨oc, od, .func (fnOf name qual params body scope dV kV doc pm an cdv ct), osl⟩) (hcd : codeIn K cdv qual = true) (hroom : A.depth < recursionLimit)
    (hbind : BindsTo s (fnOf name qual params body scope dV kV doc pm an cdv ct) args binds) (hloc : ∀ y ∈ binds, scope.names.lookup y.1 = some .local)
    (h : ∀ L' h₁, s.heap.objs.size = L' → Fr (hideAll s.heap (muts.map (·.1))) L' h₁ (fun y => binds.reverse.lookup y) → News (hideAll s.heap (muts.map (·.1))) L' h₁ muts → (∀ b o, s.heap.get? b = some o → h₁.get? b = some o) →
      wpAny (model PR w) (A.deeper (envOf qual scope L' f cdv)) (execs body (envOf qual scope L' f cdv))
        (fun fl s' => R (.ok (.ret (match fl with | .ret v => v | _ => .none))) s')
        (fun e s' => wpAny (model PR w) (A.deeper (envOf qual scope L' f cdv)) (leaving (envOf qual scope L' f cdv) e) (fun _ s'' => R (.error e) s'') (fun e' s'' => R (.error e') s'') s')
        { s with heap := h₁, toks := s.toks + binds.length })
    (hco : scope.isCoroutine = false) (hgen : scope.isGenerator = false) (hk : scope.kind = .function)
    (hcell : ∀ x ∈ scope.names, x.2 ≠ .cell) : codeAny (model PR w) A (.call (.ref f) args) R s := by
  refine codeAny_call_def (fd := fnOf name qual params body scope dV kV doc pm an cdv ct) (body := body) (binds := binds) hroom (X _ _ ho) rfl hlim (codeRec_of X hcd) rfl hbind hcell hloc (fun h₁ hns hk₁ => ?_) hco hgen hk
  exact h s.heap.objs.size h₁ rfl ⟨hns, fun b o e => hk₁ b o (of_hideAll _ e), Nat.le_of_eq (hideAll_size _ _)⟩
    (fun p hp => ⟨hk₁ _ _ (hm p hp), Nat.ne_of_lt (Heap.lt_size (hm p hp)), hideAll_none _ (List.mem_map_of_mem hp)⟩) hk₁

/-- what an activation may lean on: nothing handled, or an exception that hangs on no other; room for n calls more -/
def HOk (A : Around) (h : Heap) : Prop := A.handled = none ∨ Ex3 fun x ox vs => A.handled = some (.ref x) ∧ h.get? x = some ox ∧ ox.data = .fields vs ∧ vs[2]? = some .none
theorem HOk.keeps {A : Around} {h h' : Heap} (H : HOk A h) (k : ∀ b o, h.get? b = some o → h'.get? b = some o) : HOk A h' :=
  H.imp id fun ⟨x, ox, vs, a, b, c⟩ => ⟨x, ox, vs, a, k _ _ b, c⟩
structure Ar (n : Nat) (A : Around) (h : Heap) : Prop where
  hk : HOk A h
  hd : A.depth + n < recursionLimit
  hu : A.units + 40 * n + 100 < cLine
theorem Ar.keeps {n : Nat} {A : Around} {h h' : Heap} (H : Ar n A h) (k : ∀ b o, h.get? b = some o → h'.get? b = some o) : Ar n A h' := ⟨H.hk.keeps k, H.hd, H.hu⟩
theorem Ar.deeper {n : Nat} {A : Around} {h : Heap} {env : Env} (H : Ar (n + 1) A h) : Ar n (A.deeper env) h :=
  ⟨H.hk, by have := H.hd; show A.depth + 1 + n < _; omega, by have := H.hu; show A.units + 3 + _ + _ < _; omega⟩
theorem Ar.room {n : Nat} {A : Around} {h : Heap} (H : Ar n A h) : A.depth < recursionLimit := by have := H.hd; omega
theorem Ar.less {n : Nat} (k : Nat) {A : Around} {h : Heap} (H : Ar n A h) (hk : k ≤ n) : Ar k A h := ⟨H.hk, by have := H.hd; omega, by have := H.hu; omega⟩

structure Gd (w : World) (mg mb : Str → Option Value) (h : Heap) : Prop where
  K : (hd.heap_39 w.params).In h
  T : TopRead view (looseW view [Str.ofString "GateloomError"]) mg mb h
theorem Gd.keeps {w : World} {mg mb : Str → Option Value} {h h' : Heap} (D : Gd w mg mb h) (k : ∀ b o, h.get? b = some o → h'.get? b = some o) : Gd w mg mb h' := ⟨D.K.keeps k, D.T.keeps k⟩

theorem enter_pure {w : World} {A : Around} {s : Shared} {mg mb : Str → Option Value} {R : Result → Shared → Prop} {name qual : Str} {params : Arguments} {body : List Stmt} {scope : Scope} {dV kV doc pm cdv ct oc : Value} {an od : Option Addr} {osl : Array (Option Value)} {f : Addr} {args : Args} {binds : List (Str × Value)}
    (n : Nat) (muts : List (Addr × Obj)) (hm : ∀ p ∈ muts, s.heap.get? p.1 = some p.2) (HA : Ar (n + 1) A (hideAll s.heap (muts.map (·.1)))) (D : Gd w mg mb (hideAll s.heap (muts.map (·.1))))
    (ho : (hd.heap_39 w.params).lookup f = some ⟨oc, od, .func (fnOf name qual params body scope dV kV doc pm an cdv ct), osl⟩) (hcd : codeIn (hd.heap_39 w.params) cdv qual = true)
    (hbind : BindsTo s (fnOf name qual params body scope dV kV doc pm an cdv ct) args binds) (hloc : ∀ y ∈ binds, scope.names.lookup y.1 = some .local)
    (h : ∀ A' L' h₁, s.heap.objs.size = L' → A'.handled = A.handled → Ar n A' (hideAll s.heap (muts.map (·.1))) → Fr (hideAll s.heap (muts.map (·.1))) L' h₁ (fun y => binds.reverse.lookup y) → News (hideAll s.heap (muts.map (·.1))) L' h₁ muts → (∀ b o, s.heap.get? b = some o → h₁.get? b = some o) →
      wpAny (model PR w) A' (execs body (envOf qual scope L' f cdv))
        (fun fl s' => R (.ok (.ret (match fl with | .ret v => v | _ => .none))) s') (fun _ _ => False) { s with heap := h₁, toks := s.toks + binds.length })
    (hco : scope.isCoroutine = false) (hgen : scope.isGenerator = false) (hk : scope.kind = .function)
    (hcell : ∀ x ∈ scope.names, x.2 ≠ .cell) : codeAny (model PR w) A (.call (.ref f) args) R s :=
  enter_def muts hm (fun b o e => of_hideAll _ (D.K b o e)) (D.T.nolimit.keeps fun b o e => of_hideAll _ e) ho hcd HA.room hbind hloc
    (fun L' h₁ hL F N hk₁ => wpAny_mono (h _ L' h₁ hL rfl HA.deeper F N hk₁) (fun _ _ x => x) fun _ _ x => x.elim) hco hgen hk hcell
theorem enter_exc {w : World} {A : Around} {s : Shared} {mg mb : Str → Option Value} {R : Result → Shared → Prop} {name qual : Str} {params : Arguments} {body : List Stmt} {scope : Scope} {dV kV doc pm cdv ct oc : Value} {an od : Option Addr} {osl : Array (Option Value)} {f : Addr} {args : Args} {binds : List (Str × Value)}
    (n : Nat) (HA : Ar (n + 1) A s.heap) (D : Gd w mg mb s.heap)
    (ho : (hd.heap_39 w.params).lookup f = some ⟨oc, od, .func (fnOf name qual params body scope dV kV doc pm an cdv ct), osl⟩) (hcd : codeIn (hd.heap_39 w.params) cdv qual = true)
    (hbind : BindsTo s (fnOf name qual params body scope dV kV doc pm an cdv ct) args binds) (hloc : ∀ y ∈ binds, scope.names.lookup y.1 = some .local)
    (h : ∀ A' L' h₁, s.heap.objs.size = L' → A'.handled = A.handled → A'.frames = A.frames.map (envOf qual scope L' f cdv :: ·) → Ar n A' s.heap → Fr s.heap L' h₁ (fun y => binds.reverse.lookup y) → News s.heap L' h₁ [] →
      wpAny (model PR w) A' (execs body (envOf qual scope L' f cdv))
        (fun fl s' => R (.ok (.ret (match fl with | .ret v => v | _ => .none))) s')
        (fun e s' => wpAny (model PR w) A' (leaving (envOf qual scope L' f cdv) e) (fun _ s'' => R (.error e) s'') (fun e' s'' => R (.error e') s'') s') { s with heap := h₁, toks := s.toks + binds.length })
    (hco : scope.isCoroutine = false) (hgen : scope.isGenerator = false) (hk : scope.kind = .function)
    (hcell : ∀ x ∈ scope.names, x.2 ≠ .cell) : codeAny (model PR w) A (.call (.ref f) args) R s :=
  enter_def [] (fun _ hp => nomatch hp) D.K D.T.nolimit ho hcd HA.room hbind hloc
    (fun L' h₁ hL F N _ => h _ L' h₁ hL rfl rfl HA.deeper F N) hco hgen hk hcell
end
section
open PySem PySem.W PySem.Calls PyProof.Rows
set_option maxRecDepth 100000
theorem enter_cells {w : World} {A : Around} {s : Shared} {mg mb : Str → Option Value} {R : Result → Shared → Prop} {name qual : Str} {params : Arguments} {body : List Stmt} {scope : Scope} {dV kV doc pm cdv ct oc : Value} {an od : Option Addr} {osl : Array (Option Value)} {f : Addr} {args : Args} {binds : List (Str × Value)}
    (n : Nat) (muts : List (Addr × Obj)) (hm : ∀ p ∈ muts, s.heap.get? p.1 = some p.2) (HA : Ar (n + 1) A (hideAll s.heap (muts.map (·.1)))) (D : Gd w mg mb (hideAll s.heap (muts.map (·.1))))
    (ho : (hd.heap_39 w.params).lookup f = some ⟨oc, od, .func (fnOf name qual params body scope dV kV doc pm an cdv ct), osl⟩) (hcd : codeIn (hd.heap_39 w.params) cdv qual = true)
    (hbind : BindsTo s (fnOf name qual params body scope dV kV doc pm an cdv ct) args binds) (hkind : (binds.all fun y => scope.names.lookup y.1 == some .local || scope.names.lookup y.1 == some .cell) = true)
    (hnd : ((cellsFrom 0 scope.names []).map (·.1)).Nodup)
    (h : ∀ A' L' h₁ tk cells, s.heap.objs.size = L' → A'.handled = A.handled → A'.frames = A.frames.map (envOfC qual scope L' f cdv :: ·) → Ar n A' (hideAll s.heap (muts.map (·.1))) → Fr (hideAll s.heap (muts.map (·.1))) L' h₁ (bindL (envOfC qual scope L' f cdv).kindOf binds fun _ => none) → News (hideAll s.heap (muts.map (·.1))) L' h₁ (cells ++ muts) →
      CellsAre (bindC (envOfC qual scope L' f cdv).kindOf binds fun _ => none) (cellsFrom (L' + 1) scope.names []) cells → (∀ b o, s.heap.get? b = some o → h₁.get? b = some o) → (∀ p ∈ muts, p.1 < L') →
      wpAny (model PR w) A' (execs body (envOfC qual scope L' f cdv))
        (fun fl s' => R (.ok (.ret (match fl with | .ret v => v | _ => .none))) s') (fun _ _ => False) { s with heap := h₁, toks := tk })
    (hco : scope.isCoroutine = false) (hgen : scope.isGenerator = false) (hk : scope.kind = .function) : codeAny (model PR w) A (.call (.ref f) args) R s := by
  have X : (hd.heap_39 w.params).In s.heap := fun b o e => of_hideAll _ (D.K b o e)
  have hlim := D.T.nolimit.keeps fun b o e => of_hideAll _ e
  refine codeAny_call_function HA.room (X _ _ ho) rfl hco hgen rfl (codeRec_of X hcd) (hbind _ _ _ _ ?_)
  refine wpAny_newFunctionEnv_cells hk (kindsX hkind _) fun env' he s' x => ?_
  subst he
  refine ⟨hlim.keeps x.toInCall.keep, codeAny_func ?_⟩
  obtain ⟨h₁, tk, rfl, _⟩ := x.done
  have hk₁ := x.toInCall.keep
  obtain ⟨cells, NC, Y⟩ := Cl.news (h₀ := s.heap) (Nat.le_refl _) fun n c hm => ⟨x.cell n c (lookup_of_mem_nodup (cellsFrom_names scope.names 0 (s.heap.objs.size + 1) [] [] rfl ▸ hnd) hm), x.above n c hm⟩
  refine wpAny_mono (h (A.deeper (envOfC qual scope s.heap.objs.size f cdv)) s.heap.objs.size h₁ tk cells rfl rfl rfl HA.deeper ⟨x.toInCall.ns, fun b o e => hk₁ b o (of_hideAll _ e), Nat.le_of_eq (hideAll_size _ _)⟩ (fun p hp => ?_) Y hk₁ (fun p hp => Heap.lt_size (hm p hp))) (fun _ _ x => x) fun _ _ x => x.elim
  rcases List.mem_append.mp hp with hp | hp
  · refine ⟨(NC p hp).1, (NC p hp).2.1, ?_⟩
    cases q : (hideAll s.heap (muts.map (·.1))).get? p.1 with
    | none => rfl
    | some o => have := of_hideAll _ q; rw [(NC p hp).2.2] at this; cases this
  · exact ⟨hk₁ _ _ (hm p hp), Nat.ne_of_lt (Heap.lt_size (hm p hp)), hideAll_none _ (List.mem_map_of_mem hp)⟩
end
section
open PySem PySem.W PySem.Calls PyProof.Rows
set_option maxRecDepth 100000
example : ∀ w : World, ∀ h, (hd.heap_39 w.params).In h → PySem.Challenge.rw_on0094_01.Holds → True := by k_fill; intros; trivial

def DrawBack (J l : Addr) (c i : Int) (s : Shared) (r : Result) (s' : Shared) : Prop :=
  Ex8 fun v tv h' tk x' tx' i' ti' => ∃ n', (0 ≤ v ∧ v < c) ∧ r = .ok (.ret (.int v tv)) ∧ s' = { s with heap := h', toks := tk } ∧ (∀ b o, s.heap.get? b = some o → b ≠ J → h'.get? b = some o) ∧ h'.get? J = some (listOf #[.int x' tx', .int i' ti', .ref l] n') ∧ (0 ≤ x' ∧ x' < 10 ^ 60) ∧ (0 ≤ i' ∧ i' ≤ i + 1)
theorem drawBack_of {J l L' : Addr} {c i v x' i' : Int} {tv tx' ti' : Tok} {n' tk : Nat} {s : Shared} {h' : Heap} {m : Str → Option Value} {news : List (Addr × Obj)} (F : Fr (hideAll s.heap [J]) L' h' m) (N : News (hideAll s.heap [J]) L' h' news)
    (hm : (J, listOf #[.int x' tx', .int i' ti', .ref l] n') ∈ news) (hv : 0 ≤ v ∧ v < c) (hx : 0 ≤ x' ∧ x' < 10 ^ 60) (hi : 0 ≤ i' ∧ i' ≤ i + 1) : DrawBack J l c i s (.ok (.ret (.int v tv))) { s with heap := h', toks := tk } :=
  ⟨v, tv, h', tk, x', tx', i', ti', n', hv, rfl, rfl, fun b o e hb => F.keep b o (hideAll_get [J] e (by simpa using hb)), (N _ hm).1, hx, hi⟩
theorem fmod_in {x c : Int} (hc : 0 < c) : 0 ≤ x.fmod c ∧ x.fmod c < c := by
  rw [Int.fmod_eq_emod_of_nonneg _ (by omega)]
  exact ⟨Int.emod_nonneg _ (by omega), Int.emod_lt_of_pos _ hc⟩
theorem fdiv_in {x c b : Int} (hc : 0 < c) (hx : 0 ≤ x ∧ x < b) : 0 ≤ x.fdiv c ∧ x.fdiv c < b := by
  rw [Int.fdiv_eq_ediv_of_nonneg _ (by omega)]
  exact ⟨Int.ediv_nonneg hx.1 (by omega), Int.lt_of_le_of_lt (Int.ediv_le_self _ hx.1) hx.2⟩
theorem low_in {a i : Int} (hi : 0 ≤ i ∧ i < 1000000) : 0 ≤ (a.fmod 1000000007 + 7919 * (i + 1) + 3) * (a.fmod 1000000007 + 7919 * (i + 1) + 3) * 69069 + (i + 1) ∧ (a.fmod 1000000007 + 7919 * (i + 1) + 3) * (a.fmod 1000000007 + 7919 * (i + 1) + 3) * 69069 + (i + 1) < 10 ^ 60 := by
  have h := @fmod_in a 1000000007 (by omega)
  have h0 : 0 ≤ a.fmod 1000000007 + 7919 * (i + 1) + 3 := by omega
  have h1 : a.fmod 1000000007 + 7919 * (i + 1) + 3 ≤ 100000000000 := by omega
  generalize a.fmod 1000000007 + 7919 * (i + 1) + 3 = y at *
  have h2 : 0 ≤ y * y := Int.mul_nonneg h0 h0
  have h3 : y * y ≤ 100000000000 * 100000000000 := Int.mul_le_mul h1 h1 h0 (by decide)
  constructor
  · omega
  · refine Int.lt_of_lt_of_le (b := 10 ^ 30) ?_ (by decide)
    omega

set_option maxHeartbeats 4000000 in
theorem draw_code {w : World} {mg mb : Str → Option Value} {A : Around} {s : Shared} {J l : Addr} {x i c : Int} {tx ti tc : Tok} {n : Nat} {vs : List Value} {ns : List Int}
    (HA : Ar 1 A (hideAll s.heap [J])) (D : Gd w mg mb (hideAll s.heap [J])) (hJ : s.heap.get? J = some (listOf #[.int x tx, .int i ti, .ref l] n))
    (hl : (hideAll s.heap [J]).IsList l vs.toArray) (hi : IntsAre vs ns) (hn : 0 < ns.length ∧ ns.length ≤ 40) (hx : 0 ≤ x ∧ x < 10 ^ 60) (hi0 : 0 ≤ i ∧ i < 1000000) (hc : 0 < c ∧ c ≤ 1000) :
    codeAny (model PR w) A (.call (.ref 171) ⟨[.ref J, .int c tc], []⟩) (DrawBack J l c i s) s := by
  refine' enter_pure (binds := [(Str.ofString "jar", .ref J), (Str.ofString "count", .int c tc)]) 0 [(J, listOf #[.int x tx, .int i ti, .ref l] n)] (by intro p hp; cases hp with | head => exact hJ | tail _ h => cases h) HA D ?k6 ?k7 ?k9 ?kB ?_ ?c2 ?c3 ?c4 ?c5
  case k6 => k_is
  case k7 => k_is
  case k9 => exact BindsTo.of_eq rfl
  case c5 => decide
  case kB => exact locs rfl
  case c2 => exact rfl
  case c3 => exact rfl
  case c4 => exact rfl
  intro A' L' h₁ hL hh HA' F N hk
  have X := D.K
  have T := D.T
  change Fr (hideAll s.heap [J]) _ _ _ at F
  change News (hideAll s.heap [J]) _ _ _ at N
  with_reducible show wpAny _ _ _ _ _ _
  k_fold
  k_steps
  all_goals dsimp only
  all_goals (try k_unfold)
  all_goals (try dsimp only)
  all_goals (refine drawBack_of (by assumption) (by assumption) (.head _) ?_ ?_ ?_)
  all_goals (first | exact fmod_in hc.1 | exact fdiv_in hc.1 hx | exact fdiv_in hc.1 (low_in hi0) | exact fdiv_in hc.1 (fmod_in (by decide)) | omega | skip)
end
section
open PySem PySem.W PySem.Calls PyProof.Rows
set_option maxRecDepth 100000

theorem unchain_entry : entryFor table "proto.unchain" = some Builtin.«proto.unchain» := entryFor_of_fast (by kernel_rfl)

theorem raiseNew_ok {α : Type} {prog : Program} {w : World} {A : Around} {E : Value → Shared → Prop} {s : Shared} {h₁ : Heap} {e : Addr} {oe : Obj} {ws : Array Value} {Q : α → Shared → Prop} (H : HOk A h₁) (hk : ∀ b o, h₁.get? b = some o → s.heap.get? b = some o) (hn : h₁.get? e = none)
    (he : s.heap.get? e = some oe) (hd : oe.data = .fields ws) (h2 : 2 < ws.size)
    (h : ∀ h' oe', h'.get? e = some oe' → oe'.cls = oe.cls → (∀ b o, b ≠ e → s.heap.get? b = some o → h'.get? b = some o) → E (.ref e) { s with heap := h' }) : wpAny (model prog w) A (raiseNew (.ref e) : Sem α) Q E s := by
  rcases H with hh | ⟨x, ox, vs, hx, hox, hdx, hv⟩
  · exact wpAny_raiseNew_none hh (h s.heap oe he rfl fun _ _ _ z => z)
  · have hne : x ≠ e := fun q => by rw [q, hn] at hox; cases hox
    unfold raiseNew
    refine wpAny_bind (wpAny_handled ?_)
    rw [hx]
    dsimp only
    rw [if_pos (show (Value.ref x != Value.ref e) = true by simp [hne])]
    refine wpAny_bind (wpAny_holding (wpAny_runValue ?_))
    refine codeAny_builtinAt unchain_entry ?_
    refine wpAt_of_wpAny ?_
    show wpAny _ _ (field (.ref x) 2 >>= _) _ _ s
    refine wpAny_bind (wpAny_field (hk _ _ hox) hdx hv ?_)
    rw [if_pos (by rfl)]
    refine wpAny_pure ?_
    dsimp only
    refine wpAny_bind ?_
    show wpAny _ _ (setField (.ref e) 2 (.ref x)) _ _ s
    refine wpAny_setField he hd h2 (wpAny_throw ?_)
    refine h _ _ (Heap.get?_update_self _ he (Obj.isFreed_of_fields (Obj.data_mapFields hd _))) (Obj.cls_mapFields ..) fun b o hb q => ?_
    exact (Heap.get?_update_ne _ _ _ _ hb).trans q

/-- the interpreter's StopIteration, made and raised and taken by the loop: nothing but new objects -/
theorem stop_back {prog : Program} {w : World} {A : Around} {E : Value → Shared → Prop} {s : Shared} {P : Fin → Shared → Prop} {Q : Option Value → Shared → Prop} (H : HOk A s.heap)
    (hQ : ∀ h', (∀ b o, s.heap.get? b = some o → h'.get? b = some o) → Q none { s with heap := h' }) :
    wpAny (model prog w) A.in1 (newExc (.type "StopIteration") [] >>= fun e => (raiseNew e : Sem Fin)) P
      (fun e s' => wpAny (model prog w) A (do if ← isInstance e (.type "StopIteration") then pure none else throw e) Q E s') s := by
  refine wpAny_bind ?_
  simp only [newExc, newTuple]
  refine wpAny_bind (wpAny_newObj_type ?_ (by size_fits))
  refine wpAny_bind (m := firstArgMember _ _) (wpAny_of_eq (a := Value.none) (by first | rfl | (simp only [firstArgMember]; rfl)) ?_)
  refine wpAny_newObj_type ?_ (by size_fits)
  refine raiseNew_ok (h₁ := s.heap) (H : HOk A.in1 s.heap) (fun b o q => Heap.get?_push_of_some _ (Heap.get?_push_of_some _ q)) (Heap.get?_none_of_le ?_) (Heap.get?_push_size _ rfl) rfl (by simp; omega) fun h' oe' a b c => ?_
  · dsimp only; rw [Heap.size_push]; exact Nat.le_succ _
  refine wpAny_bind (wpAny_isInstance (T := "StopIteration") (b := true) ⟨_, a, b⟩ isSubtype_stop ?_)
  refine wpAny_pure (hQ _ fun b o q => ?_)
  refine c b o (fun z => ?_) (Heap.get?_push_of_some _ (Heap.get?_push_of_some _ q))
  have := Heap.lt_size q
  rw [z] at this
  dsimp only at this
  rw [Heap.size_push] at this
  exact absurd this (Nat.not_lt.mpr (Nat.le_succ _))

section
variable {prog : Program} {w : World} {A : Around} {E : Value → Shared → Prop} {s : Shared} {it l : Addr} {i : Nat} {items : Array Value} {Q : Option Value → Shared → Prop}
theorem HOk.upd {f : Obj → Obj} (H : HOk A s.heap) (hx' : ∀ x, A.handled = some (.ref x) → x ≠ it) : HOk A (s.heap.update it f) := by
  rcases H with hh | ⟨x, ox, vs, a, b, c⟩
  · exact .inl hh
  · exact .inr ⟨x, ox, vs, a, (Heap.get?_update_ne _ _ _ _ (hx' x a)).trans b, c⟩
theorem next_list_end (H : HOk A s.heap) (hx' : ∀ x, A.handled = some (.ref x) → x ≠ it)
    (hit : s.heap.IsListIter it l i) (hl : s.heap.IsList l items) (hx : items[i]? = none)
    (hQ : ∀ h', Heap.ExtBut it s.heap h' → Q none { s with heap := h' }) : wpAny (model prog w) A (pyNext (.ref it)) Q E s := by
  obtain ⟨o, ho, _, hd⟩ := id hit
  obtain ⟨ol, hol, _, nl, hdl⟩ := hl
  unfold pyNext
  refine wpAny_bind (wpAny_attempt (wpAny_callSpecial?_slot (name := Str.ofString "__next__") hit.typeIs slot_listiter_next
    (wpAny_call_entry slot_listiter_next hit.typeIs entry_listiter_next ?_ (args_listiter_next _))))
  show wpAny _ _ (field (.ref it) 0 >>= _) _ _ s
  refine wpAny_bind (wpAny_field ho hd (x := .ref l) rfl (wpAny_ite ?_))
  rw [if_neg (by exact Bool.false_ne_true)]
  refine wpAny_bind (wpAny_field ho hd (x := .int i 0) rfl (wpAny_bind (wpAny_seqItems hol hdl ?_)))
  simp only [Int.toNat_natCast, hx]
  refine wpAny_bind (wpAny_rule (wpAny_bind (wpAny_setField ho hd (by simp) ?_)))
  refine stop_back (H.upd hx') fun h' k => hQ _ fun b o hb q => k b o ((Heap.get?_update_ne _ _ _ _ hb).trans q)
theorem next_tup_end (H : HOk A s.heap) (hx' : ∀ x, A.handled = some (.ref x) → x ≠ it)
    (hit : PyProof.Rows.IsTupIter s.heap it l i) (hl : IsTup s.heap l items) (hx : items[i]? = none)
    (hQ : ∀ h', Heap.ExtBut it s.heap h' → Q none { s with heap := h' }) : wpAny (model prog w) A (pyNext (.ref it)) Q E s := by
  obtain ⟨o, ho, _, hd⟩ := id hit
  obtain ⟨ol, hol, _, nl, hdl⟩ := hl
  unfold pyNext
  refine wpAny_bind (wpAny_attempt (wpAny_callSpecial?_slot (name := Str.ofString "__next__") hit.typeIs slot_tupleiter_next
    (wpAny_call_entry slot_tupleiter_next hit.typeIs entry_tupleiter_next ?_ (args_tupleiter_next _))))
  show wpAny _ _ (field (.ref it) 0 >>= _) _ _ s
  refine wpAny_bind (wpAny_field ho hd (x := .ref l) rfl (wpAny_ite ?_))
  rw [if_neg (by exact Bool.false_ne_true)]
  refine wpAny_bind (wpAny_field ho hd (x := .int i 0) rfl (wpAny_bind (wpAny_seqItems hol hdl ?_)))
  simp only [Int.toNat_natCast, hx]
  refine wpAny_bind (wpAny_rule (wpAny_bind (wpAny_setField ho hd (by simp) ?_)))
  refine stop_back (H.upd hx') fun h' k => hQ _ fun b o hb q => k b o ((Heap.get?_update_ne _ _ _ _ hb).trans q)
end

section
variable {prog : Program} {w : World} {A : Around} {E : Value → Shared → Prop} {s : Shared} {env : Env} {h₀ : Heap} {L : Addr} {m : Str → Option Value} {news : List (Addr × Obj)}
theorem HOk.off {h : Heap} (H : HOk A h) {b : Addr} (hb : h.get? b = none) : ∀ x, A.handled = some (.ref x) → x ≠ b := by
  intro x hx q
  rcases H with hh | ⟨y, ox, vs, a, c, _⟩
  · rw [hh] at hx; cases hx
  · rw [hx] at a; cases a; rw [q, hb] at c; cases c
theorem unpack_ok {elts : List Expr} {k} {pos : Pos} {t : Addr} {items : Array Value} {Q : Unit → Shared → Prop} (F : Fr h₀ L s.heap m) (N : News h₀ L s.heap news) (H : HOk A h₀) (ht : IsTup s.heap t items)
    (hn : (assignEach elts env).length = items.size) (hstar : (assignEach elts env).findIdx? (·.1) = none)
    (h : ∀ h', Fr h₀ L h' m → News h₀ L h' news → wpAny (model prog w) A (assignInOrder ((assignEach elts env).map (·.2)) items.toList) Q E { s with heap := h' }) :
    wpAny (model prog w) A (assign (.Tuple elts k pos) env (.ref t)) Q E s := by
  have Hs : HOk A s.heap := H.keeps F.keep
  have hlt : t ≠ s.heap.objs.size := by obtain ⟨o, ho, _⟩ := ht; exact Nat.ne_of_lt (Heap.lt_size ho)
  have hoff := Hs.off (Heap.get?_none_of_le (Nat.le_refl _))
  rw [PyProof.Rows.assign_Tuple]
  refine wpAny_bind (wpAny_standAt ?_)
  unfold unpack
  rw [hn, hstar]
  refine wpAny_bind (wpAny_holding ?_)
  unfold unpackItems notIterableAtAll
  refine wpAny_bind (wpAny_bind (wpAny_specialOf ht.typeIs slot_tuple_iter.lookup (wpAny_pure ?_)))
  simp only [Option.isSome_some, Bool.not_true, Bool.false_and, Bool.false_eq_true, if_false]
  refine wpAny_bind (wpAny_holding (iter_tuple ht ?_))
  refine wpAny_bind (wpAny_holding (draw_tuple hlt items.size 0 _ _ ⟨_, Heap.get?_push_size _ rfl, rfl, rfl⟩ (ht.push _) (by omega) fun h₁ hit₁ hs₁ => ?_))
  rw [List.drop_zero, List.take_of_length_le (l := items.toList) (by simp), if_neg (by simp)]
  have ht₁ : IsTup h₁ t items := (ht.push _).extBut hs₁.extBut hlt
  have k₁ : ∀ b o, s.heap.get? b = some o → h₁.get? b = some o := fun b o e => hs₁.extBut b o (Nat.ne_of_lt (Heap.lt_size e)) (Heap.get?_push_of_some _ e)
  refine wpAny_bind (wpAny_holding (next_tup_end (Hs.keeps k₁) hoff hit₁ ht₁ (by simp) fun h₂ he₂ => ?_))
  simp only [Option.isSome_none, Bool.false_eq_true, if_false]
  have k₂ : ∀ b o, s.heap.get? b = some o → h₂.get? b = some o := fun b o e => he₂ b o (Nat.ne_of_lt (Heap.lt_size e)) (k₁ b o e)
  exact wpAny_pure (h h₂ (F.keeps k₂) fun p hp => ⟨k₂ _ _ (N p hp).1, (N p hp).2⟩)
end

/-- the end of a turn: the iterator as it stands, the rest by the invariant -/
def TurnTo (h₀ : Heap) (L : Addr) (J : (Str → Option Value) → List (Addr × Obj) → Prop) (it : Addr × Obj) (s₁ s₂ : Shared) : Prop :=
  Ex4 fun h' tk m' led' => s₂ = { s₁ with heap := h', toks := tk } ∧ Fr h₀ L h' m' ∧ News h₀ L h' (it :: led') ∧ (∀ p ∈ led', p.1 ≠ it.1) ∧ J m' led'
def TurnQ (h₀ : Heap) (L : Addr) (J : (Str → Option Value) → List (Addr × Obj) → Prop) (it : Addr × Obj) (s₁ : Shared) (Q : Flow → Shared → Prop) (f : Flow) (s₂ : Shared) : Prop :=
  match f with
  | .ret v => Q (.ret v) s₂
  | .brk => Q .next s₂
  | _ => TurnTo h₀ L J it s₁ s₂

section
variable {prog : Program} {w : World} {A : Around} {E : Value → Shared → Prop} {s : Shared} {env : Env} {h₀ : Heap} {target : Expr} {body : List Stmt} {Q : Flow → Shared → Prop}
theorem turns_gen {I : Addr} {fp : List Addr} {n : Nat} {P Md : Nat → Value → Heap → Prop} {St : Nat → Heap → Prop} {m : Str → Option Value} {led : List (Addr × Obj)} (W : KTurns prog w A target I fp [I] n P Md St)
    (hfp : ∀ b ∈ fp, b = I ∨ ∃ q, h₀.get? b = some q) (hI0 : h₀.get? I = none) (hob : ∀ i h, St i h → ∃ o, h.get? I = some o) (hLI : env.locals ≠ I) (hnw : ∀ p ∈ led, p.1 ≠ I) (hst : St 0 s.heap) (F : Fr h₀ env.locals s.heap m) (N : News h₀ env.locals s.heap led)
    (J : Nat → (Str → Option Value) → List (Addr × Obj) → Prop) (h0 : J 0 m led)
    (turn : ∀ i v m₁ led₁ h tk io, i < n → P i v h → (∀ p ∈ led₁, p.1 ≠ I) → J i m₁ led₁ → Fr h₀ env.locals h m₁ → News h₀ env.locals h ((I, io) :: led₁) →
      wpAny (model prog w) A (assign target env v) (fun _ s₃ => wpAny (model prog w) A (execs body env) (TurnQ h₀ env.locals (J (i + 1)) (I, io) { s with heap := h, toks := tk } Q) E s₃) E { s with heap := h, toks := tk })
    (done : ∀ m₁ led₁ h tk, J n m₁ led₁ → Fr h₀ env.locals h m₁ → News h₀ env.locals h led₁ → Q .next { s with heap := h, toks := tk }) :
    TurnsAt prog w A h₀ env target body Q E (.ref I) s := by
  have hIfp : I ∈ fp := W.sub I (.head _)
  refine ⟨I, fp, [I], n, P, Md, St, m, led, J, rfl, W, ?_, ?_, ?_, hst, F, N, h0, ?_, ?_⟩
  · intro hm
    rcases hfp _ hm with e | ⟨q, hq⟩
    · exact hLI e
    · exact absurd (Nat.lt_of_lt_of_le (Heap.lt_size hq) F.above) (Nat.lt_irrefl _)
  · intro b hb; rw [List.mem_singleton.mp hb]; exact hI0
  · intro p hp hq; exact hnw p hp (List.mem_singleton.mp hq)
  · intro i v m₁ led₁ h tk own hi hP hJ hoff hown hget hall hst' F₁ N₁
    obtain ⟨io, hio⟩ := hob _ _ hst'
    have hmem : (I, io) ∈ own := hall I hIfp hI0 io hio
    have hone : ∀ p ∈ own, p = (I, io) := by
      intro p hp
      have h3 := N₁ p (List.mem_append_left _ hp)
      rcases hfp p.1 (hown p hp) with e1 | ⟨q, hq⟩
      · have h4 := h3.1
        rw [e1, hio] at h4
        exact Prod.ext e1 (Option.some.inj h4).symm
      · have h5 := h3.2.2
        rw [hq] at h5; cases h5
    have hoff' : ∀ p ∈ led₁, p.1 ≠ I := fun p hp q => hoff p hp (List.mem_singleton.mpr q)
    have N₂ : News h₀ env.locals h ((I, io) :: led₁) := by
      intro p hp
      rcases List.mem_cons.mp hp with rfl | hp
      · exact N₁ _ (List.mem_append_left _ hmem)
      · exact N₁ _ (List.mem_append_right _ hp)
    refine wpAny_mono (turn i v m₁ led₁ h tk io hi hP hoff' hJ F₁ N₂) (fun _ s₃ z => wpAny_mono z (fun f s₂ p => ?_) fun _ _ e => e) fun _ _ e => e
    have fin : TurnTo h₀ env.locals (J (i + 1)) (I, io) { s with heap := h, toks := tk } s₂ → LoopStepU h₀ env.locals [I] own (J (i + 1)) { s with heap := h, toks := tk } .next s₂ := by
      rintro ⟨h', tk', m', led', e, F', N', ho, hm⟩
      refine ⟨rfl, h', tk', m', led', e, F', fun p hp => ?_, fun p hp hq => ho p hp (List.mem_singleton.mp hq), hm⟩
      rcases List.mem_append.mp hp with hp | hp
      · rw [hone p hp]; exact N' _ (.head _)
      · exact N' p (.tail _ hp)
    cases f with
    | ret v => exact .ret p
    | brk => exact .brk p
    | next => exact .next (fin p)
    | cont => exact .cont (fin p)
  · intro h' tk m' led' F' N' _ hJ
    exact done m' led' h' tk hJ F' N'

theorem turns_list {l : Addr} {vs : List Value} {m : Str → Option Value} {led : List (Addr × Obj)} (J : Nat → (Str → Option Value) → List (Addr × Obj) → Prop)
    (H : HOk A h₀) (hl : h₀.IsList l vs.toArray) (F : Fr h₀ env.locals s.heap m) (N : News h₀ env.locals s.heap led) (h0 : J 0 m led)
    (turn : ∀ i v m₁ led₁ h tk I io, vs[i]? = some v → (∀ p ∈ led₁, p.1 ≠ I) → J i m₁ led₁ → Fr h₀ env.locals h m₁ → News h₀ env.locals h ((I, io) :: led₁) →
      wpAny (model prog w) A (assign target env v) (fun _ s₃ => wpAny (model prog w) A (execs body env) (TurnQ h₀ env.locals (J (i + 1)) (I, io) { s with heap := h, toks := tk } Q) E s₃) E { s with heap := h, toks := tk })
    (done : ∀ m₁ led₁ h tk, J vs.length m₁ led₁ → Fr h₀ env.locals h m₁ → News h₀ env.locals h led₁ → Q .next { s with heap := h, toks := tk }) :
    wpAny (model prog w) A (pyIter (.ref l)) (fun it s₂ => TurnsAt prog w A h₀ env target body Q E it s₂) E s := by
  have hls : s.heap.IsList l vs.toArray := hl.at fun o e => F.keep l o e
  obtain ⟨ol, hol, _⟩ := id hl
  have hlt : l < s.heap.objs.size := Heap.lt_size (F.keep _ _ hol)
  have hne : l ≠ s.heap.objs.size := Nat.ne_of_lt hlt
  have hI0 : h₀.get? s.heap.objs.size = none := next_is_new F
  have hoff := H.off hI0
  refine wpAny_pyIter_list hls ?_
  let hs : List Addr := match A.handled with | some (.ref x) => [x] | _ => []
  have hhs : ∀ b ∈ hs, ∃ q, h₀.get? b = some q := by
    intro b hb
    rcases H with hh | ⟨x, ox, _, a, c, _⟩
    · simp only [hs, hh] at hb; cases hb
    · simp only [hs, a, List.mem_singleton] at hb
      exact ⟨ox, hb ▸ c⟩
  have W : KTurns prog w A target s.heap.objs.size (s.heap.objs.size :: l :: hs) [s.heap.objs.size] vs.length (fun i v _ => vs[i]? = some v)
      (fun i v h => vs[i]? = some v ∧ h.IsListIter s.heap.objs.size l (i + 1) ∧ h.IsList l vs.toArray ∧ HOk A h) (fun i h => h.IsListIter s.heap.objs.size l i ∧ h.IsList l vs.toArray ∧ HOk A h) := by
    refine ⟨?_, ?_, ?_, ?_, ?_⟩
    · intro b hb; rw [List.mem_singleton.mp hb]; exact .head _
    · intro i h h' ⟨a, b, c⟩ k
      refine ⟨a.at fun o e => k _ (.head _) o e, b.at fun o e => k _ (.tail _ (.head _)) o e, ?_⟩
      rcases c with hh | ⟨x, ox, xs, c1, c2, c3⟩
      · exact .inl hh
      · exact .inr ⟨x, ox, xs, c1, k x (.tail _ (.tail _ (by simp only [hs, c1]; exact .head _))) ox c2, c3⟩
    · intro i s' Q' E' hi ⟨a, b, c⟩ hQ
      refine wpAny_pyNext_list_item a b (x := vs[i]) (by simp [hi]) fun h' hit' hs' => ?_
      refine hQ _ h' s'.toks ⟨by simp [hi], hit', b.extBut hs'.extBut hne, ?_⟩ fun b o hb e => hs'.extBut b o (fun h => hb (by simp [h])) e
      rcases c with hh | ⟨x, ox, xs, c1, c2, c3⟩
      · exact .inl hh
      · exact .inr ⟨x, ox, xs, c1, hs'.extBut x ox (hoff x c1) c2, c3⟩
    · intro i v s' Q' E' ⟨a, b, c⟩ hQ
      exact letGo_listiter b (hQ s'.heap a ⟨b, c⟩ fun _ _ _ e => e)
    · intro s' Q' E' ⟨a, b, c⟩ hQ
      exact next_list_end c hoff a b (by simp) fun h' he' => hQ h' s'.toks fun b o hb e => he' b o (fun h => hb (by simp [h])) e
  refine turns_gen W ?_ hI0 ?_ (Nat.ne_of_lt F.ns.lt) (fun p hp => Nat.ne_of_lt (Heap.lt_size (N p hp).1)) ⟨⟨_, Heap.get?_push_size _ rfl, rfl, rfl⟩, hls.at fun o e => Heap.get?_push_of_some _ e, ?_⟩ (F.push _) (fun p hp => ⟨Heap.get?_push_of_some _ (N p hp).1, (N p hp).2⟩) J h0 ?_ ?_
  · intro b hb
    rcases List.mem_cons.mp hb with e | hb
    · exact .inl e
    · rcases List.mem_cons.mp hb with e | hb
      · exact .inr ⟨ol, e ▸ hol⟩
      · exact .inr (hhs b hb)
  · rintro i h ⟨⟨o, ho, _⟩, _⟩; exact ⟨o, ho⟩
  · exact (H.keeps F.keep).keeps fun b o e => Heap.get?_push_of_some _ e
  · intro i v m₁ led₁ h tk io _ hv ho hJ F₁ N₁
    exact turn i v m₁ led₁ h tk _ io hv ho hJ F₁ N₁
  · exact done
theorem turns_range {r : Addr} {a₀ b₀ : Int} {t₀ u₀ v₀ : Tok} {n : Nat} {m : Str → Option Value} {led : List (Addr × Obj)} (J : Nat → (Str → Option Value) → List (Addr × Obj) → Prop)
    (hh : A.handled = none) (hr : IsRange s.heap r a₀ b₀ 1 t₀ u₀ v₀) (hsmall : Builtin.Range.small a₀ b₀ 1 = true) (hn : Builtin.Range.rangeSize a₀ b₀ 1 = (n : Int)) (F : Fr h₀ env.locals s.heap m) (N : News h₀ env.locals s.heap led) (h0 : J 0 m led)
    (turn : ∀ (i : Nat) k t m₁ led₁ h tk I io, i < n → k = a₀ + (i : Int) → (∀ p ∈ led₁, p.1 ≠ I) → J i m₁ led₁ → Fr h₀ env.locals h m₁ → News h₀ env.locals h ((I, io) :: led₁) →
      wpAny (model prog w) A (assign target env (.int k t)) (fun _ s₃ => wpAny (model prog w) A (execs body env) (TurnQ h₀ env.locals (J (i + 1)) (I, io) { s with heap := h, toks := tk } Q) E s₃) E { s with heap := h, toks := tk })
    (done : ∀ m₁ led₁ h tk, J n m₁ led₁ → Fr h₀ env.locals h m₁ → News h₀ env.locals h led₁ → Q .next { s with heap := h, toks := tk })
    (hgo : ∀ it v, letOwnedTupleGo target it v = pure () := by intro _ _; rfl) :
    wpAny (model prog w) A (pyIter (.ref r)) (fun it s₂ => TurnsAt prog w A h₀ env target body Q E it s₂) E s := by
  refine wpAny_pyIter_range hr hsmall ?_
  have W := KTurns.ofWalks (target := target) (Walks.range (prog := prog) (w := w) hh s.heap.objs.size a₀ 1 n) (fun i v s Q E _ hQ => by rw [hgo]; exact wpAny_pure hQ)
  refine turns_gen W ?_ (next_is_new F) ?_ (Nat.ne_of_lt F.ns.lt) (fun p hp => Nat.ne_of_lt (Heap.lt_size (N p hp).1)) (by show IsRangeIter _ _ _ _ _; rw [hn]; simpa using Heap.get?_push_size _ rfl) (F.push _) (fun p hp => ⟨Heap.get?_push_of_some _ (N p hp).1, (N p hp).2⟩) J h0 ?_ ?_
  · intro b hb; exact .inl (List.mem_singleton.mp hb)
  · intro i h hi; exact ⟨_, hi⟩
  · rintro i v m₁ led₁ h tk io hi ⟨t, rfl⟩ ho hJ F₁ N₁
    exact turn i _ t m₁ led₁ h tk _ io hi (by omega) ho hJ F₁ N₁
  · exact done
theorem turns_upto {r : Addr} {t₀ u₀ v₀ : Tok} {n : Nat} {b : Int} {m : Str → Option Value} {led : List (Addr × Obj)} (J : Nat → (Str → Option Value) → List (Addr × Obj) → Prop)
    (hh : A.handled = none) (hb : b = (n : Int)) (hn : n ≤ 1000000) (hr : IsRange s.heap r 0 b 1 t₀ u₀ v₀) (F : Fr h₀ env.locals s.heap m) (N : News h₀ env.locals s.heap led) (h0 : J 0 m led)
    (turn : ∀ (i : Nat) t m₁ led₁ h tk I io, i < n → (∀ p ∈ led₁, p.1 ≠ I) → J i m₁ led₁ → Fr h₀ env.locals h m₁ → News h₀ env.locals h ((I, io) :: led₁) →
      wpAny (model prog w) A (assign target env (.int (i : Int) t)) (fun _ s₃ => wpAny (model prog w) A (execs body env) (TurnQ h₀ env.locals (J (i + 1)) (I, io) { s with heap := h, toks := tk } Q) E s₃) E { s with heap := h, toks := tk })
    (done : ∀ m₁ led₁ h tk, J n m₁ led₁ → Fr h₀ env.locals h m₁ → News h₀ env.locals h led₁ → Q .next { s with heap := h, toks := tk })
    (hgo : ∀ it v, letOwnedTupleGo target it v = pure () := by intro _ _; rfl) :
    wpAny (model prog w) A (pyIter (.ref r)) (fun it s₂ => TurnsAt prog w A h₀ env target body Q E it s₂) E s := by
  subst hb
  refine turns_range J hh hr (small_one (by omega) (by omega) (by omega) (by omega)) (n := n) ?_ F N h0 ?_ done hgo
  · rw [rangeSize_nat]; congr 1
  · rintro i k t m₁ led₁ h tk I io hi hk ho hJ F₁ N₁
    obtain rfl : k = (i : Int) := by omega
    exact turn i t m₁ led₁ h tk I io hi ho hJ F₁ N₁
end
end
section
open PySem PySem.W PySem.Calls PyProof.Rows
set_option maxRecDepth 100000
section
variable {prog : Program} {w : World} {A : Around} {h₀ : Heap} {L : Addr} {m : Str → Option Value} {env : Env} {elt : PySem.Expr} {x : Str} {scope : Scope} {cl : List (Str × Addr)} {s : Shared} {S : List (Addr × Obj) → Prop} {P : Nat → Value → Prop} {Fin : List Value → List (Addr × Obj) → Prop}
theorem comp_from {n : Nat} (J : Nat → List Value → List (Addr × Obj) → Prop)
    (turn : ∀ i ys news v I oI C oC D m₂ h tk (E' : Value → Shared → Prop), i < n → J i ys news → P i v → LCg.NsObj oC m₂ → m₂ x = some v → Fr h₀ L h m → News h₀ L h ((I, oI) :: (C, oC) :: (D, LCg.lst ys) :: news) → LCg.Off3 I C D news → ((@Ne Nat I C) ∧ (@Ne Nat I D) ∧ (@Ne Nat C D)) →
      wpAny (model prog w) A (eval elt (compEnvC scope cl C env)) (LCg.CompEnd h₀ L m { s with heap := h, toks := tk } I oI C oC D (LCg.lst ys) S (fun y news' => J (i + 1) (ys ++ [y]) news')) E' { s with heap := h, toks := tk })
    (fin : ∀ ys news, J n ys news → Fin ys news) : ∀ k i ys news, i + k = n → J i ys news → LCg.CompRest prog w A h₀ L m env elt x scope cl s S P Fin k i ys news
  | 0, i, ys, news, e, hj => LCg.CompRest.zero (fin ys news ((show i = n by omega) ▸ hj))
  | k + 1, i, ys, news, e, hj => LCg.CompRest.succ fun v I oI C oC D m₂ h tk E' a1 a2 a3 a4 a5 a6 a7 =>
      wpAny_mono (turn i ys news v I oI C oC D m₂ h tk E' (by omega) hj a1 a2 a3 a4 a5 a6 a7) (fun y s₂ z => by
        obtain ⟨h', tk', news', rfl, F, N, off, hS, r⟩ := z
        exact ⟨h', tk', news', rfl, F, N, off, hS, comp_from J turn fin k (i + 1) _ _ (by omega) r⟩) fun _ _ z => z
theorem comp_inv {n : Nat} {news : List (Addr × Obj)} (J : Nat → List Value → List (Addr × Obj) → Prop) (hj : J 0 [] news)
    (turn : ∀ i ys news v I oI C oC D m₂ h tk (E' : Value → Shared → Prop), i < n → J i ys news → P i v → LCg.NsObj oC m₂ → m₂ x = some v → Fr h₀ L h m → News h₀ L h ((I, oI) :: (C, oC) :: (D, LCg.lst ys) :: news) → LCg.Off3 I C D news → ((@Ne Nat I C) ∧ (@Ne Nat I D) ∧ (@Ne Nat C D)) →
      wpAny (model prog w) A (eval elt (compEnvC scope cl C env)) (LCg.CompEnd h₀ L m { s with heap := h, toks := tk } I oI C oC D (LCg.lst ys) S (fun y news' => J (i + 1) (ys ++ [y]) news')) E' { s with heap := h, toks := tk })
    (fin : ∀ ys news, J n ys news → Fin ys news) : LCg.CompRest prog w A h₀ L m env elt x scope cl s S P Fin n 0 [] news := comp_from J turn fin n 0 [] news (by omega) hj
end
theorem upd_call {h₀ h h' : Heap} {L D : Addr} {m : Str → Option Value} {o o' : Obj} {news : List (Addr × Obj)} {news' : Obj → List (Addr × Obj)} (F : Fr h₀ L h m) (N : News h₀ L h news) (U : UpdF D o news news')
    (k : ∀ b o, h.get? b = some o → b ≠ D → h'.get? b = some o) (e : h'.get? D = some o') : Fr h₀ L h' m ∧ News h₀ L h' (news' o') := by
  obtain ⟨pre, post, rfl, hg, a, c⟩ := U.split
  have z := N (D, o) (List.mem_append.mpr (.inr (.head _)))
  refine ⟨⟨F.ns.at' fun o' e' => k L o' e' (fun q => z.2.1 q.symm), fun b ob eb => k b ob (F.keep b ob eb) (fun q => by rw [q, z.2.2] at eb; exact nomatch eb), F.above⟩, ?_⟩
  rw [hg]
  intro p hp
  rcases List.mem_append.mp hp with hp | hp
  · have y := N p (List.mem_append_left _ hp)
    exact ⟨k _ _ y.1 (a p hp), y.2⟩
  · rcases List.mem_cons.mp hp with rfl | hp
    · exact ⟨e, z.2⟩
    · have y := N p (List.mem_append_right _ (.tail _ hp))
      exact ⟨k _ _ y.1 (c p hp), y.2⟩
theorem News.add {h₀ h h' : Heap} {L : Addr} {m : Str → Option Value} {ts news : List (Addr × Obj)} (F : Fr h₀ L h m) (N : News h₀ L h' news) (t : ∀ p ∈ ts, h'.get? p.1 = some p.2 ∧ h.get? p.1 = none) : News h₀ L h' (ts ++ news) := by
  intro p hp
  rcases List.mem_append.mp hp with hp | hp
  · refine ⟨(t p hp).1, fun q => ?_, ?_⟩
    · obtain ⟨o, _, _, ho, _⟩ := F.ns
      rw [← q, (t p hp).2] at ho; cases ho
    · cases q : h₀.get? p.1 with
      | none => rfl
      | some o => have := F.keep _ _ q; rw [(t p hp).2] at this; cases this
  · exact N p hp
theorem hide_led {h₀ h : Heap} {L D : Addr} {o : Obj} {m : Str → Option Value} {news : List (Addr × Obj)} (F : Fr h₀ L h m) (N : News h₀ L h news) (hm : (D, o) ∈ news) : ∀ b o, h₀.get? b = some o → (hideAll h [D]).get? b = some o := fun b ob e =>
  hideAll_get _ (F.keep b ob e) fun q => by rw [List.mem_singleton.mp q, (N _ hm).2.2] at e; cases e
theorem led_hide {h₀ h : Heap} {L D b : Addr} {o : Obj} {news : List (Addr × Obj)} (N : News h₀ L h news) (hm : (b, o) ∈ news) (ne : b ≠ D) : (hideAll h [D]).get? b = some o := hideAll_get _ (N _ hm).1 (by simpa using ne)
end
section
open PySem PySem.W PySem.Calls PyProof.Rows PyProof.Rows.LCg
set_option maxRecDepth 100000
section
variable {prog : Program} {w : World} {A : Around} {E : Value → Shared → Prop} {s : Shared} {h₀ : Heap} {L : Addr} {m : Str → Option Value} {env : Env}
def SrcTup (prog : Program) (w : World) (A : Around) (h₀ : Heap) (L : Addr) (m : Str → Option Value) (env : Env) (elt : PySem.Expr) (x : Str) (scope : Scope) (cl : List (Str × Addr)) (Q : Value → Shared → Prop) (xv : Value) (s₁ : Shared) : Prop :=
  Ex3 fun ax its news => xv = .ref ax ∧ A.handled = none ∧ Fr h₀ L s₁.heap m ∧ News h₀ L s₁.heap news ∧ IsTup h₀ ax its ∧ its.size ≤ sizeLine ∧
    ∀ g, CompRest prog w A h₀ L m env elt x scope cl { s₁ with heap := g } (fun _ => True) (fun i v => its[i]? = some v) (FinE h₀ L m { s₁ with heap := g } Q) its.size 0 [] news
theorem comp_tup {elt iter : PySem.Expr} {x : Str} {px : Pos} {scope : Scope} {cl : List (Str × Addr)} {pos : Pos} {Q : Value → Shared → Prop} (F₀ : Fr h₀ L s.heap m)
    (hclos : closureFor scope env = pure cl) (hcell : ∀ y ∈ scope.names, y.2 ≠ .cell) (hkind : scope.kind = .function)
    (hnames : ∀ y ∈ scope.names, y.2 = .local → scope.names.lookup y.1 = some .local) (hx : scope.names.lookup x = some .local)
    (h : wpAny (model prog w) A (eval iter env) (SrcTup prog w A h₀ L m env elt x scope cl Q) E s)
    (hs : ∀ x, foldedSetIterable iter env x = pure x := by intro _; rfl) :
    wpAny (model prog w) A (eval (.ListComp elt [⟨.Name x px, iter, [], 0⟩] scope pos) env) Q E s := by
  rw [eval_ListComp]
  refine wpAny_comprehension_free (use := none) rfl hs hclos hkind hnames (wpAny_mono h (fun xv s₁ h₁ => ?_) fun _ _ e => e)
  obtain ⟨ax, its, news, rfl, hh, F, N, T, hsz, R⟩ := h₁
  have hl : s₁.heap.IsTuple ax its := by obtain ⟨o, e, c, n, d⟩ := T; exact ⟨o, F.keep _ _ e, c, n, d⟩
  have hlt : ax < s₁.heap.objs.size := by obtain ⟨_, e, _⟩ := hl; exact Heap.lt_size e
  refine wpAny_pyIter_tuple hl ?_
  have up : ∀ b o, s₁.heap.get? b = some o → (s₁.heap.push { cls := .type "tuple_iterator", data := .fields #[.ref ax, .int 0 0] }).get? b = some o := fun b o e => Heap.get?_push_of_some _ e
  refine block_U (S := fun _ => True) (Walks.tuple hh s₁.heap.objs.size ax (Nat.ne_of_lt hlt) its) hsz (fun i h st => by obtain ⟨o, e, _⟩ := st.1; exact ⟨o, e⟩)
    (fun i h h' o nw st e e' k N _ => ⟨by obtain ⟨o', q, r⟩ := st.1; rw [e] at q; cases q; exact ⟨o, e', r⟩, by obtain ⟨o', q, r⟩ := T; exact ⟨o', k _ _ q, r⟩⟩) hcell hkind hx ⟨⟨_, Heap.get?_push_size _ rfl, rfl, rfl⟩, by obtain ⟨o', q, r⟩ := hl; exact ⟨o', up _ _ q, r⟩⟩ (fun b hb => ?_)
    (F.keeps up) (N.grown up) (Nat.ne_of_lt F.ns.lt) (next_is_new F) (fun p hp => Nat.ne_of_lt (Heap.lt_size (N p hp).1)) trivial (R _) ?_
  · show b < (s₁.heap.push _).objs.size
    rw [Heap.size_push]
    rcases List.mem_cons.mp hb with rfl | hb
    · exact Nat.lt_succ_self _
    · rw [List.mem_singleton.mp hb]; exact Nat.lt_succ_of_lt hlt
  · intro D C h tk m' ys news' F' N' o1 hn hC₀ hD₀ hCL hDL hCD offC fin
    refine ⟨m', hn, fun h'' hs'' => fin D h'' tk (F'.change hs'' hCL hC₀) (fun p hp => ?_) o1⟩
    refine ⟨hs''.extBut _ _ ?_ (N' p hp).1, (N' p hp).2⟩
    rcases List.mem_cons.mp hp with rfl | hp
    · exact Ne.symm hCD
    · exact offC p hp
end
end
section
open PySem PySem.W PySem.Calls PyProof.Rows
theorem all_led (h H0 : Heap) (L : Addr) (k : ∀ b o, H0.get? b = some o → h.get? b = some o) : ∃ ts : List (Addr × Obj), News H0 L h ts ∧ ∀ b o, (hideAll h [L]).get? b = some o → H0.get? b = some o ∨ (b, o) ∈ ts := by
  refine ⟨(List.range h.objs.size).filterMap fun b : Nat => if b ≠ L ∧ (H0.get? b).isNone = true then (h.get? b).map (fun o => ((b : Addr), o)) else none, ?_, ?_⟩
  · intro p hp
    obtain ⟨b, _, hb⟩ := List.mem_filterMap.mp hp
    split at hb
    · rename_i hc
      obtain ⟨o, ho, rfl⟩ := Option.map_eq_some_iff.mp hb
      exact ⟨ho, hc.1, by simpa using hc.2⟩
    · cases hb
  · intro b o e
    have eb := of_hideAll _ e
    have hne : b ≠ L := fun q => by rw [q, hideAll_none _ (.head _)] at e; cases e
    cases q : H0.get? b with
    | some o' => left; have := k _ _ q; rw [eb] at this; exact this.symm
    | none =>
      right
      refine List.mem_filterMap.mpr ⟨b, List.mem_range.mpr (Heap.lt_size eb), ?_⟩
      rw [if_pos ⟨hne, by rw [q]; rfl⟩, eb]
      rfl
theorem all_keep {HD H0 h' : Heap} {L : Addr} {m : Str → Option Value} {ts led : List (Addr × Obj)} (a : ∀ b o, HD.get? b = some o → H0.get? b = some o ∨ (b, o) ∈ ts) (F : Fr H0 L h' m) (N : News H0 L h' led) (sub : ∀ p ∈ ts, p ∈ led) :
    ∀ b o, HD.get? b = some o → h'.get? b = some o := fun b o e => (a b o e).elim (F.keep b o) fun q => (N _ (sub _ q)).1
end
section
open PySem PySem.W PySem.Calls PyProof.Rows PyProof.V
set_option maxRecDepth 100000
theorem same_int' : ∀ a b : Int, PySem.Spec.same (.int a) (.int b) = decide (a = b) := fun a b => by
  simp only [PySem.Spec.same]
  by_cases h : a = b <;> simp [h]
theorem mem_keys {kvs : List (Int × Value)} {D : List (PyData × PyData)} (p : FlatPairs PyData.int kvs D) (x : Int) : x ∈ kvs.map (·.1) ↔ (PySem.Spec.lookup (.int x) D).isSome = true := by
  rw [← p.isSome same_int' x]
  unfold valueAt
  constructor
  · intro h
    obtain ⟨q, hq, rfl⟩ := List.mem_map.mp h
    rw [Option.isSome_map, List.find?_isSome]
    exact ⟨q, hq, by simp⟩
  · intro h
    rw [Option.isSome_map, List.find?_isSome] at h
    obtain ⟨q, hq, e⟩ := h
    exact List.mem_map.mpr ⟨q, hq, by simpa using e⟩
theorem intsAre_of {vs : List Value} : ∀ {ks : List Int}, vs.length = ks.length → (∀ (j : Nat) v, vs[j]? = some v → Ex2 fun k t => ks[j]? = some k ∧ v = .int k t) → IntsAre vs ks := by
  induction vs with
  | nil => intro ks hl _; cases ks with | nil => exact .nil | cons _ _ => cases hl
  | cons v vs ih =>
    intro ks hl h
    cases ks with
    | nil => cases hl
    | cons k ks =>
      obtain ⟨k', t, e, rfl⟩ := h 0 v rfl
      cases e
      exact .cons _ _ (ih (by simpa using hl) fun j u hu => h (j + 1) u (by simpa using hu))
section
variable {prog : Program} {w : World} {A : Around} {E : Value → Shared → Prop} {s : Shared} {h₀ : Heap} {L d : Addr} {m : Str → Option Value} {news : List (Addr × Obj)} {Q : Value → Shared → Prop} {o : Obj} {kvs : List (Int × Value)}
theorem sorted_dict (hh : A.handled = none) (F : Fr h₀ L s.heap m) (N : News h₀ L s.heap news) (hm : (d, o) ∈ news) (lo : (d == sysModules) = false) (hd : o.IsDictOf (intKind prog w) kvs) (hz : kvs.length < 64)
    (h : ∀ Lx h' tk vs ns e, Fr h₀ L h' m → News h₀ L h' ((Lx, listOf (List.toArray vs) e) :: news) → (∀ q ∈ news, @LT.lt Nat _ q.1 Lx) → IntsAre vs ns → ns.Perm (kvs.map (·.1)) → ns.Pairwise (· ≤ ·) → Q (.ref Lx) { s with heap := h', toks := tk }) :
    wpAny (model prog w) A (call (.builtin "sorted") [.ref d]) Q E s := by
  have hD : s.heap.DictOf (intKind prog w) d kvs := Heap.dictOf_iff.mpr ⟨o, (N _ hm).1, hd⟩
  obtain ⟨ep, hat⟩ := hD.dictAt
  refine kdu_sorted (kdl_dict (knd := intKind prog w) (kvs := kvs) (ep := ep) lo) hh F N hat (by rw [sizeLine_eq]; omega) fun B h' tk vs F' N' l1 hl hv => ?_
  have hI : IntsAre vs (kvs.map (·.1)) := intsAre_of (by rw [List.length_map]; exact hl) fun j v e => by
    obtain ⟨k, x, hx, hk⟩ := hv j v e
    obtain ⟨t, rfl⟩ := Flat.int_inv (kdl_flat_int hk)
    exact ⟨k, t, by rw [List.getElem?_map, hx]; rfl, rfl⟩
  have z := N' _ (.head _)
  refine wpAny_call_entry PyProof.Rows.slot_list_sort ⟨_, z.1, rfl⟩ PyProof.Rows.entry_list_sort (list_sort_tree (n := 0) (vs := vs) z.1 hI (by omega) fun out ns' hI' hp hP => ⟨.none, rfl, ?_⟩) (PyProof.Rows.args_list_sort _)
  obtain ⟨e, he⟩ := sortedHeap_at (out := out) z.1
  have hk : ∀ b ob, h'.get? b = some ob → b ≠ B → (sortedHeap h' B vs out).get? b = some ob := fun b ob eb hb => (sortedHeap_old hb (Heap.lt_size eb)).trans eb
  obtain ⟨F2, N2⟩ := upd_call F' N' (.head fun p hp q => absurd (l1 p hp) (by rw [q]; exact Nat.lt_irrefl _)) hk he
  exact h B _ _ out.toList ns' e F2 (by simpa using N2) l1 hI' hp hP
end
end
section
open PySem PySem.W PySem.Calls PyProof.Rows
set_option maxRecDepth 100000
open PySem.AutoSeq1 in
theorem meets_ext_list (l : Addr) (items : Array Value) (n : Nat) (b : Addr) (items2 : Array Value) (n2 : Nat) (db : Option Addr) (sb : Array (Option Value)) (hc0 : ¬(!items.isEmpty && Builtin.List.listTooLong (items.size + items2.size)) = true) (hc1 : items.size ≤ sizeLine) (hs2 : items.size + items2.size ≤ sizeLine + 1) :
    Meets (Builtin.«list.extend» ⟨[.ref l, .ref b], []⟩) (fun _ R s => s.heap.get? l = some { cls := .type "list", dict := none, data := .seq items n, slots := #[] } ∧ s.heap.get? b = some { cls := .type "list", dict := db, data := .seq items2 n2, slots := sb } ∧ R (.ok (.ret Value.none)) { s with heap := s.heap.update l (Obj.mapSeq fun x => x ++ items2), toks := s.toks }) :=
  .of_wp fun prog w A R s h => by
    obtain ⟨hp, g, d, tk, os⟩ := s; obtain ⟨hl, hb, h⟩ := h; have f1 := idx_int; have f2 := PySem.AutoSeq1.sub_tuple_tuple; have f3 := PySem.AutoSeq1.sub_list_list; have f4 := PySem.AutoSeq1.sub_tuple_list; have f5 := PySem.AutoSeq1.sub_list_tuple;
    have hz' : (items ++ items2).size ≤ sizeLine + 1 := by rw [Array.size_append]; exact hs2
    wp_walk using (wpAny_updateSeq hl rfl (hz := hc1) (_hz' := hz')), wpAny_loadPart' hl, wpAny_loadPart' hb; exact ⟨_, rfl, h⟩
open PySem.AutoSeq1 in
theorem meets_ext_tup (l : Addr) (items : Array Value) (n : Nat) (b : Addr) (items2 : Array Value) (n2 : Nat) (db : Option Addr) (sb : Array (Option Value)) (hc0 : ¬(!items.isEmpty && Builtin.List.listTooLong (items.size + items2.size)) = true) (hc1 : items.size ≤ sizeLine) (hs2 : items.size + items2.size ≤ sizeLine + 1) :
    Meets (Builtin.«list.extend» ⟨[.ref l, .ref b], []⟩) (fun _ R s => s.heap.get? l = some { cls := .type "list", dict := none, data := .seq items n, slots := #[] } ∧ s.heap.get? b = some { cls := .type "tuple", dict := db, data := .seq items2 n2, slots := sb } ∧ R (.ok (.ret Value.none)) { s with heap := s.heap.update l (Obj.mapSeq fun x => x ++ items2), toks := s.toks }) :=
  .of_wp fun prog w A R s h => by
    obtain ⟨hp, g, d, tk, os⟩ := s; obtain ⟨hl, hb, h⟩ := h; have f1 := idx_int; have f2 := PySem.AutoSeq1.sub_tuple_tuple; have f3 := PySem.AutoSeq1.sub_list_list; have f4 := PySem.AutoSeq1.sub_tuple_list; have f5 := PySem.AutoSeq1.sub_list_tuple;
    have hz' : (items ++ items2).size ≤ sizeLine + 1 := by rw [Array.size_append]; exact hs2
    wp_walk using (wpAny_updateSeq hl rfl (hz := hc1) (_hz' := hz')), wpAny_loadPart' hl, wpAny_loadPart' hb; exact ⟨_, rfl, h⟩

theorem extend_ok {prog : Program} {w : World} {A : Around} {E : Value → Shared → Prop} {s : Shared} {h₀ : Heap} {L D b : Addr} {m : Str → Option Value} {news : List (Addr × Obj)} {news' : Obj → List (Addr × Obj)} {vs us : List Value} {n : Nat} {Q : Value → Shared → Prop}
    (F : Fr h₀ L s.heap m) (N : News h₀ L s.heap news) (hb : s.heap.IsList b us.toArray ∨ IsTup s.heap b us.toArray) (U : UpdF D (listOf vs.toArray n) news news') (hz : vs.length + us.length ≤ 100000)
    (h : ∀ h' n', Fr h₀ L h' m → News h₀ L h' (news' (listOf (vs ++ us).toArray n')) → Q .none { s with heap := h' }) : wpAny (model prog w) A (call (.builtin "list.extend") [.ref D, .ref b]) Q E s := by
  obtain ⟨pre, post, rfl, hg, a, c⟩ := U.split
  have z := N (D, listOf vs.toArray n) (List.mem_append.mpr (.inr (.head _)))
  have hz1 : vs.toArray.size ≤ sizeLine := by rw [List.size_toArray, sizeLine_eq]; omega
  have hz2 : vs.toArray.size + us.toArray.size ≤ sizeLine + 1 := by rw [List.size_toArray, List.size_toArray, sizeLine_eq]; omega
  have hd : ¬(!vs.toArray.isEmpty && Builtin.List.listTooLong (vs.toArray.size + us.toArray.size)) = true := by
    have : Builtin.List.listTooLong (vs.toArray.size + us.toArray.size) = false := by
      unfold Builtin.List.listTooLong
      rw [decide_eq_false_iff_not, List.size_toArray, List.size_toArray, sizeLine_eq]; omega
    rw [this, Bool.and_false]; decide
  have q := PySem.IsL.update z.1 (fun x => x ++ us.toArray)
  have fin : Q .none { s with heap := s.heap.update D (Obj.mapSeq fun x => x ++ us.toArray) } := by
    refine h _ (if (vs.toArray ++ us.toArray).size == vs.toArray.size then n else n + 1) (F.change (Heap.SameBut.update ..) z.2.1 z.2.2) ?_
    rw [hg]
    refine news_set N a c (Heap.SameBut.update ..) ?_
    rw [show (vs ++ us).toArray = vs.toArray ++ us.toArray by simp]
    exact q
  rcases hb with ⟨ob, ho, hc, k, hdt⟩ | ⟨ob, ho, hc, k, hdt⟩
  · obtain ⟨oc, od, oda, osl⟩ := ob
    cases hc; cases hdt
    exact call_meets PySem.F.slot_list_extend ⟨_, z.1, rfl⟩ PySem.F.entry_list_extend (PySem.F.args_list_extend_2 _ _) (meets_ext_list D vs.toArray n b us.toArray k _ _ hd hz1 hz2) ⟨z.1, ho, fin⟩
  · obtain ⟨oc, od, oda, osl⟩ := ob
    cases hc; cases hdt
    exact call_meets PySem.F.slot_list_extend ⟨_, z.1, rfl⟩ PySem.F.entry_list_extend (PySem.F.args_list_extend_2 _ _) (meets_ext_tup D vs.toArray n b us.toArray k _ _ hd hz1 hz2) ⟨z.1, ho, fin⟩
end
section
open PySem PySem.W PySem.Calls PyProof.Rows
set_option maxRecDepth 100000
example : ∀ w : World, ∀ h, (hd.heap_39 w.params).In h → PySem.Challenge.rw_on0094_01.Holds → True := by k_fill; intros; trivial

structure Cel where
  kind : Str
  out : Int
  ins : List Int
  param : PyData
structure Nl where
  name : Str
  count : Int
  inputs : List (Str × List Int)
  outputs : List (Str × List Int)
  cells : List Cel
def encPort (p : Str × List Int) : PyData := .tuple [.str p.1, .list (p.2.map .int)]
def encCel (c : Cel) : PyData := .tuple [.str c.kind, .int c.out, .tuple (c.ins.map .int), c.param]
def Rd (h : Heap) (v : Value) (d : PyData) : Prop := ∃ as, Reads h v d as
def RdAll (h : Heap) (vs : List Value) (ds : List PyData) : Prop := ∃ as, ReadsAll h vs ds as

theorem RdAll.get {h : Heap} : ∀ {vs : List Value} {ds : List PyData}, RdAll h vs ds → vs.length = ds.length ∧ ∀ (i : Nat) v, vs[i]? = some v → ∃ d, ds[i]? = some d ∧ Rd h v d
  | _, _, ⟨_, .nil⟩ => ⟨rfl, fun i v e => by simp at e⟩
  | _, _, ⟨_, .cons a r⟩ => by
    obtain ⟨x, y⟩ := RdAll.get ⟨_, r⟩
    refine ⟨by simp [x], fun i v e => ?_⟩
    cases i with
    | zero => simp at e; subst e; exact ⟨_, rfl, _, a⟩
    | succ i => simpa using y i v (by simpa using e)
theorem Rd.keeps {h h' : Heap} {v : Value} {d : PyData} (r : Rd h v d) (k : ∀ b o, h.get? b = some o → h'.get? b = some o) : Rd h' v d := let ⟨as, r⟩ := r; ⟨as, Reads.keeps k r⟩
theorem RdAll.keeps {h h' : Heap} {v : List Value} {d : List PyData} (r : RdAll h v d) (k : ∀ b o, h.get? b = some o → h'.get? b = some o) : RdAll h' v d := let ⟨as, r⟩ := r; ⟨as, ReadsAll.keeps k r⟩

/-- a port's tuple: its name and the list of its nets -/
theorem port_is {h : Heap} {v : Value} {p : Str × List Int} (r : Rd h v (encPort p)) : Ex4 fun t x l us => v = .ref t ∧ IsTup h t #[.str p.1 x, .ref l] ∧ h.IsList l us.toArray ∧ IntsAre us p.2 := by
  obtain ⟨as, r⟩ := r
  obtain ⟨t, ls, rfl, ht, ra⟩ := reads_tuple_items r
  obtain ⟨v1, _, _, _, rfl, rfl, r1, ra⟩ := readsAll_cons_inv ra
  obtain ⟨v2, _, _, _, rfl, rfl, r2, ra⟩ := readsAll_cons_inv ra
  obtain ⟨rfl, rfl⟩ := readsAll_nil_inv ra
  cases r1 with
  | str _ x =>
    obtain ⟨l, us, bs, rfl, _, hl, ru⟩ := reads_list_items r2
    exact ⟨t, x, l, us, rfl, ht, hl, (readsAll_intsAre ru).1⟩
theorem cel_is {h : Heap} {v : Value} {c : Cel} (r : Rd h v (encCel c)) : Ex6 fun t x y l us pv => v = .ref t ∧ IsTup h t #[.str c.kind x, .int c.out y, .ref l, pv] ∧ IsTup h l us.toArray ∧ IntsAre us c.ins ∧ Rd h pv c.param := by
  obtain ⟨as, r⟩ := r
  obtain ⟨t, ls, rfl, ht, ra⟩ := reads_tuple_items r
  obtain ⟨v1, _, _, _, rfl, rfl, r1, ra⟩ := readsAll_cons_inv ra
  obtain ⟨v2, _, _, _, rfl, rfl, r2, ra⟩ := readsAll_cons_inv ra
  obtain ⟨v3, _, _, _, rfl, rfl, r3, ra⟩ := readsAll_cons_inv ra
  obtain ⟨v4, _, _, _, rfl, rfl, r4, ra⟩ := readsAll_cons_inv ra
  obtain ⟨rfl, rfl⟩ := readsAll_nil_inv ra
  cases r1 with
  | str _ x =>
    cases r2 with
    | int _ y =>
      obtain ⟨l, us, rfl, hl, ru⟩ := reads_tuple_items r3
      exact ⟨t, x, y, l, us, v4, rfl, ht, hl, (readsAll_intsAre ru).1, _, r4⟩

/-- the netlist object as it lies -/
structure NetAt (h : Heap) (a : Addr) (N : Nl) : Prop where
  ex : ∃ dx n h1 h2 h3 h4 h5 t1 t2 t3 t4 t5 un uc li lo lc pi po pc,
    InstAt h a (instObj 127 dx) 127 (some (dictOf [⟨h1, .str (Str.ofString "name") t1, .str N.name un⟩, ⟨h2, .str (Str.ofString "count") t2, .int N.count uc⟩, ⟨h3, .str (Str.ofString "inputs") t3, .ref li⟩, ⟨h4, .str (Str.ofString "outputs") t4, .ref lo⟩, ⟨h5, .str (Str.ofString "cells") t5, .ref lc⟩] n)) ∧
    h.IsList li (List.toArray pi) ∧ RdAll h pi (N.inputs.map encPort) ∧ h.IsList lo (List.toArray po) ∧ RdAll h po (N.outputs.map encPort) ∧ h.IsList lc (List.toArray pc) ∧ RdAll h pc (N.cells.map encCel)
theorem InstAt.keeps' {h h' : Heap} {x C : Addr} {ox od : Obj} (I : InstAt h x ox C (some od)) (k : ∀ b o, h.get? b = some o → h'.get? b = some o) : InstAt h' x ox C (some od) := by
  obtain ⟨a, b, c, d⟩ := I
  refine ⟨k _ _ a, b, c, ?_⟩
  revert d
  cases ox.dict with
  | none => exact id
  | some dx => exact k _ _
def netsOf (ps : List (Str × List Int)) : List Int := ps.flatMap (·.2)
structure Nl.Ok (N : Nl) : Prop where
  nin : N.inputs.length ≤ 4
  nout : N.outputs.length ≤ 4
  ncell : N.cells.length ≤ 20
  pin : ∀ p ∈ N.inputs, p.2.length ≤ 20
  pout : ∀ p ∈ N.outputs, p.2.length ≤ 20
  cin : ∀ c ∈ N.cells, c.ins.length ≤ 20
  big : ∀ c ∈ N.cells, 0 ≤ c.out ∧ c.out < 1000
  nod : ([0, 1] ++ netsOf N.inputs).Nodup
  bigP : ∀ x ∈ netsOf N.inputs, 0 ≤ x ∧ x < 1000

theorem small_log {x : Int} (h : 0 ≤ x ∧ x < 1000) : x.natAbs.log2 < 1920 := by
  by_cases h0 : x.natAbs = 0
  · rw [h0]; decide
  · refine (Nat.log2_lt h0).mpr (Nat.lt_of_lt_of_le (m := 2 ^ 10) (by omega) (Nat.pow_le_pow_right (by decide) (by decide)))
theorem netsOf_snoc (ps : List (Str × List Int)) (p : Str × List Int) : netsOf (ps ++ [p]) = netsOf ps ++ p.2 := by simp [netsOf]
theorem netsOf_take {ps : List (Str × List Int)} {i : Nat} {p : Str × List Int} (h : ps[i]? = some p) : netsOf (ps.take (i + 1)) = netsOf (ps.take i) ++ p.2 := by
  rw [List.take_add_one, h]; exact netsOf_snoc _ _
theorem netsOf_len : ∀ (ps : List (Str × List Int)), (∀ p ∈ ps, p.2.length ≤ 20) → (netsOf ps).length ≤ 20 * ps.length
  | [], _ => by simp [netsOf]
  | p :: ps, h => by
    have h1 := h p (.head _)
    have h2 := netsOf_len ps fun q hq => h q (.tail _ hq)
    simp only [netsOf, List.flatMap_cons, List.length_append, List.length_cons] at h2 ⊢
    omega
theorem netsOf_take_len {ps : List (Str × List Int)} (i : Nat) (h : ∀ p ∈ ps, p.2.length ≤ 20) (hl : ps.length ≤ 4) : (netsOf (ps.take i)).length ≤ 80 := by
  have h1 := netsOf_len (ps.take i) fun q hq => h q (List.mem_of_mem_take hq)
  simp only [List.length_take] at h1
  omega
theorem turn_next {h₀ h' : Heap} {L : Addr} {J : (Str → Option Value) → List (Addr × Obj) → Prop} {it : Addr × Obj} {s₁ : Shared} {Q : Flow → Shared → Prop} {tk : Nat} {m' : Str → Option Value} {news' led' : List (Addr × Obj)}
    (F : Fr h₀ L h' m') (N : News h₀ L h' news') (hs : ∀ p ∈ it :: led', p ∈ news') (ho : ∀ p ∈ led', p.1 ≠ it.1) (hj : J m' led') : TurnQ h₀ L J it s₁ Q .next { s₁ with heap := h', toks := tk } :=
  ⟨h', tk, m', led', rfl, F, fun p hp => N p (hs p hp), ho, hj⟩
def Agree : List (Str × Value) → (Str → Option Value) → Prop
  | [], _ => True
  | (x, v) :: r, m => m x = some v ∧ Agree r m
def bnd : List (Str × Value) → (Str → Option Value) → Str → Option Value
  | [], u => u
  | (x, v) :: r, u => fun y => if y = x then some v else bnd r u y
theorem bnd_of : ∀ {ps : List (Str × Value)} {m : Str → Option Value}, Agree ps m → m = bnd ps m
  | [], _, _ => rfl
  | (x, v) :: r, m, ⟨a, b⟩ => by
    funext y
    show m y = if y = x then some v else bnd r m y
    by_cases h : y = x
    · rw [if_pos h, h, a]
    · rw [if_neg h, ← bnd_of b]
def Hold (P : Prop) : Prop := P
theorem Hold.of {P : Prop} (h : Hold P) : P := h
theorem Hold.intro {P : Prop} (h : P) : Hold P := h
theorem item_base {prog : Program} {w : World} {A : Around} {E : Value → Shared → Prop} {s : Shared} {h₀ : Heap} {L : Addr} {m : Str → Option Value} {value slice : PySem.Expr} {l : Addr} {vs : List Value} {k : Int} {u : Tok} {v : Value} {Q : Value → Shared → Prop}
    (F : Fr h₀ L s.heap m) (hl : h₀.IsList l vs.toArray) (h0 : 0 ≤ k) (hhi : k < 2 ^ 63) (hx : vs[k.toNat]? = some v) (h : Q v s)
    (hs : subscripted slice false (.ref l) (.int k u) = operate [.ref l, .int k u] (getItem (.ref l) (.int k u))) :
    wpAny (model prog w) A (subscriptTail value slice (.ref l) (.int k u)) Q E s :=
  have hl' : s.heap.IsList l vs.toArray := hl.at fun o e => F.keep l o e
  tail_any hl'.typeIs slot_list_getitem.lookup (wpAny_getItem_list hl' h0 hhi (by simpa using hx) h) hs
theorem len_base {prog : Program} {w : World} {A : Around} {E : Value → Shared → Prop} {s : Shared} {h₀ : Heap} {L : Addr} {m : Str → Option Value} {l : Addr} {vs : List Value} {k : Nat} {Q : Value → Shared → Prop}
    (F : Fr h₀ L s.heap m) (hl : h₀.IsList l vs.toArray) (hk : vs.length = k) (hz : k ≤ 1000000) (h : Q (.int (k : Int) (s.toks + 1)) { s with toks := s.toks + 1 + 1 }) : wpAny (model prog w) A (call (.builtin "len") [.ref l]) Q E s := by
  have hl' : s.heap.IsList l vs.toArray := hl.at fun o e => F.keep l o e
  have hs : vs.toArray.size = k := by simpa using hk
  refine PyProof.Rows.len_list hl' (by rw [hs]; omega) ?_
  rw [hs]; exact h
theorem while_next {h₀ h' : Heap} {L : Addr} {s : Shared} {J : Nat → (Str → Option Value) → List (Addr × Obj) → Prop} {n tk : Nat} {m' : Str → Option Value} {news' led' : List (Addr × Obj)} (n' : Nat)
    (F : Fr h₀ L h' m') (N : News h₀ L h' news') (hs : ∀ p ∈ led', p ∈ news') (hn : n' < n) (hj : J n' m' led') : WhileStep h₀ L s J n .next { s with heap := h', toks := tk } :=
  ⟨rfl, h', tk, m', led', n', rfl, F, fun p hp => N p (hs p hp), hn, hj⟩
theorem ints_at {vs : List Value} {ns : List Int} {i : Nat} {v : Value} (h : IntsAre vs ns) (hv : vs[i]? = some v) : Ex2 fun x t => ns[i]? = some x ∧ v = .int x t := by
  have hl : i < ns.length := by rw [← h.length]; exact (List.getElem?_eq_some_iff.mp hv).1
  obtain ⟨t, ht⟩ := h.get i _ (List.getElem?_eq_getElem hl)
  rw [hv] at ht
  exact ⟨_, t, List.getElem?_eq_getElem hl, Option.some.inj ht⟩
end
section
open PySem PySem.W PySem.Calls PyProof.Rows PyProof.V
set_option maxRecDepth 100000
theorem NetAt.use {h : Heap} {a : Addr} {N : Nl} {P : Prop} (NA : NetAt h a N)
    (k : ∀ dx n h1 h2 h3 h4 h5 t1 t2 t3 t4 t5 un uc li lo lc pi po pc, InstAt h a (instObj 127 dx) 127 (some (dictOf [⟨h1, .str (Str.ofString "name") t1, .str N.name un⟩, ⟨h2, .str (Str.ofString "count") t2, .int N.count uc⟩, ⟨h3, .str (Str.ofString "inputs") t3, .ref li⟩, ⟨h4, .str (Str.ofString "outputs") t4, .ref lo⟩, ⟨h5, .str (Str.ofString "cells") t5, .ref lc⟩] n)) →
      h.IsList li (List.toArray pi) → RdAll h pi (N.inputs.map encPort) → h.IsList lo (List.toArray po) → RdAll h po (N.outputs.map encPort) → h.IsList lc (List.toArray pc) → RdAll h pc (N.cells.map encCel) → P) : P := by
  obtain ⟨dx, n, h1, h2, h3, h4, h5, t1, t2, t3, t4, t5, un, uc, li, lo, lc, pi, po, pc, HI, hli, ri, hlo, ro, hlc, rc⟩ := NA.ex
  exact k dx n h1 h2 h3 h4 h5 t1 t2 t3 t4 t5 un uc li lo lc pi po pc HI hli ri hlo ro hlc rc
theorem port_use {h : Heap} {v : Value} {ps : List (Str × List Int)} {pv : List Value} {i : Nat} {P : Prop} (r : RdAll h pv (ps.map encPort)) (hv : pv[i]? = some v)
    (k : ∀ p t x l us, ps[i]? = some p → v = .ref t → IsTup h t #[.str p.1 x, .ref l] → h.IsList l us.toArray → IntsAre us p.2 → P) : P := by
  obtain ⟨pd, hpd, rv⟩ := r.get.2 i v hv
  rw [List.getElem?_map, Option.map_eq_some_iff] at hpd
  obtain ⟨p, hp, rfl⟩ := hpd
  obtain ⟨t, x, l, us, e, ht, hl, hus⟩ := port_is rv
  exact k p t x l us hp e ht hl hus
theorem cel_use {h : Heap} {v : Value} {cs : List Cel} {pc : List Value} {i : Nat} {P : Prop} (r : RdAll h pc (cs.map encCel)) (hv : pc[i]? = some v)
    (k : ∀ c t x y l us pv, cs[i]? = some c → v = .ref t → IsTup h t #[.str c.kind x, .int c.out y, .ref l, pv] → IsTup h l us.toArray → IntsAre us c.ins → Rd h pv c.param → P) : P := by
  obtain ⟨pd, hpd, rv⟩ := r.get.2 i v hv
  rw [List.getElem?_map, Option.map_eq_some_iff] at hpd
  obtain ⟨c, hc, rfl⟩ := hpd
  obtain ⟨t, x, y, l, us, pv, e, ht, hl, hus, hpv⟩ := cel_is rv
  exact k c t x y l us pv hc e ht hl hus hpv
end
section
open PySem PySem.W PySem.Calls PyProof.Rows PyProof.V
set_option maxRecDepth 100000
theorem cel_at {h : Heap} {cs : List Cel} {pc : List Value} {i : Nat} {P : Prop} (r : RdAll h pc (cs.map encCel)) (hi : i < cs.length)
    (k : ∀ c t x y l us pv, pc[i]? = some (.ref t) → cs[i]? = some c → IsTup h t #[.str c.kind x, .int c.out y, .ref l, pv] → IsTup h l us.toArray → IntsAre us c.ins → Rd h pv c.param → P) : P := by
  have hl : pc.length = cs.length := by simpa using r.get.1
  have hv : pc[i]? = some pc[i] := List.getElem?_eq_getElem (by omega)
  refine cel_use r hv fun c t x y l us pv hc e ht hl hus hpv => k c t x y l us pv (e ▸ hv) hc ht hl hus hpv
theorem cel_have {h : Heap} {cs : List Cel} {pc : List Value} {i : Nat} {c : Cel} {P : Prop} (r : RdAll h pc (cs.map encCel)) (hc : cs[i]? = some c)
    (k : ∀ t x y l us pv, pc[i]? = some (.ref t) → IsTup h t #[.str c.kind x, .int c.out y, .ref l, pv] → IsTup h l us.toArray → IntsAre us c.ins → Rd h pv c.param → P) : P :=
  cel_at r (List.getElem?_eq_some_iff.mp hc).1 fun c' t x y l us pv hv hc' ht hl hus hpv => by
    cases (Option.some.inj (hc.symm.trans hc'))
    exact k t x y l us pv hv ht hl hus hpv
theorem flat_cases {v : Value} {x : Int} {P : Value → Prop} (h : Flat v (.int x)) (k : ∀ u, P (.int x u)) : P v := by
  cases h {} with
  | int _ u => exact k u
section
variable {prog : Program} {w : World} {A : Around} {E : Value → Shared → Prop} {s : Shared} {env : Env} {h₀ : Heap} {target : Expr} {body : List Stmt} {Q : Flow → Shared → Prop}
theorem turns_ports {l : Addr} {vs : List Value} {ps : List (Str × List Int)} {m : Str → Option Value} {led : List (Addr × Obj)} (J : Nat → (Str → Option Value) → List (Addr × Obj) → Prop)
    (H : HOk A h₀) (hl : h₀.IsList l vs.toArray) (r : RdAll h₀ vs (ps.map encPort)) (F : Fr h₀ env.locals s.heap m) (N : News h₀ env.locals s.heap led) (h0 : J 0 m led)
    (turn : ∀ i p t x q us m₁ led₁ h tk I io, ps[i]? = some p → IsTup h₀ t #[.str p.1 x, .ref q] → h₀.IsList q us.toArray → IntsAre us p.2 → (∀ p ∈ led₁, p.1 ≠ I) → J i m₁ led₁ → Fr h₀ env.locals h m₁ → News h₀ env.locals h ((I, io) :: led₁) →
      wpAny (model prog w) A (assign target env (.ref t)) (fun _ s₃ => wpAny (model prog w) A (execs body env) (TurnQ h₀ env.locals (J (i + 1)) (I, io) { s with heap := h, toks := tk } Q) E s₃) E { s with heap := h, toks := tk })
    (done : ∀ m₁ led₁ h tk, J ps.length m₁ led₁ → Fr h₀ env.locals h m₁ → News h₀ env.locals h led₁ → Q .next { s with heap := h, toks := tk }) :
    wpAny (model prog w) A (pyIter (.ref l)) (fun it s₂ => TurnsAt prog w A h₀ env target body Q E it s₂) E s := by
  have e : vs.length = ps.length := by simpa using r.get.1
  refine turns_list J H hl F N h0 (fun i v m₁ led₁ h tk I io hv ho hJ F₁ N₁ => ?_) (fun m₁ led₁ h tk hJ => done m₁ led₁ h tk (e ▸ hJ))
  exact port_use r hv fun p t x q us hp e ht hq hus => e ▸ turn i p t x q us m₁ led₁ h tk I io hp ht hq hus ho hJ F₁ N₁
theorem turns_cells {B : Heap} {l : Addr} {vs : List Value} {cs : List Cel} {m : Str → Option Value} {led : List (Addr × Obj)} (J : Nat → (Str → Option Value) → List (Addr × Obj) → Prop)
    (H : HOk A h₀) (hB : ∀ b o, B.get? b = some o → h₀.get? b = some o) (hl : h₀.IsList l vs.toArray) (r : RdAll B vs (cs.map encCel)) (F : Fr h₀ env.locals s.heap m) (N : News h₀ env.locals s.heap led) (h0 : J 0 m led)
    (turn : ∀ i c t x y q us pv m₁ led₁ h tk I io, cs[i]? = some c → IsTup h₀ t #[.str c.kind x, .int c.out y, .ref q, pv] → IsTup h₀ q us.toArray → IntsAre us c.ins → Rd B pv c.param → (∀ p ∈ led₁, p.1 ≠ I) → J i m₁ led₁ → Fr h₀ env.locals h m₁ → News h₀ env.locals h ((I, io) :: led₁) →
      wpAny (model prog w) A (assign target env (.ref t)) (fun _ s₃ => wpAny (model prog w) A (execs body env) (TurnQ h₀ env.locals (J (i + 1)) (I, io) { s with heap := h, toks := tk } Q) E s₃) E { s with heap := h, toks := tk })
    (done : ∀ m₁ led₁ h tk, J cs.length m₁ led₁ → Fr h₀ env.locals h m₁ → News h₀ env.locals h led₁ → Q .next { s with heap := h, toks := tk }) :
    wpAny (model prog w) A (pyIter (.ref l)) (fun it s₂ => TurnsAt prog w A h₀ env target body Q E it s₂) E s := by
  have e : vs.length = cs.length := by simpa using r.get.1
  refine turns_list J H hl F N h0 (fun i v m₁ led₁ h tk I io hv ho hJ F₁ N₁ => ?_) (fun m₁ led₁ h tk hJ => done m₁ led₁ h tk (e ▸ hJ))
  exact cel_use r hv fun c t x y q us pv hc e ht hq hus hpv => e ▸ turn i c t x y q us pv m₁ led₁ h tk I io hc (IsTup.keeps ht hB) (IsTup.keeps hq hB) hus hpv ho hJ F₁ N₁
end
end
section
open PySem PySem.W PySem.Calls PyProof.Rows PyProof.V
local macro_rules | `(tactic| k_inst) => `(tactic| exact InstAt.keeps' (by assumption) (Fr.keep (by assumption)))
local macro_rules | `(tactic| k_room) => `(tactic| exact Ar.room (by assumption))
local macro_rules | `(tactic| k_units) => `(tactic| ((have hAu := Ar.hu (by assumption)); omega))
local macro_rules | `(tactic| ke_room) => `(tactic| ((have hAu := Ar.hu (by assumption)); omega))
local macro_rules | `(tactic| walk_at "exec For Tuple Attribute cons nil") => `(tactic| ((rename Fr _ _ _ _ => lF'); (with_unfolding_all refine' For_turns lF' ?_; k_whole)))
local macro_rules | `(tactic| walk_at "exec For Name Name cons nil") => `(tactic| ((rename Fr _ _ _ _ => lF'); (with_unfolding_all refine' For_turns lF' ?_; k_whole)))
local macro_rules | `(tactic| walk_at "exec For Name Call cons nil") => `(tactic| ((rename Fr _ _ _ _ => lF'); (with_unfolding_all refine' For_turns lF' ?_; k_whole)))
local macro_rules | `(tactic| walk_at "exec For Tuple Name cons nil") => `(tactic| ((rename Fr _ _ _ _ => lF'); (with_unfolding_all refine' For_turns lF' ?_; k_whole)))
local macro_rules | `(tactic| walk_at "assign Tuple") => `(tactic| ((refine' unpack_ok ?F ?N ?H ?T ?k1 ?k2 ?_; (case F => assumption); (case N => assumption); (case H => exact Ar.hk (by assumption)); (case T => exact IsTup.keeps (by assumption) (Fr.keep (by assumption))); (case k1 => exact rfl); (case k2 => exact rfl); k_whole); intro h' F' N'; (try k_sweep)))
local macro_rules | `(tactic| walk_at "binaryOp Add ref ref") => `(tactic| ((refine' kmk_add_ints ?F ?N ?a ?b ?i ?j ?_ ?z; (case F => assumption); (case N => assumption); (case a => first | exact News.isList (by assumption) (by k_mem) | exact Heap.IsList.at (by assumption) (Fr.keep (by assumption) _)); (case b => first | exact News.isList (by assumption) (by k_mem) | exact Heap.IsList.at (by assumption) (Fr.keep (by assumption) _)); (case i => assumption); (case j => assumption); (case z => ((simp only [sizeLine_eq, List.length_append, List.length_cons, List.length_nil]); omega))); intro D' ws' h' F' N' l1 hI'; (try k_lt l1); (try k_sweep)))
local macro_rules | `(tactic| walk_at "call type:str") => `(tactic| (refine PySem.P.str_of_int (small_log (by assumption)) ?_))
local macro_rules | `(tactic| walk_at "subscriptTail") => `(tactic| ((with_reducible show wpAny _ _ (subscriptTail _ _ (Value.ref _) (Value.int _ _)) _ _ _); with_unfolding_all (refine' item_base ?F ?k1 ?k2 ?k3 ?k4 ?_ ?k6; (case F => assumption); (case k1 => assumption); (case k2 => omega); (case k3 => omega); (case k4 => assumption); (case k6 => with_unfolding_all rfl))))
local macro_rules | `(tactic| walk_at "call builtin:len") => `(tactic| ((with_reducible show wpAny _ _ (call (Value.builtin "len") [Value.ref _]) _ _ _); (refine' len_base ?F ?k1 ?k2 ?k3 ?_; (case F => assumption); (case k1 => assumption); (case k2 => assumption); (case k3 => omega))))
local macro_rules | `(tactic| walk_at "exec While Name cons nil") => `(tactic| refine Hold.of ?_)
local macro_rules | `(tactic| k_all) => `(tactic| first | exact List.forall_mem_nil _ | (refine' List.forall_mem_cons.mpr ⟨?kalla, ?kallb⟩; (case kalla => k_ne); (case kallb => k_all)))
local macro_rules | `(tactic| walk_at "compareOp In int ref") => `(tactic| ((refine' in_list_ints ?k1 ?k2 ?_; (case k1 => exact News.isList (by assumption) (by k_mem)); (case k2 => assumption))))
local macro_rules | `(tactic| walk_at "compareOp NotIn int ref") => `(tactic| ((refine' notin_list_ints ?k1 ?k2 ?_; (case k1 => exact News.isList (by assumption) (by k_mem)); (case k2 => assumption))))
local macro_rules | `(tactic| walk_at "subscriptTail") => `(tactic| ((with_reducible show wpAny _ _ (subscriptTail _ _ (Value.ref _) (Value.int _ _)) _ _ _); with_unfolding_all (refine' item_tupleT ?t ?a ?b ?c ?d ?_; (case t => exact IsTup.keeps (by assumption) (Fr.keep (by assumption))); (case a => decide); (case b => decide); (case c => rfl); (case d => rfl))))
local macro_rules | `(tactic| walk_at "exec Raise") => `(tactic| refine Hold.of ?_)
local macro_rules | `(tactic| walk_at "Exists") => `(tactic| (refine madeTab_int2 (by assumption) (by assumption) (modules_low (TopRead.nolimit (by assumption))) (by rfl) (of_decide_eq_true (by rfl)) (by rfl) ?_; intro h' o' F' N' lo' hd' hf' hoff'))
local macro_rules | `(tactic| walk_at "setItem ref int") => `(tactic| ((refine' setItem_K PyProof.V.same_int (intKind_is _ _ _ _) ?v ?F ?N ?U ?d ?f ?_ ?z; (case F => assumption); (case N => assumption); (case U => k_updF); (case d => assumption); (case f => assumption); (case z => (rw [sizeLine_eq]; omega)); (case v => k_flat)); intro h' o' F' N' hd' hf'; (try dsimp only at N'); (try k_sweep)))
local macro_rules | `(tactic| walk_at "call builtin:list.extend") => `(tactic| ((refine' extend_ok ?F ?N ?b ?U ?z ?_; (case F => assumption); (case N => assumption); (case U => k_updF); (case b => first | exact .inl (Heap.IsList.at (by assumption) (Fr.keep (by assumption) _)) | exact .inr (IsTup.keeps (by assumption) (Fr.keep (by assumption)))); (case z => omega)); intro h' n' F' N'; (try dsimp only at N'); (try k_sweep)))
local macro_rules | `(tactic| walk_at "call ref") => `(tactic| ((first | (with_reducible show wpAny _ _ (call (Value.ref 138) _) _ _ _) | (with_reducible show wpAny _ _ (call (Value.ref 127) _) _ _ _) | (with_reducible show wpAny _ _ (call (Value.ref 110) _) _ _ _) | (with_reducible show wpAny _ _ (call (Value.ref 94) _) _ _ _) | (with_reducible show wpAny _ _ (call (Value.ref 145) _) _ _ _) | (with_reducible show wpAny _ _ (call (Value.ref 157) _) _ _ _) | (with_reducible show wpAny _ _ (call (Value.ref 150) _) _ _ _) | (with_reducible show wpAny _ _ (call (Value.ref 183) _) _ _ _) | (with_reducible show wpAny _ _ (call (Value.ref 190) _) _ _ _) | (with_reducible show wpAny _ _ (call (Value.ref 164) _) _ _ _) | (with_reducible show wpAny _ _ (call (Value.ref 75) _) _ _ _) | (with_reducible show wpAny _ _ (call (Value.ref 80) _) _ _ _) | (with_reducible show wpAny _ _ (call (Value.ref 87) _) _ _ _) | (with_reducible show wpAny _ _ (call (Value.ref 171) _) _ _ _) | (with_reducible show wpAny _ _ (call (Value.ref 102) _) _ _ _) | (with_reducible show wpAny _ _ (call (Value.ref 176) _) _ _ _) | (with_reducible show wpAny _ _ (call (Value.ref 195) _) _ _ _)); refine Hold.of ?_))
section
open PySem PySem.W PySem.Calls PyProof.Rows
set_option maxRecDepth 100000
example : ∀ w : World, ∀ h, (hd.heap_39 w.params).In h → PySem.Challenge.rw_on0094_01.Holds → True := by k_fill; intros; trivial
def dupFrom : List Int → List Cel → Option Int
  | _, [] => none
  | met, c :: cs => if c.out ∈ met then some c.out else dupFrom (met ++ [c.out]) cs
def met0 (N : Nl) (i : Nat) : List Int := [0, 1] ++ netsOf (N.inputs.take i)
theorem met0_next {N : Nl} {i : Nat} {p : Str × List Int} (h : N.inputs[i]? = some p) : met0 N i ++ p.2 = met0 N (i + 1) := by simp only [met0, netsOf_take h, List.append_assoc]
def metC (N : Nl) (i : Nat) : List Int := met0 N N.inputs.length ++ (N.cells.take i).map (·.out)
theorem metC_zero (N : Nl) : metC N 0 = met0 N N.inputs.length := by simp [metC]
theorem metC_next {N : Nl} {i : Nat} {c : Cel} (h : N.cells[i]? = some c) : metC N (i + 1) = metC N i ++ [c.out] := by simp [metC, List.take_add_one, h]
def dupOf (N : Nl) : Option Int := dupFrom ([0, 1] ++ netsOf N.inputs) N.cells
def dupStr : Option Int → Str
  | none => Str.ofString ""
  | some n => Str.ofString (toString n)
def TwiceBack (N : Nl) (s : Shared) (r : Result) (s' : Shared) : Prop :=
  Ex3 fun t h' tk => r = .ok (.ret (.str (dupStr (dupOf N)) t)) ∧ s' = { s with heap := h', toks := tk } ∧ ∀ b o, s.heap.get? b = some o → h'.get? b = some o
theorem twiceBack_of {N : Nl} {s : Shared} {L : Addr} {h' : Heap} {m : Str → Option Value} {t : Tok} {tk : Nat} {d : Option Int} (F : Fr s.heap L h' m) (e : dupOf N = d) : TwiceBack N s (.ok (.ret (.str (dupStr d) t))) { s with heap := h', toks := tk } :=
  ⟨t, h', tk, by rw [e], rfl, F.keep⟩
set_option maxHeartbeats 4000000 in
theorem twice_code {w : World} {mg mb : Str → Option Value} {A : Around} {s : Shared} {a : Addr} {N : Nl}
    (HA : Ar 1 A s.heap) (D : Gd w mg mb s.heap) (NA : NetAt s.heap a N) (OK : N.Ok) :
    codeAny (model PR w) A (.call (.ref 183) ⟨[.ref a], []⟩) (TwiceBack N s) s := by
  refine' enter_pure (binds := [(Str.ofString "made", .ref a)]) 0 [] (by intro p hp; cases hp) HA D ?k6 ?k7 ?k9 ?kB ?_ ?c2 ?c3 ?c4 ?c5
  case k6 => k_is
  case k7 => k_is
  case k9 => exact BindsTo.of_eq rfl
  case c5 => decide
  case kB => exact locs rfl
  case c2 => exact rfl
  case c3 => exact rfl
  case c4 => exact rfl
  intro A' L' h₁ hL hh HA' F N hk
  have X := D.K
  have T := D.T
  change Fr s.heap _ _ _ at F
  change News s.heap _ _ _ at N
  change Ar 0 A' s.heap at HA'
  obtain ⟨dx, n, h1, h2, h3, h4, h5, t1, t2, t3, t4, t5, un, uc, li, lo, lc, pi, po, pc, HI, hli, ri, hlo, ro, hlc, rc⟩ := NA.ex
  with_reducible show wpAny _ _ _ _ _ _
  k_fold
  repeat' (first | (k_unfold; (try dsimp only)) | walk1 | (dsimp only; walk1) | (leave1; (try dsimp only)))
  · rename Fr _ _ _ _ => F1
    rename News _ _ _ _ => N1
    let jInv1 := fun (i : Nat) (m : Str → Option Value) (led : List (Addr × Obj)) => Ex3 fun d vs n => Agree [(Str.ofString "made", .ref a), (Str.ofString "met", .ref d)] m ∧ led = [(d, listOf vs.toArray n)] ∧ IntsAre vs (met0 N i)
    refine turns_list jInv1 HA'.hk hli F1 N1 ⟨_, [_, _], _, ⟨rfl, rfl, trivial⟩, rfl, ?_⟩ ?_ ?_
    · exact .cons _ _ (.cons _ _ .nil)
    · rintro i v m₁ _ h tk I io hv ho ⟨d, vs, n', hm, rfl, hvs⟩ F Nw
      obtain ⟨pd, hpd, rv⟩ := ri.get.2 i v hv
      rw [List.getElem?_map, Option.map_eq_some_iff] at hpd
      obtain ⟨p, hp, rfl⟩ := hpd
      obtain ⟨t, x, l, us, rfl, ht, hl, hus⟩ := port_is rv
      rw [bnd_of hm] at F
      clear N1 F1 hm
      change Fr s.heap L' _ _ at F
      change News s.heap L' _ _ at Nw
      have hvl : (met0 N i).length ≤ 82 := by
        have h1 := netsOf_take_len i OK.pin OK.nin
        simp only [met0, List.length_append, List.length_cons, List.length_nil]
        omega
      have hdI : @Ne Nat d I := ho _ (.head _)
      have hpl : p.2.length ≤ 20 := OK.pin p (List.mem_of_getElem? hp)
      have hus1 : us.length ≤ 20 := by rw [hus.length]; exact hpl
      with_reducible show wpAny _ _ _ _ _ _
      k_fold
      repeat' (first | (k_unfold; (try dsimp only)) | walk1 | (dsimp only; walk1) | (leave1; (try dsimp only)))
      rename IntsAre _ (met0 N i ++ p.2) => hI2
      refine' turn_next ?F ?Nn ?hs ?ho ?hj
      case F => assumption
      case Nn => assumption
      case hj => exact ⟨_, _, 0, ⟨rfl, rfl, trivial⟩, rfl, met0_next hp ▸ hI2⟩
      case hs => k_allIn
      case ho => k_all
    · rintro m₁ _ h tk ⟨d, vs, n', hm, rfl, hvs⟩ F Nw
      rw [bnd_of hm] at F
      clear N1 F1 hm
      change Fr s.heap L' _ _ at F
      change News s.heap L' _ _ at Nw
      have hpi : pi.length = N.inputs.length := by simpa using ri.get.1
      rw [hpi] at hvs
      dsimp only
      repeat' (first | (k_unfold; (try dsimp only)) | walk1 | (dsimp only; walk1) | (leave1; (try dsimp only)))
      rename Fr _ _ _ _ => F1
      let jInv2 := fun (i : Nat) (m : Str → Option Value) (led : List (Addr × Obj)) => Ex2 fun vs n => Agree [(Str.ofString "made", .ref a), (Str.ofString "met", .ref d)] m ∧ led = [(d, listOf vs.toArray n)] ∧ IntsAre vs (metC N i) ∧ dupOf N = dupFrom (metC N i) (N.cells.drop i)
      refine turns_list jInv2 HA'.hk hlc F1 Nw ⟨vs, n', ⟨rfl, rfl, trivial⟩, rfl, ?_, ?_⟩ ?_ ?_
      · rw [metC_zero]; exact hvs
      · rw [metC_zero, dupOf, met0, List.take_length]; rfl
      · rintro i v m₁ _ h tk I io hv ho ⟨vs, n', hm, rfl, hvs, hdup⟩ F Nw
        obtain ⟨pd, hpd, rv⟩ := rc.get.2 i v hv
        rw [List.getElem?_map, Option.map_eq_some_iff] at hpd
        obtain ⟨c, hc, rfl⟩ := hpd
        obtain ⟨t, x, y, l, us, pv, rfl, ht, hl, hus, hpv⟩ := cel_is rv
        rw [bnd_of hm] at F
        clear F1 hm
        change Fr s.heap L' _ _ at F
        change News s.heap L' _ _ at Nw
        have hvl : (metC N i).length ≤ 102 := by
          have h1 := netsOf_take_len N.inputs.length OK.pin OK.nin
          have h2 := OK.ncell
          simp only [metC, met0, List.length_append, List.length_cons, List.length_nil, List.length_map, List.length_take]
          omega
        have hvl2 : vs.length ≤ 102 := by rw [hvs.length]; exact hvl
        have hdI : @Ne Nat d I := ho _ (.head _)
        have hbo := OK.big c (List.mem_of_getElem? hc)
        have hdr : N.cells.drop i = c :: N.cells.drop (i + 1) := List.drop_eq_getElem?_toList_append.trans (by rw [hc]; rfl)
        rw [hdr, dupFrom] at hdup
        with_reducible show wpAny _ _ _ _ _ _
        k_fold
        repeat' (first | (k_unfold; (try dsimp only)) | walk1 | (dsimp only; walk1) | (leave1; (try dsimp only)))
        · rename (metC N i).any _ = true => he
          rw [if_pos (by simpa using he)] at hdup
          dsimp only [TurnQ]
          k_unfold
          dsimp only
          exact twiceBack_of (d := some c.out) (by assumption) hdup
        · rename (metC N i).any _ = false => he
          rw [if_neg (fun q => by simp at he; exact he _ q rfl)] at hdup
          refine' turn_next ?F ?Nn ?hs ?ho ?hj
          case F => assumption
          case Nn => assumption
          case hj => exact ⟨vs ++ [.int c.out y], n' + 1, ⟨rfl, rfl, trivial⟩, by rw [← List.push_toArray], by rw [metC_next hc]; exact hvs.append (.cons _ _ .nil), by rw [metC_next hc]; exact hdup⟩
          case hs => k_allIn
          case ho => k_all
      · rintro m₁ _ h tk ⟨vs, n', hm, rfl, hvs, hdup⟩ F Nw
        rw [bnd_of hm] at F
        clear F1 hm
        change Fr s.heap L' _ _ at F
        change News s.heap L' _ _ at Nw
        have hpc : pc.length = N.cells.length := by simpa using rc.get.1
        rw [hpc, List.drop_length, dupFrom] at hdup
        dsimp only
        repeat' (first | (k_unfold; (try dsimp only)) | walk1 | (dsimp only; walk1) | (leave1; (try dsimp only)))
        dsimp only
        k_unfold
        dsimp only
        exact twiceBack_of (d := none) (by assumption) hdup
end
section
open PySem PySem.W PySem.Calls PyProof.Rows
inductive Reach (N : Nl) : Nat → Prop
  | out {x : Int} {k : Nat} {c : Cel} : x ∈ netsOf N.outputs → N.cells[k]? = some c → c.out = x → Reach N k
  | step {j k : Nat} {d c : Cel} {x : Int} : Reach N j → N.cells[j]? = some d → x ∈ d.ins → N.cells[k]? = some c → c.out = x → Reach N k
theorem Reach.lt {N : Nl} {k : Nat} (h : Reach N k) : k < N.cells.length := by
  cases h with
  | out _ h _ => exact (List.getElem?_eq_some_iff.mp h).1
  | step _ _ _ h _ => exact (List.getElem?_eq_some_iff.mp h).1
/-- how many places are not in the list yet -/
def mu (n : Nat) (K : List Int) : Nat := ((List.range n).filter fun k : Nat => !decide ((k : Int) ∈ K)).length
theorem filter_drop_one {p : Nat → Bool} {k : Nat} : ∀ {l : List Nat}, l.Nodup → k ∈ l → p k = true → (l.filter fun x => p x && !decide (x = k)).length + 1 = (l.filter p).length
  | [], _, h, _ => nomatch h
  | y :: l, hn, hk, hp => by
    obtain ⟨hy, hl⟩ := List.nodup_cons.mp hn
    rcases List.mem_cons.mp hk with rfl | hk
    · have e : l.filter (fun x => p x && !decide (x = k)) = l.filter p := by
        refine List.filter_congr fun x hx => ?_
        have : x ≠ k := fun q => hy (q ▸ hx)
        simp [this]
      rw [List.filter_cons_of_neg (by simp), List.filter_cons_of_pos hp, e]; rfl
    · have ih := filter_drop_one hl hk hp
      have hyk : y ≠ k := fun q => hy (q ▸ hk)
      cases hpy : p y with
      | true => rw [List.filter_cons_of_pos (by simp [hpy, hyk]), List.filter_cons_of_pos hpy]; simp only [List.length_cons]; omega
      | false => rw [List.filter_cons_of_neg (by simp [hpy]), List.filter_cons_of_neg (by simp [hpy])]; exact ih
theorem mu_add {n k : Nat} {K : List Int} (hk : k < n) (h : (k : Int) ∉ K) : mu n (K ++ [(k : Int)]) + 1 = mu n K := by
  unfold mu
  rw [← filter_drop_one (p := fun k : Nat => !decide ((k : Int) ∈ K)) (k := k) List.nodup_range (List.mem_range.mpr hk) (by simpa using h)]
  congr 2
  refine List.filter_congr fun x _ => ?_
  by_cases h1 : (x : Int) ∈ K
  · simp [h1]
  · by_cases h2 : x = k
    · subst h2; simp
    · have : ¬ ((x : Int) = (k : Int)) := by omega
      simp [h1, h2, this]
theorem mu_nil (n : Nat) : mu n [] = n := by unfold mu; rw [List.filter_eq_self.mpr (by simp)]; exact List.length_range
structure NInv (N : Nl) (W K : List Int) : Prop where
  sound : ∀ x ∈ W, x ∈ netsOf N.outputs ∨ Ex2 fun j d => Reach N j ∧ N.cells[j]? = some d ∧ x ∈ d.ins
  outs : ∀ x ∈ netsOf N.outputs, x ∈ W
  reach : ∀ x ∈ K, ∃ j : Nat, x = (j : Int) ∧ Reach N j
  ins : ∀ (j : Nat) c, (j : Int) ∈ K → N.cells[j]? = some c → ∀ x ∈ c.ins, x ∈ W
  nodup : K.Nodup
  lenW : W.length ≤ 80 + 20 * K.length
  lenK : K.length + mu N.cells.length K = N.cells.length
def Closed (N : Nl) (n : Nat) (W K : List Int) : Prop := ∀ (k : Nat) c, k < n → N.cells[k]? = some c → c.out ∈ W → (k : Int) ∈ K
theorem NInv.start (N : Nl) (OK : N.Ok) : NInv N (netsOf N.outputs) [] where
  sound := fun x h => .inl h
  outs := fun x h => h
  reach := fun x h => nomatch h
  ins := fun j c h => nomatch h
  nodup := .nil
  lenW := by
    have h := netsOf_take_len N.outputs.length OK.pout OK.nout
    rw [List.take_length] at h
    simpa using h
  lenK := by rw [mu_nil]; simp
theorem NInv.next {N : Nl} {W K : List Int} {k : Nat} {c : Cel} (I : NInv N W K) (OK : N.Ok) (hc : N.cells[k]? = some c) (hk : (k : Int) ∉ K) (hw : c.out ∈ W) : NInv N (W ++ c.ins) (K ++ [(k : Int)]) := by
  have hlt : k < N.cells.length := (List.getElem?_eq_some_iff.mp hc).1
  have hr : Reach N k := by
    rcases I.sound _ hw with h | ⟨j, d, h1, h2, h3⟩
    · exact .out h hc rfl
    · exact .step h1 h2 h3 hc rfl
  refine ⟨?_, ?_, ?_, ?_, ?_, ?_, ?_⟩
  · intro x hx
    rcases List.mem_append.mp hx with h | h
    · exact I.sound x h
    · exact .inr ⟨k, c, hr, hc, h⟩
  · exact fun x h => List.mem_append_left _ (I.outs x h)
  · intro x hx
    rcases List.mem_append.mp hx with h | h
    · exact I.reach x h
    · exact ⟨k, List.mem_singleton.mp h, hr⟩
  · intro j d hj hd x hx
    rcases List.mem_append.mp hj with h | h
    · exact List.mem_append_left _ (I.ins j d h hd x hx)
    · have e : j = k := by have := List.mem_singleton.mp h; omega
      subst e
      rw [hc] at hd
      cases hd
      exact List.mem_append_right _ hx
  · rw [List.nodup_append]
    refine ⟨I.nodup, by simp, fun x hx y hy q => hk ?_⟩
    rw [List.mem_singleton.mp hy] at q
    exact q ▸ hx
  · have h1 := I.lenW
    have h2 := OK.cin c (List.mem_of_getElem? hc)
    simp only [List.length_append, List.length_cons, List.length_nil]
    omega
  · have h1 := I.lenK
    have h2 := mu_add hlt hk
    simp only [List.length_append, List.length_cons, List.length_nil]
    omega
theorem NInv.end {N : Nl} {W K : List Int} (I : NInv N W K) (C : Closed N N.cells.length W K) : ∀ x, x ∈ K ↔ ∃ k : Nat, x = (k : Int) ∧ Reach N k := by
  intro x
  refine ⟨I.reach x, ?_⟩
  rintro ⟨k, rfl, hr⟩
  induction hr with
  | out hx hc e => exact C _ _ (List.getElem?_eq_some_iff.mp hc).1 hc (e ▸ I.outs _ hx)
  | step hj hd hx hc e ih => exact C _ _ (List.getElem?_eq_some_iff.mp hc).1 hc (e ▸ I.ins _ _ ih hd _ hx)

def Told (N : Nl) (xs : List Int) : Prop := xs.Pairwise (· < ·) ∧ ∀ x, x ∈ xs ↔ ∃ k : Nat, x = (k : Int) ∧ Reach N k
theorem sorted_unique : ∀ {xs ys : List Int}, xs.Pairwise (· < ·) → ys.Pairwise (· < ·) → (∀ x, x ∈ xs ↔ x ∈ ys) → xs = ys
  | [], [], _, _, _ => rfl
  | [], y :: ys, _, _, h => absurd ((h y).mpr (.head _)) (by simp)
  | x :: xs, [], _, _, h => absurd ((h x).mp (.head _)) (by simp)
  | x :: xs, y :: ys, hx, hy, h => by
    obtain ⟨hx1, hx2⟩ := List.pairwise_cons.mp hx
    obtain ⟨hy1, hy2⟩ := List.pairwise_cons.mp hy
    have e : x = y := by
      have a := (h x).mp (.head _)
      have b := (h y).mpr (.head _)
      rcases List.mem_cons.mp a with a | a
      · exact a
      · rcases List.mem_cons.mp b with b | b
        · exact b.symm
        · have := hx1 y b; have := hy1 x a; omega
    subst e
    congr 1
    refine sorted_unique hx2 hy2 fun z => ⟨fun hz => ?_, fun hz => ?_⟩
    · rcases List.mem_cons.mp ((h z).mp (.tail _ hz)) with q | q
      · have := hx1 z hz; omega
      · exact q
    · rcases List.mem_cons.mp ((h z).mpr (.tail _ hz)) with q | q
      · have := hy1 z hz; omega
      · exact q
theorem Told.unique {N : Nl} {xs ys : List Int} (a : Told N xs) (b : Told N ys) : xs = ys := sorted_unique a.1 b.1 fun x => (a.2 x).trans (b.2 x).symm
theorem sorted_strict : ∀ {xs : List Int}, xs.Pairwise (· ≤ ·) → xs.Nodup → xs.Pairwise (· < ·)
  | [], _, _ => .nil
  | x :: xs, h, n => by
    obtain ⟨h1, h2⟩ := List.pairwise_cons.mp h
    obtain ⟨n1, n2⟩ := List.nodup_cons.mp n
    refine List.pairwise_cons.mpr ⟨fun y hy => ?_, sorted_strict h2 n2⟩
    have a := h1 y hy
    have b : x ≠ y := fun q => n1 (q ▸ hy)
    omega
theorem Told.of {N : Nl} {xs K : List Int} (hn : K.Nodup) (hp : xs.Perm K) (hs : xs.Pairwise (· ≤ ·)) (hm : ∀ x, x ∈ K ↔ ∃ k : Nat, x = (k : Int) ∧ Reach N k) : Told N xs :=
  ⟨sorted_strict hs (hp.nodup_iff.mpr hn), fun x => hp.mem_iff.trans (hm x)⟩
theorem Closed.next {N : Nl} {i : Nat} {W K : List Int} {c : Cel} (C : Closed N i W K) (hc : N.cells[i]? = some c) (h : c.out ∈ W → (i : Int) ∈ K) : Closed N (i + 1) W K := by
  intro k d hk hd hw
  by_cases e : k = i
  · subst e; rw [hc] at hd; cases hd; exact h hw
  · exact C k d (by omega) hd hw
theorem lookup_put (x k : Int) (v : PyData) (D : List (PyData × PyData)) : PySem.Spec.lookup (.int x) (PyProof.V.putD (.int k) v D) = if x = k then some v else PySem.Spec.lookup (.int x) D := by
  by_cases hx : x = k
  · subst hx; rw [if_pos rfl]; exact PyProof.V.lookup_putD_same _ _ _
  · rw [if_neg hx]; exact PyProof.V.lookup_putD_other hx _ _
theorem has_put {T : List Int} {D : List (PyData × PyData)} {k : Int} {v : PyData} (h : ∀ x, (PySem.Spec.lookup (.int x) D).isSome = true ↔ x ∈ T) : ∀ x, (PySem.Spec.lookup (.int x) (PyProof.V.putD (.int k) v D)).isSome = true ↔ x ∈ T ++ [k] := by
  intro x
  rw [lookup_put]
  by_cases hx : x = k
  · subst hx; simp
  · rw [if_neg hx, h x]; simp [hx]
def fndOf (N : Nl) (i : Nat) (x : Int) : Option PyData := ((N.cells.take i).findIdx? fun c => c.out == x).map fun k => .int (k : Int)
theorem fndOf_next {N : Nl} {i : Nat} {c : Cel} (hc : N.cells[i]? = some c) (hn : c.out ∉ metC N i) (x : Int) : fndOf N (i + 1) x = if x = c.out then some (.int (i : Int)) else fndOf N i x := by
  have hlt : i < N.cells.length := (List.getElem?_eq_some_iff.mp hc).1
  unfold fndOf
  rw [List.take_add_one, hc, Option.toList_some, List.findIdx?_append]
  by_cases hx : x = c.out
  · subst hx
    have e : (N.cells.take i).findIdx? (fun d => d.out == c.out) = none := by
      rw [List.findIdx?_eq_none_iff]
      intro d hd
      cases hh : d.out == c.out with
      | false => rfl
      | true => exact absurd (List.mem_append_right _ (List.mem_map.mpr ⟨d, hd, beq_iff_eq.mp hh⟩)) hn
    rw [e, if_pos rfl]
    simp [List.length_take, Nat.min_eq_left (Nat.le_of_lt hlt)]
  · rw [if_neg hx]
    have : ¬ (c.out == x) = true := fun q => hx (beq_iff_eq.mp q).symm
    simp [this]
theorem met0_all (N : Nl) : met0 N N.inputs.length = [0, 1] ++ netsOf N.inputs := by rw [met0, List.take_length]
theorem fresh_net {N : Nl} {i j : Nat} {p : Str × List Int} {x : Int} (OK : N.Ok) (hp : N.inputs[i]? = some p) (hx : p.2[j]? = some x) : x ∉ met0 N i ++ p.2.take j := by
  have e1 : N.inputs = N.inputs.take i ++ p :: N.inputs.drop (i + 1) := by
    have h := List.take_append_drop i N.inputs
    rw [List.drop_eq_getElem?_toList_append, hp] at h
    exact h.symm
  have e2 : p.2 = p.2.take j ++ x :: p.2.drop (j + 1) := by
    have h := List.take_append_drop j p.2
    rw [List.drop_eq_getElem?_toList_append, hx] at h
    exact h.symm
  have h := OK.nod
  have e3 : [0, 1] ++ netsOf N.inputs = (met0 N i ++ p.2.take j) ++ x :: (p.2.drop (j + 1) ++ netsOf (N.inputs.drop (i + 1))) := by
    have e4 : netsOf N.inputs = netsOf (N.inputs.take i) ++ (p.2 ++ netsOf (N.inputs.drop (i + 1))) := by
      conv => lhs; rw [e1]
      simp [netsOf]
    rw [e4, met0]
    conv => lhs; rw [e2]
    simp
  rw [e3, List.nodup_append] at h
  exact fun q => h.2.2 x q x (.head _) rfl
theorem netsOf_mem {ps : List (Str × List Int)} {i j : Nat} {p : Str × List Int} {x : Int} (hp : ps[i]? = some p) (hx : p.2[j]? = some x) : x ∈ netsOf ps :=
  List.mem_flatMap.mpr ⟨p, List.mem_of_getElem? hp, List.mem_of_getElem? hx⟩
end
section
open PySem PySem.W PySem.Calls PyProof.Rows
def Met (N : Nl) (K : List Int) (x : Int) : Prop := ∀ (k : Nat) c, N.cells[k]? = some c → c.out = x → (k : Int) ∈ K
def Uniq (N : Nl) : Prop := ∀ (i j : Nat) ci cj, N.cells[i]? = some ci → N.cells[j]? = some cj → ci.out = cj.out → i = j
theorem dupFrom_uniq : ∀ {cs : List Cel} {met : List Int}, dupFrom met cs = none → (∀ c ∈ cs, c.out ∉ met) ∧ ∀ (i j : Nat) ci cj, cs[i]? = some ci → cs[j]? = some cj → ci.out = cj.out → i = j
  | [], _, _ => ⟨fun _ h => (nomatch h), fun i j ci cj h => by cases h⟩
  | c :: cs, met, h => by
    unfold dupFrom at h
    split at h
    · cases h
    · rename_i hn
      obtain ⟨a, b⟩ := dupFrom_uniq h
      have ne : ∀ d ∈ cs, d.out ≠ c.out := fun d hd q => a d hd (by rw [q]; simp)
      refine ⟨fun d hd q => ?_, fun i j ci cj hi hj e => ?_⟩
      · rcases List.mem_cons.mp hd with rfl | hd
        · exact hn q
        · exact a d hd (List.mem_append_left _ q)
      · cases i with
        | zero =>
          simp at hi; subst hi
          cases j with
          | zero => rfl
          | succ j => exact absurd e.symm (ne cj (List.mem_of_getElem? (by simpa using hj)))
        | succ i =>
          cases j with
          | zero => simp at hj; subst hj; exact absurd e (ne ci (List.mem_of_getElem? (by simpa using hi)))
          | succ j => exact congrArg (· + 1) (b i j ci cj (by simpa using hi) (by simpa using hj) e)
theorem dup_uniq {N : Nl} (h : dupOf N = none) : Uniq N := (dupFrom_uniq h).2
structure UInv (N : Nl) (P K : List Int) : Prop where
  wanted : ∀ x ∈ P, x ∈ netsOf N.outputs ∨ ∃ (j : Nat) (d : Cel), Reach N j ∧ N.cells[j]? = some d ∧ x ∈ d.ins
  sound : ∀ x ∈ K, ∃ k : Nat, x = (k : Int) ∧ Reach N k
  outs : ∀ x ∈ netsOf N.outputs, x ∈ P ∨ Met N K x
  ins : ∀ (j : Nat) d, (j : Int) ∈ K → N.cells[j]? = some d → ∀ x ∈ d.ins, x ∈ P ∨ Met N K x
theorem UInv.start (N : Nl) : UInv N (netsOf N.outputs) [] := ⟨fun _ h => .inl h, fun _ h => (nomatch h), fun _ h => .inl h, fun _ _ h => nomatch h⟩
theorem UInv.skip {N : Nl} {P K : List Int} {x : Int} (I : UInv N (P ++ [x]) K) (m : Met N K x) : UInv N P K := by
  have f : ∀ y, (y ∈ P ++ [x] ∨ Met N K y) → (y ∈ P ∨ Met N K y) := fun y h => by
    rcases h with h | h
    · rcases List.mem_append.mp h with h | h
      · exact .inl h
      · rw [List.mem_singleton.mp h]; exact .inr m
    · exact .inr h
  exact ⟨fun y h => I.wanted y (List.mem_append_left _ h), I.sound, fun y h => f y (I.outs y h), fun j d h e y z => f y (I.ins j d h e y z)⟩
theorem UInv.take {N : Nl} {P K : List Int} {k : Nat} {c : Cel} (I : UInv N (P ++ [c.out]) K) (U : Uniq N) (hc : N.cells[k]? = some c) : UInv N (P ++ c.ins) (K ++ [(k : Int)]) := by
  have rk : Reach N k := by
    rcases I.wanted c.out (by simp) with h | ⟨j, d, a, b, e⟩
    · exact .out h hc rfl
    · exact .step a b e hc rfl
  have m : Met N (K ++ [(k : Int)]) c.out := fun k' c' h e => by rw [U k' k c' c h hc e]; simp
  have up : ∀ y, Met N K y → Met N (K ++ [(k : Int)]) y := fun y h k' c' a b => List.mem_append_left _ (h k' c' a b)
  have f : ∀ y, (y ∈ P ++ [c.out] ∨ Met N K y) → (y ∈ P ++ c.ins ∨ Met N (K ++ [(k : Int)]) y) := fun y h => by
    rcases h with h | h
    · rcases List.mem_append.mp h with h | h
      · exact .inl (List.mem_append_left _ h)
      · rw [List.mem_singleton.mp h]; exact .inr m
    · exact .inr (up y h)
  refine ⟨fun y h => ?_, fun y h => ?_, fun y h => f y (I.outs y h), fun j d h e y z => ?_⟩
  · rcases List.mem_append.mp h with h | h
    · exact I.wanted y (List.mem_append_left _ h)
    · exact .inr ⟨k, c, rk, hc, h⟩
  · rcases List.mem_append.mp h with h | h
    · exact I.sound y h
    · exact ⟨k, List.mem_singleton.mp h, rk⟩
  · rcases List.mem_append.mp h with h | h
    · exact f y (I.ins j d h e y z)
    · have : j = k := by have := List.mem_singleton.mp h; omega
      subst this
      rw [hc] at e; cases e
      exact .inl (List.mem_append_right _ z)
theorem UInv.end {N : Nl} {K : List Int} (I : UInv N [] K) : ∀ x, x ∈ K ↔ ∃ k : Nat, x = (k : Int) ∧ Reach N k := by
  refine fun x => ⟨I.sound x, ?_⟩
  rintro ⟨k, rfl, h⟩
  induction h with
  | out hx hc e => exact (I.outs _ hx).elim (fun h => nomatch h) fun m => m _ _ hc e
  | step hj hd hx hc e ih => exact (I.ins _ _ ih hd _ hx).elim (fun h => nomatch h) fun m => m _ _ hc e
theorem fnd_none {N : Nl} {x : Int} (h : fndOf N N.cells.length x = none) (K : List Int) : Met N K x := fun k c hc e => by
  unfold fndOf at h
  rw [List.take_length] at h
  cases hq : N.cells.findIdx? (fun c => c.out == x) with
  | some k => rw [hq] at h; cases h
  | none =>
    have := List.findIdx?_eq_none_iff.mp hq c (List.mem_of_getElem? hc)
    simp [e] at this
theorem fnd_some {N : Nl} {x : Int} {v : PyData} (h : fndOf N N.cells.length x = some v) : ∃ (k : Nat) (c : Cel), v = .int (k : Int) ∧ N.cells[k]? = some c ∧ c.out = x := by
  unfold fndOf at h
  rw [List.take_length] at h
  cases hq : N.cells.findIdx? (fun c => c.out == x) with
  | none => rw [hq] at h; cases h
  | some k =>
    rw [hq] at h
    obtain ⟨hl, e, _⟩ := List.findIdx?_eq_some_iff_getElem.mp hq
    exact ⟨k, _, (Option.some.inj h).symm, List.getElem?_eq_getElem hl, by simpa using e⟩
end
section
open PySem PySem.W PySem.Calls PyProof.Rows
structure Nl.Fit (N : Nl) : Prop where
  inS : ∀ p ∈ N.inputs, (PyData.str p.1).canLay0 = true
  outS : ∀ p ∈ N.outputs, (PyData.str p.1).canLay0 = true
  celS : ∀ c ∈ N.cells, (PyData.str c.kind).canLay0 = true ∧ c.param.canLay0 = true ∧ c.param.depth ≤ 10
theorem layAll {ds : List PyData} (h : ∀ d ∈ ds, d.canLay0 = true) : PyData.canLayAll0 ds = true := by
  induction ds with
  | nil => rfl
  | cons d ds ih => rw [PyData.canLayAll0, h d (.head _), ih fun x hx => h x (.tail _ hx)]; rfl
theorem depAll {k : Nat} {ds : List PyData} (h : ∀ d ∈ ds, d.depth ≤ k) : PyData.depthAll ds ≤ k := by
  induction ds with
  | nil => exact Nat.zero_le _
  | cons d ds ih => rw [PyData.depthAll]; exact Nat.max_le.mpr ⟨h d (.head _), ih fun x hx => h x (.tail _ hx)⟩
theorem lay_ints (xs : List Int) : PyData.canLayAll0 (xs.map .int) = true ∧ PyData.depthAll (xs.map .int) ≤ 0 :=
  ⟨layAll fun d hd => by obtain ⟨x, _, rfl⟩ := List.mem_map.mp hd; rfl, depAll fun d hd => by obtain ⟨x, _, rfl⟩ := List.mem_map.mp hd; exact Nat.le_refl _⟩
theorem shaped_list {ds : List PyData} (h : ∀ d ∈ ds, d.canLay0 = true ∧ d.depth ≤ 20) : SeqAt.shaped (.list ds) = true := by
  unfold SeqAt.shaped
  rw [PyData.canLay0, layAll fun d hd => (h d hd).1, PyData.depth, Bool.true_and]
  have := depAll (k := 20) fun d hd => (h d hd).2
  exact decide_eq_true (by omega)
theorem shaped_ints (xs : List Int) : SeqAt.shaped (.list (xs.map .int)) = true := shaped_list fun d hd => by obtain ⟨x, _, rfl⟩ := List.mem_map.mp hd; exact ⟨rfl, Nat.zero_le _⟩
theorem shaped_ports {ps : List (Str × List Int)} (h : ∀ p ∈ ps, (PyData.str p.1).canLay0 = true) : SeqAt.shaped (.list (ps.map encPort)) = true := shaped_list fun d hd => by
  obtain ⟨p, hp, rfl⟩ := List.mem_map.mp hd
  unfold encPort
  have a := lay_ints p.2
  have b := h p hp
  refine ⟨?_, ?_⟩
  · rw [PyData.canLay0, PyData.canLayAll0, b, PyData.canLayAll0, PyData.canLay0, a.1, PyData.canLayAll0]; rfl
  · simp only [PyData.depth, PyData.depthAll]; omega
theorem shaped_cells {cs : List Cel} (h : ∀ c ∈ cs, (PyData.str c.kind).canLay0 = true ∧ c.param.canLay0 = true ∧ c.param.depth ≤ 10) : SeqAt.shaped (.list (cs.map encCel)) = true := shaped_list fun d hd => by
  obtain ⟨c, hc, rfl⟩ := List.mem_map.mp hd
  unfold encCel
  have a := lay_ints c.ins
  obtain ⟨b1, b2, b3⟩ := h c hc
  refine ⟨?_, ?_⟩
  · rw [PyData.canLay0, PyData.canLayAll0, b1, PyData.canLayAll0, PyData.canLayAll0, PyData.canLayAll0, b2, PyData.canLayAll0, PyData.canLay0, PyData.canLay0, a.1]; rfl
  · simp only [PyData.depth, PyData.depthAll]; omega
section
variable {prog : Program} {w : World} {A : Around} {E : Value → Shared → Prop} {s : Shared} {a b : Value} {d : PyData} {Q : Value → Shared → Prop}
theorem ne_same (ra : Rd s.heap a d) (rb : Rd s.heap b d) (hd : SeqAt.shaped d = true) (hu : A.units + 64 < cLine) (h : Q (.bool false) s) : wpAny (model prog w) A (compareOp .NotEq a b) Q E s := by
  obtain ⟨_, ra⟩ := ra
  obtain ⟨_, rb⟩ := rb
  refine ne_dataH ra rb hd hd hu ?_
  rw [SeqAt.eqv_refl d (SeqAt.canLay_of_shaped hd)]
  exact h
theorem eq_same (ra : Rd s.heap a d) (rb : Rd s.heap b d) (hd : SeqAt.shaped d = true) (hu : A.units + 64 < cLine) (h : Q (.bool true) s) : wpAny (model prog w) A (compareOp .Eq a b) Q E s := by
  obtain ⟨_, ra⟩ := ra
  obtain ⟨_, rb⟩ := rb
  refine eq_dataH ra rb hd hd hu ?_
  rw [SeqAt.eqv_refl d (SeqAt.canLay_of_shaped hd)]
  exact h
end
end
section
open PySem PySem.W PySem.Calls PyProof.Rows
set_option maxRecDepth 100000
example : ∀ w : World, ∀ h, (hd.heap_39 w.params).In h → PySem.Challenge.rw_on0094_01.Holds → True := by k_fill; intros; trivial
local macro_rules | `(tactic| k_ne) => `(tactic| (refine neN ?_; (try dsimp only); first | exact Dis.l (by assumption) | exact Dis.r (by assumption) | omega))
def wantedOf (N : Nl) (i : Nat) : List Int := netsOf (N.outputs.take i)
theorem wantedOf_next {N : Nl} {i : Nat} {p : Str × List Int} (h : N.outputs[i]? = some p) : wantedOf N i ++ p.2 = wantedOf N (i + 1) := by simp only [wantedOf, netsOf_take h]
def NeededBack (N : Nl) (s : Shared) (r : Result) (s' : Shared) : Prop :=
  Ex6 fun l n vs xs h' tk => r = .ok (.ret (.ref l)) ∧ s' = { s with heap := h', toks := tk } ∧ (∀ b o, s.heap.get? b = some o → h'.get? b = some o) ∧ h'.get? l = some (listOf (List.toArray vs) n) ∧ IntsAre vs xs ∧ Told N xs ∧ s.heap.get? l = none
inductive NdI (N : Nl) (a : Addr) (i : Nat) : (Str → Option Value) → List (Addr × Obj) → Prop
  | mk (m : Str → Option Value) (d : Addr) (vs : List Value) (n : Nat) (hm : Agree [(Str.ofString "made", .ref a), (Str.ofString "wanted", .ref d)] m) (hvs : IntsAre vs (wantedOf N i)) : NdI N a i m [(d, listOf vs.toArray n)]
inductive NdW (N : Nl) (a dK : Addr) (n : Nat) : (Str → Option Value) → List (Addr × Obj) → Prop
  | mk (m : Str → Option Value) (W K : List Int) (g : Bool) (dW : Addr) (ws ks : List Value) (n1 n2 : Nat) (hm : Agree [(Str.ofString "made", .ref a), (Str.ofString "wanted", .ref dW), (Str.ofString "kept", .ref dK), (Str.ofString "grown", .bool g)] m)
    (hne : @Ne Nat dK dW) (hws : IntsAre ws W) (hks : IntsAre ks K) (I : NInv N W K) (hn : n = (if g then mu N.cells.length K + 1 else 0)) (hcl : g = false → Closed N N.cells.length W K) : NdW N a dK n m [(dK, listOf ks.toArray n2), (dW, listOf ws.toArray n1)]
inductive NdT (N : Nl) (a dK : Addr) (K : List Int) (i : Nat) : (Str → Option Value) → List (Addr × Obj) → Prop
  | mk (m : Str → Option Value) (W' K' : List Int) (g : Bool) (dW' : Addr) (ws' ks' : List Value) (n1' n2' : Nat) (hm : Agree [(Str.ofString "made", .ref a), (Str.ofString "wanted", .ref dW'), (Str.ofString "kept", .ref dK), (Str.ofString "grown", .bool g)] m)
    (hne' : @Ne Nat dK dW') (hws' : IntsAre ws' W') (hks' : IntsAre ks' K') (I' : NInv N W' K') (hmu : mu N.cells.length K' ≤ mu N.cells.length K) (hg1 : g = true → mu N.cells.length K' < mu N.cells.length K) (hg0 : g = false → Closed N i W' K') : NdT N a dK K i m [(dK, listOf ks'.toArray n2'), (dW', listOf ws'.toArray n1')]
set_option maxHeartbeats 4000000 in
theorem needed_code {w : World} {mg mb : Str → Option Value} {A : Around} {s : Shared} {a : Addr} {N : Nl}
    (hhA : A.handled = none) (HA : Ar 1 A s.heap) (D : Gd w mg mb s.heap) (NA : NetAt s.heap a N) (OK : N.Ok) :
    codeAny (model PR w) A (.call (.ref 190) ⟨[.ref a], []⟩) (NeededBack N s) s := by
  refine' enter_pure (binds := [(Str.ofString "made", .ref a)]) 0 [] (by intro p hp; cases hp) HA D ?k6 ?k7 ?k9 ?kB ?_ ?c2 ?c3 ?c4 ?c5
  case k6 => k_is
  case k7 => k_is
  case k9 => exact BindsTo.of_eq rfl
  case c5 => decide
  case kB => exact locs rfl
  case c2 => exact rfl
  case c3 => exact rfl
  case c4 => exact rfl
  intro A' L' h₁ hL hh HA' Fz Nz hk
  have X := D.K
  have T := D.T
  have hh' : A'.handled = none := hh.trans hhA
  change Fr s.heap _ _ _ at Fz
  change News s.heap _ _ _ at Nz
  change Ar 0 A' s.heap at HA'
  refine NA.use ?_
  intro dx n h1 h2 h3 h4 h5 t1 t2 t3 t4 t5 un uc li lo lc pi po pc HI hli ri hlo ro hlc rc
  with_reducible show wpAny _ _ _ _ _ _
  k_fold
  repeat' (first | (k_unfold; (try dsimp only)) | walk1 | (dsimp only; walk1) | (leave1; (try dsimp only)))
  · rename Fr _ _ _ _ => F1
    rename News _ _ _ _ => N1
    refine turns_list (NdI N a) HA'.hk hlo F1 N1 (.mk _ _ [] _ ⟨rfl, rfl, trivial⟩ .nil) ?_ ?_
    · rintro i v m₁ _ h tk I io hv ho ⟨d, vs, n', hm, hvs⟩ F Nw
      obtain ⟨pd, hpd, rv⟩ := ro.get.2 i v hv
      rw [List.getElem?_map, Option.map_eq_some_iff] at hpd
      obtain ⟨p, hp, rfl⟩ := hpd
      obtain ⟨t, x, l, us, rfl, ht, hl, hus⟩ := port_is rv
      rw [bnd_of hm] at F
      clear N1 F1 hm
      change Fr s.heap L' _ _ at F
      change News s.heap L' _ _ at Nw
      have hvl : (wantedOf N i).length ≤ 80 := netsOf_take_len i OK.pout OK.nout
      have hdI : Dis d I := ho _ (.head _)
      have hpl : p.2.length ≤ 20 := OK.pout p (List.mem_of_getElem? hp)
      have hus1 : us.length ≤ 20 := by rw [hus.length]; exact hpl
      with_reducible show wpAny _ _ _ _ _ _
      k_fold
      repeat' (first | (k_unfold; (try dsimp only)) | walk1 | (dsimp only; walk1) | (leave1; (try dsimp only)))
      rename IntsAre _ (wantedOf N i ++ p.2) => hI2
      refine' turn_next ?F ?Nn ?hs ?ho ?hj
      case F => assumption
      case Nn => assumption
      case hj => exact .mk _ _ _ 0 ⟨rfl, rfl, trivial⟩ (wantedOf_next hp ▸ hI2)
      case hs => k_allIn
      case ho => k_all
    · rintro m₁ _ h tk ⟨d, vs, n', hm, hvs⟩ F Nw
      rw [bnd_of hm] at F
      clear N1 F1 hm
      change Fr s.heap L' _ _ at F
      change News s.heap L' _ _ at Nw
      have hpc : pc.length = N.cells.length := by simpa using rc.get.1
      have hnc := OK.ncell
      have hpo : po.length = N.outputs.length := by simpa using ro.get.1
      rw [hpo] at hvs
      dsimp only
      repeat' (first | (k_unfold; (try dsimp only)) | walk1 | (dsimp only; walk1) | (leave1; (try dsimp only)))
      rename Fr _ _ _ _ => F1
      rename News _ _ _ _ => N1
      rename_i dK _ hlt _ _
      have hdKd : Dis dK d := by have := hlt; show @Ne Nat _ _; omega
      refine Hold.intro (While_inv (NdW N a dK)
        F1 N1 (.mk _ _ [] true d vs [] _ _ ⟨rfl, rfl, rfl, rfl, trivial⟩ hdKd hvs .nil ?_ rfl (fun q => nomatch q)) ?_)
      · rw [wantedOf, List.take_length]; exact .start N OK
      · rintro nn m₁ _ h tk F Nw ⟨W, K, g, dW, ws, ks, n1, n2, hm, hne, hws, hks, I, hn, hcl⟩
        rw [bnd_of hm] at F
        clear N1 F1 hm
        cases g with
        | false =>
          with_reducible show wpAny _ _ _ _ _ _
          k_fold
          repeat' (first | (k_unfold; (try dsimp only)) | walk1 | (dsimp only; walk1) | (leave1; (try dsimp only)))
          have hkl : ks.length < 64 := by have := I.lenK; rw [hks.length]; omega
          refine sorted_N (by assumption) (by assumption) (News.isList (by assumption) (by k_mem)) hks hkl (fun h' vs' ns' e F' N' hI hp hs => ?_)
          k_unfold
          dsimp only
          refine ⟨_, e, vs', ns', h', _, rfl, rfl, F'.keep, (N' _ (.head _)).1, hI, Told.of I.nodup hp hs (I.end (hcl rfl)), (N' _ (.head _)).2.2⟩
        | true =>
          with_reducible show wpAny _ _ _ _ _ _
          k_fold
          repeat' (first | (k_unfold; (try dsimp only)) | walk1 | (dsimp only; walk1) | (leave1; (try dsimp only)))
          rename Fr _ _ _ _ => F1
          rename News _ _ _ _ => N1
          rename IsRange _ _ _ _ _ _ _ _ => R1
          refine turns_upto (NdT N a dK K)
            hh' rfl (n := N.cells.length) (by omega) R1 F1 N1 (.mk _ W K false dW ws ks n1 n2 ⟨rfl, rfl, rfl, rfl, trivial⟩ hne hws hks I (Nat.le_refl _) (fun q => nomatch q) (fun _ k c hk => absurd hk (Nat.not_lt_zero _))) ?_ ?_
          · rintro i tt m₁ _ h tk It io hi ho ⟨W', K', g, dW', ws', ks', n1', n2', hm, hne', hws', hks', I', hmu, hg1, hg0⟩ F Nw
            obtain ⟨v, hv⟩ : ∃ v, pc[i]? = some v := ⟨_, List.getElem?_eq_getElem (by omega)⟩
            obtain ⟨pd, hpd, rv⟩ := rc.get.2 i v hv
            rw [List.getElem?_map, Option.map_eq_some_iff] at hpd
            obtain ⟨c, hc, rfl⟩ := hpd
            obtain ⟨t, x, y, l, us, pv, rfl, ht, hl, hus, hpv⟩ := cel_is rv
            have hv' : pc[(i : Int).toNat]? = some (.ref t) := by simpa using hv
            rw [bnd_of hm] at F
            clear N1 F1 R1 hm
            change Fr s.heap L' _ _ at F
            change News s.heap L' _ _ at Nw
            have hdKI : Dis dK It := ho _ (.head _)
            have hdWI : Dis dW' It := ho _ (.tail _ (.head _))
            have hcl := OK.cin c (List.mem_of_getElem? hc)
            have hul : us.length ≤ 20 := by rw [hus.length]; exact hcl
            have hl1 := I'.lenW
            have hl2 := I'.lenK
            have hl3 : ws'.length ≤ 480 := by rw [hws'.length]; omega
            have hl4 : ks'.length ≤ 20 := by rw [hks'.length]; omega
            with_reducible show wpAny _ _ _ _ _ _
            k_fold
            repeat' (first | (k_unfold; (try dsimp only)) | walk1 | (dsimp only; walk1) | (leave1; (try dsimp only)))
            · rename List.any K' _ = true => he
              have hin : (i : Int) ∈ K' := by simpa using he
              refine' turn_next ?F ?Nn ?hs ?ho ?hj
              case F => assumption
              case Nn => assumption
              case hj => exact .mk _ W' K' g dW' ws' ks' n1' n2' ⟨rfl, rfl, rfl, rfl, trivial⟩ hne' hws' hks' I' hmu hg1 (fun q => (hg0 q).next hc fun _ => hin)
              case hs => k_allIn
              case ho => k_all
            · rename List.any K' _ = false => he
              rename List.any W' _ = true => hw
              have hni : (i : Int) ∉ K' := fun q => by simp at he; exact he _ q rfl
              have hwi : c.out ∈ W' := by simpa using hw
              rename IntsAre _ (W' ++ c.ins) => hI2
              have hmu2 := mu_add hi hni
              refine' turn_next ?F ?Nn ?hs ?ho ?hj
              case F => assumption
              case Nn => assumption
              case hj => exact .mk _ (W' ++ c.ins) (K' ++ [(i : Int)]) true _ _ (ks' ++ [.int (i : Int) tt]) 0 (n2' + 1) ⟨rfl, rfl, rfl, rfl, trivial⟩ (by omega) hI2 (hks'.append (.cons _ _ .nil)) (I'.next OK hc hni hwi) (by omega) (fun _ => by omega) (fun q => nomatch q)
              case hs => (rw [← List.push_toArray]; k_allIn)
              case ho => k_all
            · rename List.any K' _ = false => he
              rename List.any W' _ = false => hw
              have hnw : c.out ∉ W' := fun q => by simp at hw; exact hw _ q rfl
              refine' turn_next ?F ?Nn ?hs ?ho ?hj
              case F => assumption
              case Nn => assumption
              case hj => exact .mk _ W' K' g dW' ws' ks' n1' n2' ⟨rfl, rfl, rfl, rfl, trivial⟩ hne' hws' hks' I' hmu hg1 (fun q => (hg0 q).next hc fun q => absurd q hnw)
              case hs => k_allIn
              case ho => k_all
          · rintro m₁ _ h tk ⟨W', K', g, dW', ws', ks', n1', n2', hm, hne', hws', hks', I', hmu, hg1, hg0⟩ F Nw
            clear N1 F1 R1
            dsimp only
            repeat' (first | (k_unfold; (try dsimp only)) | walk1 | (dsimp only; walk1) | (leave1; (try dsimp only)))
            refine while_next (led' := [(dK, listOf ks'.toArray n2'), (dW', listOf ws'.toArray n1')]) (if g then mu N.cells.length K' + 1 else 0) F Nw (fun _ q => q) ?_ (.mk _ W' K' g dW' ws' ks' n1' n2' hm hne' hws' hks' I' rfl hg0)
            cases hn
            cases g with
            | false => simp
            | true => have := hg1 rfl; simp only [if_true]; omega
end
section
open PySem PySem.W PySem.Calls PyProof.Rows PyProof.V
set_option maxRecDepth 100000
/-- an own exception under way: where its traceback hangs, its dict, no context -/
def TrX (base h : Heap) (e C dx : Addr) (fl : Value) : Prop :=
  Ex5 fun oe vs T oT ts => h.get? e = some oe ∧ oe.cls = .ref C ∧ oe.dict = some dx ∧ oe.data = .fields vs ∧ vs[1]? = some (.ref T) ∧ vs[2]? = some .none ∧ base.get? T = none ∧ T ≠ e ∧ h.get? T = some oT ∧ oT.data = .fields ts ∧ ts[3]? = some fl
def TwoDict (h : Heap) (dx : Addr) (x : Int) : Prop :=
  Ex10 fun h1 h2 h3 t1 t2 t3 u1 u2 u3 n => h.get? dx = some (dictOf [⟨h1, .str (Str.ofString "kind") t1, .str (Str.ofString "two_drivers") u1⟩, ⟨h2, .str (Str.ofString "at") t2, .int (-1) u2⟩, ⟨h3, .str (Str.ofString "detail") t3, .str (Str.ofString (toString x)) u3⟩] n)
def Flown (base : Heap) (l : List Env) (h h' : Heap) (e : Addr) (x : Int) : Prop :=
  h.UpToSlots h' ∧ Ex2 fun B dx => base.StaysIn B ∧ base.get? dx = none ∧ base.get? e = none ∧ TwoDict B dx x ∧ B.get? e = none ∧ B.StaysIn h' ∧ h'.FunFrames B l ∧ TrX B h' e 52 dx .none
def DrvOk (w : World) (N : Nl) (h : Heap) (d : Addr) : Prop :=
  Ex3 fun o kvs Df => h.get? d = some o ∧ (d == sysModules) = false ∧ o.IsDictOf (intKind PR w) kvs ∧ FlatPairs PyData.int kvs Df ∧ ∀ x, PySem.Spec.lookup (.int x) Df = fndOf N N.cells.length x
def DriversBack (w : World) (N : Nl) (base : Heap) (l : List Env) (s : Shared) (r : Result) (s' : Shared) : Prop :=
  (dupOf N = none ∧ Ex3 fun d h' tk => r = .ok (.ret (.ref d)) ∧ s' = { s with heap := h', toks := tk } ∧ (∀ b o, s.heap.get? b = some o → h'.get? b = some o) ∧ s.heap.get? d = none ∧ DrvOk w N h' d) ∨
  Ex4 fun x e h' tk => dupOf N = some x ∧ r = .error (.ref e) ∧ s' = { s with heap := h', toks := tk } ∧ Flown base l s.heap h' e x
theorem taken_start (x : Int) {N : Nl} {t1 t2 : Tok} : (PySem.Spec.lookup (.int x) (intData [(Value.int 0 t1, Value.bool true), (Value.int 1 t2, Value.bool true)])).isSome = true ↔ x ∈ [0, 1] ++ netsOf (N.inputs.take 0) := by
  have e : intData [(Value.int 0 t1, Value.bool true), (Value.int 1 t2, Value.bool true)] = [(.int 0, .bool true), (.int 1, .bool true)] := rfl
  rw [e]
  simp only [PySem.Spec.lookup, PySem.Spec.same, netsOf, List.take_zero, List.flatMap_nil, List.append_nil, beq_iff_eq]
  by_cases h0 : 0 = x
  · subst h0; simp
  · by_cases h1 : 1 = x
    · subst h1; simp
    · have a : ¬ x = 0 := fun q => h0 q.symm
      have b : ¬ x = 1 := fun q => h1 q.symm
      simp [h0, h1, a, b]
end
section
open PySem PySem.W PySem.Calls PyProof.Rows PyProof.V Builtin Builtin.ObjectAttr
set_option maxRecDepth 100000
example : ∀ w : World, ∀ h, (hd.heap_39 w.params).In h → PySem.Challenge.rw_on0094_01.Holds → True := by k_fill; intros; trivial

abbrev bm52 : List Value := [.ref 39, .type "Exception", .type "BaseException", .type "object"]
abbrev o52 : Obj := excClassObj (Str.ofString "SynthError") (Str.ofString "SynthError") 52 51 [Value.ref 39] bm52 true [] [] false none none (some (Value.ref 43)) none (some (Value.str (Str.ofString "SynthError") 232)) (some (Value.str (Str.ofString "SynthError") 240)) (some (Value.bool true)) "Exception.__new__"
theorem synth_obj (w : World) : (hd.heap_39 w.params).lookup 52 = some o52 := by k_is

section
variable {prog : Program} {w : World} {A : Around} {E : Value → Shared → Prop} {R : Result → Shared → Prop} {h : Heap} {g : Array GenState} {d : Drawn} {t : Nat} {os : OsState}
theorem check_new52 {rest : List Value} {Q : Unit → Shared → Prop} (hC : h.get? 52 = some o52) (hq : Q () ⟨h, g, d, t, os⟩) : wpAny (model prog w) A (checkBuiltinCall "Exception.__new__" ⟨.ref 52 :: rest, []⟩) Q E ⟨h, g, d, t, os⟩ := by
  have F := PySem.F.excBase_Exception
  have hstar := F.noStar
  have hcont : (Value.ref 52 :: bm52).contains (.type "Exception") = true := by decide +kernel
  simp only [checkBuiltinCall, F.newKind, F.newSplit, F.newRow]
  repeat (first | refine wpAny_loadPart_at hC ?_ | (refine wpAny_isSubtype_exc hC ?_; rw [hcont]) | refine wpAny_staticBase_exc hC ?_ | refine wpAny_madeBy_exc hC ?_ | simp only [bne_self_eq_false, Bool.false_eq_true, if_false] | wp_step)
  exact hq
abbrev tupN (l : List Value) : Obj := { cls := .type "tuple", data := .seq l.toArray }
abbrev excN (t : Addr) (dx : Option Addr) : Obj := { cls := .ref 52, dict := dx, data := .fields #[.ref t, .none, .none, .none, .bool false, .none] }
theorem run_new52 {rest : List Value} (hC : h.get? 52 = some o52)
    (hq : R (.ok (.ret (.ref (h.objs.size + 1)))) ⟨(h.push (tupN rest)).push (excN h.objs.size none), g, d, t, os⟩) (hrest : rest.length ≤ sizeLine) :
    codeAny (model prog w) A (.builtin "Exception.__new__" ⟨.ref 52 :: rest, []⟩) R ⟨h, g, d, t, os⟩ := by
  have F := PySem.F.excBase_Exception
  have hends := F.ends
  have hcB : (Value.ref 52 :: bm52).contains (.type "Exception") = true := by decide +kernel
  have hcA : (Value.ref 52 :: bm52).contains (.type "AttributeError") = false := by decide +kernel
  have hcN : (Value.ref 52 :: bm52).contains (.type "NameError") = false := by decide +kernel
  refine codeAny_builtinAt F.entry ?_
  unfold Builtin.«BaseException.__new__»
  refine PySem.wpAt_bind ?_
  show PySem.wpAt _ _ _ (stack >>= _) _ _ _
  refine PySem.wpAt_bind (PySem.wpAt_stack fun p below => PySem.wpAt_of_wpAny ?_)
  wp_walk
  refine PySem.wpAt_of_wpAny ?_
  rw [F.owner]
  repeat (first | with_reducible refine wpAny_madeHere_exc F.canon hC ?_ | with_reducible refine wpAny_loadPart_at hC ?_ | (with_reducible refine wpAny_isSubtype_exc hC ?_; first | rw [hcB] | rw [hcA] | rw [hcN]) | wp_step)
  show R _ _
  rw [Heap.size_push]
  exact hq

theorem make52 {rest : List Value} {init : Addr} {K : Frag} (X : K.In h) (hC : h.get? 52 = some o52) (hrest : rest.length ≤ sizeLine)
    (hcall : specialIn K (.ref 52) "__call__" = some (some (.builtin "type.__call__"))) (htyp : instIn K (.ref 52) (.type "type") = some true) (hi : findIn K (.ref 52) "__init__" = some (some (.ref init))) (hf : typeIn K (.ref init) = some (.type "function"))
    (hq : codeAny (model prog w) (A.under (.builtin "type.__call__" ⟨.ref 52 :: rest, []⟩)) (.call (.ref init) ⟨.ref (h.objs.size + 1) :: rest, []⟩) (InitBack (h.objs.size + 1) R) ⟨(h.push (tupN rest)).push (excN h.objs.size none), g, d, t, os⟩) :
    codeAny (model prog w) A (.call (.ref 52) ⟨rest, []⟩) R ⟨h, g, d, t, os⟩ := by
  have F := PySem.F.excBase_Exception
  have call : Looks (model prog w) h (specialOf (.ref 52) "__call__") (some (.builtin "type.__call__")) := looks_specialIn X hcall
  have typ : Looks (model prog w) h (isInstance (.ref 52) (.type "type")) true := looks_instIn X htyp
  refine codeAny_of_tree ?_
  show wpAny _ _ (callAny (.ref 52) _) _ _ _
  refine nd_load hC ?_
  show wpAny _ _ (callAny.viaDunder (.ref 52) _) _ _ _
  unfold callAny.viaDunder
  refine wpAny_bind (call.at ?_)
  dsimp only
  rw [tc_bind]
  refine wpAny_bind (wpAny_pure (wpAny_bind (wpAny_pure ?_)))
  refine wpAny_pure (a := Fin.again (.call (.builtin "type.__call__") ⟨.ref 52 :: rest, []⟩)) (And.intro rfl ?_)
  refine codeAny_call_builtin_at (Code.quiet_builtin _ (by decide +kernel)) entry_typeCall (check_slot tc_kind tc_split typ (tc_args _ _ _) ?_)
  unfold Builtin.«type.__call__»
  have e4 : (Value.ref 52 :: bm52).isEmpty = false := rfl
  have hm : Looks (model prog w) h (mroOf (.ref 52)) (Value.ref 52 :: bm52) := ((Looks.ld (part := none) hC).andThen .now).andThen .now
  have made : Looks (model prog w) h (Bind.madeBy (.ref 52)) (some "Exception.__new__") := fun A Q E s k q => by
    obtain ⟨h', g', d', t', o'⟩ := s
    exact wpAny_madeBy_exc (k _ _ hC) q
  repeat (first | simp only [e4, Bool.false_eq_true, if_false] | with_reducible refine wpAny_call ?_ | lk)
  refine codeAny_call_builtin_code (Code.quiet_builtin _ F.quiet) (check_new52 hC ?_)
  refine run_new52 hC ?_ hrest
  have k : ∀ b o, h.get? b = some o → ((h.push (tupN rest)).push (excN h.objs.size none)).get? b = some o := fun b o e => Heap.get?_push_of_some _ (Heap.get?_push_of_some _ e)
  have hx : ((h.push (tupN rest)).push (excN h.objs.size none)).get? (h.objs.size + 1) = some (excN h.objs.size none) := by heap_get
  have t1 : Looks (model prog w) ((h.push (tupN rest)).push (excN h.objs.size none)) (typeOf (.ref (h.objs.size + 1))) (.ref 52) := (Looks.ld hx).andThen .now
  have s1 : Looks (model prog w) ((h.push (tupN rest)).push (excN h.objs.size none)) (isSubtype (.ref 52) (.ref 52)) true := fun A Q E s k' q => by
    obtain ⟨h', g', d', t', o'⟩ := s
    exact wpAny_isSubtype_exc (k' _ _ (k _ _ hC)) q
  have i1 := (looks_findIn (M := model prog w) X hi).keeps k
  have b1 := (bind_fn (M := model prog w) X (.ref (h.objs.size + 1)) hf).keeps k
  show wpAny _ _ _ _ _ _
  unfold isInstance callSpecial? specialOf
  repeat (first | with_reducible refine wpAny_call ?_ | lk)
  refine codeAny_mono hq fun r s' z => ?_
  rcases r with e | (v | _ | _ | _) <;> first | exact z | exact z.elim | skip
  obtain ⟨rfl, z⟩ := z
  exact wpAny_pure (wpAny_pure z)
end
end
section
open PySem PySem.W PySem.Calls PyProof.Rows PyProof.V Builtin Builtin.ObjectAttr
set_option maxRecDepth 100000
example : ∀ w : World, ∀ h, (hd.heap_39 w.params).In h → PySem.Challenge.rw_on0094_01.Holds → True := by k_fill; intros; trivial

theorem pass52 (self : Value) : refuseLoop self "__setattr__" (Value.ref 52 :: bm52) = pure () := by
  rw [refuseLoop_ref, refuseLoop_ref]; kernel_rfl
section
variable {prog : Program} {w : World} {A : Around} {E : Value → Shared → Prop} {s : Shared} {R : Result → Shared → Prop} {K : Frag} {x L : Addr} {h₀ : Heap} {m : Str → Option Value} {t : Addr} {dx : Option Addr} {name : Str} {v : Value} {tk : Tok} {Q : Unit → Shared → Prop}
theorem osa52 (X : K.In s.heap) (hx : s.heap.get? x = some (excN t dx)) (hC : s.heap.get? 52 = some o52) (ht : findIn K (.ref 52) name = some none)
    (h : wpAny (model prog w) A.in1 (storeInOwnDict (.ref x) (.ref 52) (.str name tk) name v false)
      (fun fin s' => match fin with | .done f => R (.ok f) s' | .again c' => c'.quiet = true ∧ codeAny (model prog w) A c' R s') (fun e s' => R (.error e) s') s) :
    codeAny (model prog w) A (.call (.builtin "object.__setattr__") ⟨[.ref x, .str name tk, v], []⟩) R s := by
  have SF := PySem.F.store_object
  have ty : Looks (model prog w) s.heap (typeOf (.ref x)) (.ref 52) := (Looks.ld hx).andThen .now
  have s1 : ∀ b, Looks (model prog w) s.heap (isSubtype (.ref 52) b) ((Value.ref 52 :: bm52).contains b) := fun b A Q E s k' q => by
    obtain ⟨h', g', d', t', o'⟩ := s
    exact wpAny_isSubtype_exc (k' _ _ hC) q
  have sub : Looks (model prog w) s.heap (isInstance (.ref x) (.type "object")) true := ty.andThen (s1 (.type "object"))
  refine codeAny_call_builtin SF.slot.plain SF.entry (@check_slot (model prog w) _ _ s "object.__setattr__" "object" "__setattr__" (.ref x) [.str name tk, v] [] _ SF.kind SF.split sub (SF.args (.ref x) (.str name tk) v) ?_)
  have hm : Looks (model prog w) s.heap (mroOf (.ref 52)) (Value.ref 52 :: bm52) := ((Looks.ld (part := none) hC).andThen .now).andThen .now
  rw [osa_eq, refuse_eq]
  refine wpAny_bind (wpAny_bind (ty.here (wpAny_bind (hm.here ?_))))
  rw [pass52]
  refine wpAny_pure (wpAny_bind (ty.here (wpAny_bind ((looks_findIn X ht).here (wpAny_bind (wpAny_pure ?_))))))
  exact h
theorem put52 {D : Addr} {es : List DictEntry} {n : Nat} {post : List (Addr × Obj)} {k : Shared → Prop} (F : Fr h₀ L s.heap m) (N : News h₀ L s.heap ((D, dictOf es n) :: post)) (h2 : ∀ p ∈ post, p.1 ≠ D) (hl : (getL name es).isSome = true) (hz : (putL name (PyData.keyHash w.params name) (.str name s.toks) v es).length ≤ 1000)
    (h : ∀ h', Fr h₀ L h' m → News h₀ L h' ((D, dictOf (putL name (PyData.keyHash w.params name) (.str name s.toks) v es) (putN name es n)) :: post) → k { s with heap := h', toks := s.toks + 1 }) :
    wpAny (model prog w) A (storeInDict D (.str name tk) name v) (fun fin s' => match fin with | .done f => f = .ret .none ∧ k s' | .again _ => False) E s := by
  obtain ⟨U1, U2⟩ := news_upd (pre := []) (f := Obj.putName name (PyData.keyHash w.params name) (.str name s.toks) v) F N (fun _ hp => nomatch hp) h2 (putName_dict _ _ _ _ _ _) rfl
  have D1 := (N _ (.head _)).1
  have D' := (U2 _ (.head _)).1
  refine wpAny_bind (wpAny_pure (wpAny_bind ?_))
  unfold nsSet
  refine wpAny_bind (wpAny_bind (wpAny_askSetting (wpAny_pure (wpAny_bind (wpAny_mkText (wpAny_bind (wpAny_loadPart D1 ?_)))))))
  dsimp only
  have c : (!es.toArray.any (·.key.isStr name) && es.toArray.any (·.refKey)) = false := by
    unfold getL at hl
    rw [← Array.any_toList, ← Array.any_toList]
    split at hl
    · rename_i en he
      rw [List.any_eq_true.mpr ⟨en, List.mem_of_find?_eq_some he, List.find?_some he⟩]; rfl
    · split at hl
      · cases hl
      · rename_i z; rw [Bool.not_eq_true] at z; rw [show es.toArray.toList = es from rfl, z, Bool.and_false]
  rw [aRefKeyMayBeTheName_at, c]
  refine wpAny_updatePart D1 ?_
  refine wpAny_bind (wpAny_lookBehind D' (pastItsLine_dict (by rw [List.size_toArray, sizeLine_eq]; omega)) ?_)
  exact wpAny_pure ⟨rfl, h _ U1 U2⟩
theorem set52_more {D : Addr} {es es' : List DictEntry} {n n' : Nat} (F : Fr h₀ L s.heap m) (X₀ : K.In h₀) (N : News h₀ L s.heap [(D, dictOf es n), (x, excN t (some D))]) (hC : h₀.get? 52 = some o52) (hne : x ≠ D)
    (hs : findIn K (.ref 52) "__setattr__" = some (some (.builtin "object.__setattr__"))) (ht : findIn K (.ref 52) name = some none) (hl : (getL name es).isSome = true)
    (e : (putL name (PyData.keyHash w.params name) (.str name (s.toks + 1)) v es, putN name es n) = (es', n')) (hz : es'.length ≤ 1000)
    (h : ∀ h', Fr h₀ L h' m → News h₀ L h' [(D, dictOf es' n'), (x, excN t (some D))] → Q () { s with heap := h', toks := s.toks + 2 }) :
    wpAny (model prog w) A (setAttr (.ref x) name v) Q E s := by
  obtain ⟨rfl, rfl⟩ := Prod.mk.inj e
  have hx : s.heap.get? x = some (excN t (some D)) := (N _ (.tail _ (.head _))).1
  have X := X₀.keeps F.keep
  refine set_plain X (C := 52) (ox := excN t (some D)) (od := some (dictOf es n)) ⟨hx, rfl, rfl, (N _ (.head _)).1⟩ hs ?_
  refine osa52 (s := { s with toks := s.toks + 1 }) X hx (F.keep _ _ hC) ht ?_
  have hc : Looks (model prog w) ({ s with toks := s.toks + 1 } : Shared).heap (classData 52) _ := (Looks.ld (part := none) (F.keep _ _ hC)).andThen .now
  refine wpAny_bind (wpAny_pure (wpAny_bind (wpAny_bind (wpAny_loadPart hx (wpAny_bind (hc.here ?_))))))
  refine wpAny_pure (a := some D) (wpAny_bind (wpAny_pure ?_))
  refine wpAny_mono (put52 (k := Q ()) (tk := s.toks) (s := { s with toks := s.toks + 1 }) F N (by intro p hp; rcases List.mem_singleton.mp hp with rfl; exact hne) hl hz fun h' F' N' => h h' F' N') (fun fin s' z => ?_) fun _ _ z => z
  cases fin with
  | done f => obtain ⟨rfl, z⟩ := z; exact z
  | again c => exact z.elim
theorem set52_new {es' : List DictEntry} {n' : Nat} (F : Fr h₀ L s.heap m) (X₀ : K.In h₀) (N : News h₀ L s.heap [(x, excN t none)]) (hC : h₀.get? 52 = some o52)
    (hs : findIn K (.ref 52) "__setattr__" = some (some (.builtin "object.__setattr__"))) (ht : findIn K (.ref 52) name = some none)
    (e : (putL name (PyData.keyHash w.params name) (.str name (s.toks + 1)) v [], putN name [] 0) = (es', n')) (hz : es'.length ≤ 1000)
    (h : ∀ D h', x ≠ D → Fr h₀ L h' m → News h₀ L h' [(D, dictOf es' n'), (x, excN t (some D))] → Q () { s with heap := h', toks := s.toks + 2 }) :
    wpAny (model prog w) A (setAttr (.ref x) name v) Q E s := by
  obtain ⟨rfl, rfl⟩ := Prod.mk.inj e
  have hx : s.heap.get? x = some (excN t none) := (N _ (.head _)).1
  have X := X₀.keeps F.keep
  refine set_plain X (C := 52) (ox := excN t none) (od := none) ⟨hx, rfl, rfl, trivial⟩ hs ?_
  refine osa52 (s := { s with toks := s.toks + 1 }) X hx (F.keep _ _ hC) ht ?_
  have hc : Looks (model prog w) ({ s with toks := s.toks + 1 } : Shared).heap (classData 52) _ := (Looks.ld (part := none) (F.keep _ _ hC)).andThen .now
  refine wpAny_bind (wpAny_pure (wpAny_bind (wpAny_bind (wpAny_loadPart hx (wpAny_bind (hc.here ?_))))))
  have hxs : x ≠ s.heap.objs.size := Nat.ne_of_lt (Heap.lt_size hx)
  have F1 := F.push emptyDict
  have N1 := N.push F emptyDict
  obtain ⟨U1, U2⟩ := news_upd (pre := [(s.heap.objs.size, emptyDict)]) (post := []) (f := fun o => { o with dict := some s.heap.objs.size }) F1 N1 (by intro p hp; rcases List.mem_singleton.mp hp with rfl; exact hxs.symm) (fun _ hp => nomatch hp) (o' := excN t (some s.heap.objs.size)) rfl rfl
  show wpAny _ _ ((alloc emptyDict >>= fun d => _) >>= _) _ _ _
  refine wpAny_bind (wpAny_bind (wpAny_alloc (wpAny_pure (wpAny_bind (wpAny_update (Heap.get?_push_of_some _ hx) (wpAny_pure ?_))))))
  refine wpAny_mono (put52 (k := Q ()) (tk := s.toks) (es := []) (n := 0) (s := ⟨_, s.gens, s.drawn, s.toks + 1, s.os⟩) U1 U2 (by intro p hp; rcases List.mem_singleton.mp hp with rfl; exact hxs) rfl hz fun h' F' N' => h _ h' hxs F' N') (fun fin s' z => ?_) fun _ _ z => z
  cases fin with
  | done f => obtain ⟨rfl, z⟩ := z; exact z
  | again c => exact z.elim
end
end
section
open PySem PySem.W PySem.Calls PyProof.Rows PyProof.V
set_option maxRecDepth 100000
example : ∀ w : World, ∀ h, (hd.heap_39 w.params).In h → PySem.Challenge.rw_on0094_01.Holds → True := by k_fill; intros; trivial
theorem Ar.made {n : Nat} {A : Around} {h : Heap} {C : Addr} {vals : List Value} (H : Ar (n + 1) A h) : Ar n (A.under (.builtin "type.__call__" ⟨.ref C :: vals, []⟩)) h :=
  ⟨H.hk, by have := H.hd; rw [PyProof.Rows.depth_under_make]; omega, by have := H.hu; rw [PyProof.Rows.units_under_make]; omega⟩

def Synth (s : Shared) (v1 v2 v3 : Value) (r : Result) (s' : Shared) : Prop :=
  Ex12 fun e t dx n h' tk h1 h2 h3 t1 t2 t3 => r = .ok (.ret (.ref e)) ∧ s' = { s with heap := h', toks := tk } ∧ (∀ b o, s.heap.get? b = some o → h'.get? b = some o) ∧ s.heap.get? e = none ∧ s.heap.get? dx = none ∧ e ≠ dx ∧ h'.get? e = some (excN t (some dx)) ∧
    h'.get? dx = some (dictOf [⟨h1, .str (Str.ofString "kind") t1, v1⟩, ⟨h2, .str (Str.ofString "at") t2, v2⟩, ⟨h3, .str (Str.ofString "detail") t3, v3⟩] n)
theorem fresh_pre {h h' : Heap} (k : ∀ b o, h.get? b = some o → h'.get? b = some o) {x : Addr} (e : h'.get? x = none) : h.get? x = none := by
  cases q : h.get? x with
  | none => rfl
  | some o => rw [k _ _ q] at e; cases e

set_option maxHeartbeats 4000000 in
theorem synth_code {w : World} {mg mb : Str → Option Value} {A : Around} {s : Shared} {v1 v2 v3 : Value} (HA : Ar 3 A s.heap) (D : Gd w mg mb s.heap) :
    codeAny (model PR w) A (.call (.ref 52) ⟨[v1, v2, v3], []⟩) (Synth s v1 v2 v3) s := by
  obtain ⟨hh, g, d, t, os⟩ := s
  dsimp only at D HA
  have hC := D.K _ _ (synth_obj w)
  refine' make52 (K := hd.heap_39 w.params) (init := 36) D.K hC (by rw [sizeLine_eq]; exact Nat.le_of_ble_eq_true rfl) ?m1 ?m2 ?m3 ?m4 ?_
  case m1 => k_is
  case m2 => k_is
  case m3 => k_is
  case m4 => k_is
  have k2 : ∀ b o, hh.get? b = some o → ((hh.push (tupN [v1, v2, v3])).push (excN hh.objs.size none)).get? b = some o := fun b o e => Heap.get?_push_of_some _ (Heap.get?_push_of_some _ e)
  have hx : ((hh.push (tupN [v1, v2, v3])).push (excN hh.objs.size none)).get? (hh.objs.size + 1) = some (excN hh.objs.size none) := by heap_get
  have hn : hh.get? (hh.objs.size + 1) = none := Heap.get?_none_of_le (by omega)
  generalize hh.objs.size = t0 at *
  generalize hh2 : (hh.push (tupN [v1, v2, v3])).push (excN t0 none) = H at *
  clear hh2
  have k3 : ∀ b o, hh.get? b = some o → (hideAll H [t0 + 1]).get? b = some o := fun b o q => hideAll_get _ (k2 b o q) fun z => by rcases List.mem_singleton.mp z with rfl; rw [hn] at q; cases q
  generalize t0 + 1 = e at *
  have HA2 := (HA.made (C := 52) (vals := [v1, v2, v3])).keeps k3
  have D2 := D.keeps k3
  refine' enter_pure (s := ⟨H, g, d, t, os⟩) (binds := [(Str.ofString "self", .ref e), (Str.ofString "kind", v1), (Str.ofString "at", v2), (Str.ofString "detail", v3)]) 1 [(e, excN t0 none)] (by intro p hp; cases hp with | head => exact hx | tail _ h => cases h) HA2 D2 ?k6 ?k7 ?k9 ?kB ?_ ?c2 ?c3 ?c4 ?c5
  case k6 => k_is
  case k7 => k_is
  case k9 => exact binds_K (fun b o e => of_hideAll _ (D2.K b o e)) rfl (by k_is) rfl rfl rfl
  case c5 => decide
  case kB => exact locs rfl
  case c2 => rfl
  case c3 => rfl
  case c4 => rfl
  intro A' L' h₁ hL hh' HA' F N hk₁
  have hC2 := D2.K _ _ (synth_obj w)
  have X := D2.K
  have T := D2.T
  change Fr (hideAll H [e]) L' h₁ _ at F
  change News (hideAll H [e]) L' h₁ [(e, excN t0 none)] at N
  clear D D2 HA HA2
  with_reducible show wpAny _ _ _ _ _ _
  k_fold
  repeat' (first | (k_unfold; (try dsimp only)) | walk1 | (dsimp only; walk1) | (leave1; (try dsimp only)))
  refine' set52_new F X N hC2 ?s1 ?s2 ?s3 ?s4 ?_
  case s1 => k_is
  case s2 => k_is
  case s3 => exact rfl
  case s4 => exact Nat.le_of_ble_eq_true rfl
  intro Dx h₂ hne F2 N2
  clear F N
  repeat' (first | (k_unfold; (try dsimp only)) | walk1 | (dsimp only; walk1) | (leave1; (try dsimp only)))
  refine' set52_more F2 X N2 hC2 hne ?s1 ?s2 ?s5 ?s3 ?s4 ?_
  case s1 => k_is
  case s2 => k_is
  case s5 => exact rfl
  case s3 => k_put
  case s4 => exact Nat.le_of_ble_eq_true rfl
  intro h₃ F3 N3
  clear F2 N2
  repeat' (first | (k_unfold; (try dsimp only)) | walk1 | (dsimp only; walk1) | (leave1; (try dsimp only)))
  refine' set52_more F3 X N3 hC2 hne ?s1 ?s2 ?s5 ?s3 ?s4 ?_
  case s1 => k_is
  case s2 => k_is
  case s5 => exact rfl
  case s3 => k_put
  case s4 => exact Nat.le_of_ble_eq_true rfl
  intro h₄ F4 N4
  clear F3 N3
  repeat' (first | (k_unfold; (try dsimp only)) | walk1 | (dsimp only; walk1) | (leave1; (try dsimp only)))
  exact ⟨rfl, e, t0, Dx, _, h₄, _, _, _, _, _, _, _, rfl, rfl, fun b o q => F4.keep _ _ (k3 _ _ q), hn, fresh_pre k3 (N4 _ (.head _)).2.2, hne, (N4 _ (.tail _ (.head _))).1, (N4 _ (.head _)).1⟩

theorem raise52 {M : Model} {A : Around} {E : Value → Shared → Prop} {env : Env} {s : Shared} {x : Sem Value} {Q : Flow → Shared → Prop} (hh : A.handled = none)
    (h : wpAny M A x (fun v s₁ => Ex3 fun e t dx => v = .ref e ∧ s₁.heap.get? 52 = some o52 ∧ s₁.heap.get? e = some (excN t dx) ∧ E (.ref e) s₁) E s) :
    wpAny M A (raiseStmt env (some x) none) Q E s := by
  have hcB : (Value.ref 52 :: bm52).contains (.type "BaseException") = true := by decide +kernel
  unfold raiseStmt
  refine wpAny_bind (wpAny_mono h (fun v s₁ h₁ => ?_) fun _ _ x => x)
  obtain ⟨e, t, dx, rfl, hC, he, hE⟩ := h₁
  obtain ⟨hp, g, d, tk, os⟩ := s₁
  repeat (first | with_reducible refine wpAny_loadPart_at he ?_ | with_reducible refine wpAny_loadPart_at hC ?_ | (with_reducible refine wpAny_isSubtype_exc hC ?_; rw [hcB]) | wp_step)
  exact wpAny_raiseNew_none hh hE
theorem raise_call {prog : Program} {w : World} {A : Around} {E : Value → Shared → Prop} {env : Env} {s : Shared} {f : Expr} {args : List Expr} {kw : List Keyword} {cpos pos : Pos} {Q : Flow → Shared → Prop} (hh : A.handled = none)
    (h : wpAny (model prog w) A (eval (.Call f args kw cpos) env) (fun v s₁ => Ex3 fun e t dx => v = .ref e ∧ s₁.heap.get? 52 = some o52 ∧ s₁.heap.get? e = some (excN t dx) ∧ E (.ref e) s₁) E s) :
    wpAny (model prog w) A (exec (.Raise (some (.Call f args kw cpos)) none pos) env) Q E s := by
  rw [arm_exec_Raise]
  refine wpAny_bind (wpAny_standAt (raise52 hh ?_))
  refine wpAny_bind (wpAny_mono h (fun v s₃ h₃ => wpAny_bind (wpAny_standAt (wpAny_pure h₃))) fun _ _ x => x)
end
section
open PySem PySem.W PySem.Calls PyProof.Rows PyProof.V
set_option maxRecDepth 100000
/-- what the walk of an own exception through a frame changes -/
def StepX (base : Heap) (l : List Env) (e C dx : Addr) (fl : Value) (h h' : Heap) : Prop :=
  base.StaysIn h' ∧ h'.FunFrames base l ∧ TrX base h' e C dx fl ∧ h.UpToSlots h'
section
variable {M : Model} {A : Around} {E : Value → Shared → Prop} {s : Shared} {base : Heap} {env : Env} {outer : List Env} {L e C dx : Addr} {Q : Unit → Shared → Prop}
theorem entry_X {oe : Obj} {vs : Array Value} {head : Value} {hadNext : Bool}
    (hfr : A.frames = some (env :: outer)) (hl : s.heap.FunFrames base (env :: outer)) (hf : env.frame = some L) (he : s.heap.get? e = some oe) (hkb : base.StaysIn s.heap) (hen : base.get? e = none)
    (hd : oe.data = .fields vs) (hsz : 1 < vs.size) (hc : oe.cls = .ref C) (hx : oe.dict = some dx) (h2 : vs[2]? = some .none)
    (h : ∀ h', StepX base (env :: outer) e C dx (rawInt L) s.heap h' → Q () { s with heap := h' }) :
    wpAny M A (do let a ← frameOf env; let pl ← entryPlaceOf L hadNext; let b ← EntryCells.newEntry head a .none (rawInt L) .none pl; setField (.ref e) 1 b) Q E s := by
  have hene : e ∉ (env :: outer).filterMap (·.frame) := fun hm => by
    obtain ⟨_, o, ho, hnf⟩ := hl.mem hm
    rw [he] at ho; injection ho with ho; subst ho; exact hnf vs hd
  refine wpAny_bind (wpAny_frameOf_fun hfr hl hf fun h₁ hs₁ => ?_)
  refine wpAny_bind (wpAny_entryPlaceOf fun pl hpl => ?_)
  unfold EntryCells.newEntry newFields
  refine wpAny_bind (wpAny_newObj_type ?_ (hpl.sizeOk5 _ _ _ _ _))
  have he₁ : h₁.get? e = some oe := (hs₁.2.1 e hene).trans he
  have kb₁ : base.StaysIn h₁ := fun b o hbo => (hs₁.2.1 b fun hm => by rw [(hl.mem hm).1] at hbo; cases hbo).trans (hkb b o hbo)
  generalize hob : ({ cls := .type "traceback", dict := none, data := .fields ([head, .ref L, .none, rawInt L, .none] ++ (if pl.isEmpty then List.replicate 6 Value.none else pl)).toArray } : Obj) = ob
  have he₂ := Heap.get?_push_of_some (h := h₁) ob he₁
  refine wpAny_setField he₂ hd hsz (h _ ?_)
  have hTe : h₁.objs.size ≠ e := Nat.ne_of_gt (Heap.lt_size he₁)
  have hd₃ := Obj.data_mapFields hd (·.setIfInBounds 1 (Value.ref h₁.objs.size))
  have he₃ := Heap.get?_update_self (Obj.mapFields (·.setIfInBounds 1 (Value.ref h₁.objs.size))) he₂ (Obj.isFreed_of_fields hd₃)
  have hT₃ : ((h₁.push ob).update e (Obj.mapFields (·.setIfInBounds 1 (Value.ref h₁.objs.size)))).get? h₁.objs.size = some ob := (Heap.get?_update_other (h₁.push ob) _ (Ne.symm hTe)).trans (Heap.get?_push_size h₁ (by subst hob; rfl))
  have keep : ∀ b o, b ≠ e → h₁.get? b = some o → ((h₁.push ob).update e (Obj.mapFields (·.setIfInBounds 1 (Value.ref h₁.objs.size)))).get? b = some o := fun b o hbe hb => by
    rw [Heap.get?_update_other _ _ (Ne.symm hbe)]
    exact Heap.get?_push_of_some _ hb
  have noRecord : ∀ b o, s.heap.get? b = some o → (∀ vs, o.data ≠ .fields vs) → b ≠ e := fun b o hb hnf q => by
    rw [q, he] at hb; injection hb with hb; subst hb; exact hnf vs hd
  refine ⟨fun b o hbo => keep b o (fun q => by rw [q, hen] at hbo; cases hbo) (kb₁ b o hbo), hl.of_keeps fun b o hb hnf => ?_, ?_, fun b o hb hnf => ?_⟩
  · obtain ⟨sl, hs⟩ := hs₁.2.2 b o hb
    exact ⟨_, keep b _ (noRecord b o hb hnf) hs, rfl⟩
  · refine ⟨_, _, h₁.objs.size, _, _, he₃, by rw [Obj.cls_mapFields]; exact hc, ?_, hd₃, by simp [hsz], by rw [Array.getElem?_setIfInBounds_ne (by decide)]; exact h2, kb₁.fresh, hTe, hT₃, by subst hob; rfl, ?_⟩
    · obtain ⟨oc, od, oda, osl⟩ := oe
      cases hd
      exact hx
    · first | (simp; done) | (rcases hpl with rfl | ⟨_, _, _, _, _, _, _, rfl⟩ <;> simp)
  · obtain ⟨sl, hs⟩ := hs₁.2.2 b o hb
    exact ⟨sl, keep b _ (noRecord b o hb hnf) hs⟩

theorem note_first_X {t : Addr} (hfr : A.frames = some (env :: outer)) (hl : s.heap.FunFrames base (env :: outer)) (hf : env.frame = some L) (he : s.heap.get? e = some (excN t (some dx))) (hkb : base.StaysIn s.heap) (hen : base.get? e = none)
    (h : ∀ h', StepX base (env :: outer) e 52 dx (rawInt L) s.heap h' → Q () { s with heap := h' }) : wpAny M A (noteFrame (.ref e) env) Q E s := by
  unfold noteFrame
  simp only [hf]
  refine wpAny_bind (wpAny_field (x := Value.none) he rfl rfl ?_)
  rw [if_neg (show ¬ ((Value.none != Value.none) = true) by decide)]
  exact entry_X hfr hl hf he hkb hen rfl (Nat.le_of_ble_eq_true rfl) rfl rfl rfl h

theorem note_on_X (hfr : A.frames = some (env :: outer)) (hl : s.heap.FunFrames base (env :: outer)) (hf : env.frame = some L) (ht : TrX base s.heap e C dx .none) (hkb : base.StaysIn s.heap) (hen : base.get? e = none)
    (h : ∀ h', StepX base (env :: outer) e C dx (rawInt L) s.heap h' → Q () { s with heap := h' }) : wpAny M A (noteFrame (.ref e) env) Q E s := by
  obtain ⟨oe, vs, T, oT, ts, he, hcls, hdx, hd, h1, h2, hnT, hTe, hT, hdT, h3⟩ := ht
  unfold noteFrame
  simp only [hf]
  refine wpAny_bind (wpAny_field he hd (by simpa using h1) ?_)
  rw [if_pos (show (Value.ref T != Value.none) = true from by simp)]
  refine wpAny_bind (wpAny_field hT hdT (by simpa using h3) ?_)
  rw [if_neg (show ¬ ((Value.none == rawInt L) = true) from by simp [rawInt])]
  have sz1 : 1 < vs.size := (Array.getElem?_eq_some_iff.mp h1).1
  refine wpAny_bind (wpAny_setField hT hdT (Array.getElem?_eq_some_iff.mp h3).1 ?_)
  have other : ∀ b, b ≠ T → (s.heap.update T (Obj.mapFields (·.setIfInBounds 3 Value.none))).get? b = s.heap.get? b := fun b hb => Heap.get?_update_other _ _ (Ne.symm hb)
  have noRecord : ∀ b o, s.heap.get? b = some o → (∀ vs, o.data ≠ .fields vs) → b ≠ T := fun b o hb hnf q => by
    rw [q, hT] at hb; injection hb with hb; subst hb; exact hnf _ hdT
  refine entry_X hfr (hl.of_keeps fun b o hb hnf => ⟨o, (other b (noRecord b o hb hnf)).trans hb, rfl⟩) hf ((other e (Ne.symm hTe)).trans he)
    (fun b o hbo => (other b fun q => by rw [q, hnT] at hbo; cases hbo).trans (hkb b o hbo)) hen hd sz1 hcls hdx h2
    fun h' ⟨x1, x2, x3, x4⟩ => h h' ⟨x1, x2, x3, fun b o hb hnf => x4 b o ((other b (noRecord b o hb hnf)).trans hb) hnf⟩

theorem flight_X {l : List Env} {fl : Value} (hkb : base.StaysIn s.heap) (hl : s.heap.FunFrames base l) (ht : TrX base s.heap e C dx fl)
    (h : ∀ h', StepX base l e C dx .none s.heap h' → Q () { s with heap := h' }) : wpAny M A (setFlight (.ref e) none) Q E s := by
  obtain ⟨oe, vs, T, oT, ts, he, hcls, hdx, hd, h1, h2, hnT, hTe, hT, hdT, h3⟩ := ht
  have hsz3 : 3 < ts.size := (Array.getElem?_eq_some_iff.mp h3).1
  have other : ∀ b, b ≠ T → (s.heap.update T (Obj.mapFields (·.setIfInBounds 3 ((none : Option Addr).elim Value.none fun f => rawInt f)))).get? b = s.heap.get? b :=
    fun b hb => Heap.get?_update_other _ _ (Ne.symm hb)
  have noRecord : ∀ b o, s.heap.get? b = some o → (∀ vs, o.data ≠ .fields vs) → b ≠ T := fun b o hb hnf q => by
    rw [q, hT] at hb; injection hb with hb; subst hb; exact hnf _ hdT
  unfold setFlight
  refine wpAny_bind (wpAny_field he hd (by simpa using h1) ?_)
  rw [if_pos (show (Value.ref T != Value.none) = true from by simp)]
  refine wpAny_setField hT hdT hsz3 (h _ ⟨fun b o hbo => (other b fun q => by rw [q, hnT] at hbo; cases hbo).trans (hkb b o hbo),
    hl.of_keeps fun b o hb hnf => ⟨o, (other b (noRecord b o hb hnf)).trans hb, rfl⟩, ?_, fun b o hb hnf => ⟨o.slots, (other b (noRecord b o hb hnf)).trans hb⟩⟩)
  exact ⟨oe, vs, T, _, _, (other e (Ne.symm hTe)).trans he, hcls, hdx, hd, h1, h2, hnT, hTe, Heap.get?_update_self _ hT (Obj.isFreed_of_fields (Obj.data_mapFields hdT _)), Obj.data_mapFields hdT _, by simp [hsz3]⟩

theorem note_again_X (hf : env.frame = some L) (ht : TrX base s.heap e C dx (rawInt L)) (h : Q () s) : wpAny M A (noteFrame (.ref e) env) Q E s := by
  obtain ⟨oe, vs, T, oT, ts, he, hcls, hdx, hd, h1, h2, hnT, hTe, hT, hdT, h3⟩ := ht
  unfold noteFrame
  simp only [hf]
  refine wpAny_bind (wpAny_field he hd (by simpa using h1) ?_)
  rw [if_pos (show (Value.ref T != Value.none) = true from by simp)]
  refine wpAny_bind (wpAny_field hT hdT (by simpa using h3) ?_)
  rw [if_pos (show (rawInt L == rawInt L) = true from by simp)]
  exact wpAny_pure h

theorem leave_first_X {t : Addr} (hfr : A.frames = some (env :: outer)) (hl : s.heap.FunFrames base (env :: outer)) (hf : env.frame = some L) (he : s.heap.get? e = some (excN t (some dx))) (hkb : base.StaysIn s.heap) (hen : base.get? e = none)
    (h : ∀ h', StepX base (env :: outer) e 52 dx .none s.heap h' → Q () { s with heap := h' }) : wpAny M A (leaving env (.ref e)) Q E s := by
  unfold leaving
  exact wpAny_bind (note_first_X hfr hl hf he hkb hen fun h₁ S1 => flight_X S1.1 S1.2.1 S1.2.2.1 fun h₂ S2 => h h₂ ⟨S2.1, S2.2.1, S2.2.2.1, S1.2.2.2.trans S2.2.2.2⟩)
theorem leave_on_X (hfr : A.frames = some (env :: outer)) (hl : s.heap.FunFrames base (env :: outer)) (hf : env.frame = some L) (ht : TrX base s.heap e C dx .none) (hkb : base.StaysIn s.heap) (hen : base.get? e = none)
    (h : ∀ h', StepX base (env :: outer) e C dx .none s.heap h' → Q () { s with heap := h' }) : wpAny M A (leaving env (.ref e)) Q E s := by
  unfold leaving
  exact wpAny_bind (note_on_X hfr hl hf ht hkb hen fun h₁ S1 => flight_X S1.1 S1.2.1 S1.2.2.1 fun h₂ S2 => h h₂ ⟨S2.1, S2.2.1, S2.2.2.1, S1.2.2.2.trans S2.2.2.2⟩)
end
end
section
open PySem PySem.W PySem.Calls PyProof.Rows PyProof.V
set_option maxRecDepth 100000
section
variable {M : Model} {A : Around} {E : Value → Shared → Prop} {s : Shared} {base h hh : Heap} {env : Env} {fr : List Env} {L e dx t : Addr} {x : Int} {m : Str → Option Value} {Q : Unit → Shared → Prop}
theorem fly_first (F : Fr h L hh m) (hf : env.frame = some L) (hk : env.scope.kind ≠ .module) (hfr : A.frames = some (env :: fr)) (hkb : base.StaysIn h) (hFF : h.FunFrames base fr)
    (k : ∀ b o, hh.get? b = some o → s.heap.get? b = some o) (hne : hh.get? e = none) (hnd : hh.get? dx = none) (hed : e ≠ dx) (he : s.heap.get? e = some (excN t (some dx))) (hd : TwoDict s.heap dx x)
    (hq : ∀ h', Flown base fr h h' e x → Q () { s with heap := h' }) : wpAny M A (leaving env (.ref e)) Q E s := by
  have hkk : ∀ b o, h.get? b = some o → s.heap.get? b = some o := fun b o q => k b o (F.keep b o q)
  have st : base.StaysIn s.heap := fun b o q => hkk b o (hkb b o q)
  have hbL : base.get? L = none := by
    cases hq : base.get? L with
    | none => rfl
    | some o => exact absurd (Nat.lt_of_lt_of_le (Heap.lt_size (hkb L o hq)) F.above) (Nat.lt_irrefl _)
  have nsS : s.heap.Ns L m := by
    obtain ⟨o, es, ep, ho, r⟩ := F.ns
    exact ⟨o, es, ep, k _ _ ho, r⟩
  have FF : s.heap.FunFrames base (env :: fr) := .cons hk hf nsS hbL (hFF.of_keeps fun b o q _ => ⟨o, hkk b o q, rfl⟩)
  have FFh : hh.FunFrames base (env :: fr) := .cons hk hf F.ns hbL (hFF.of_keeps fun b o q _ => ⟨o, F.keep b o q, rfl⟩)
  generalize hfs : (env :: fr).filterMap (·.frame) = fs at *
  have hin : ∀ v ∈ (env :: fr), ∀ b, v.frame = some b → b ∈ e :: fs := fun v hv b hb => .tail _ (hfs ▸ List.mem_filterMap.mpr ⟨v, hv, hb⟩)
  have stB : base.StaysIn (hideAll s.heap (e :: fs)) := fun b o q => hideAll_get _ (st b o q) fun hm => by
    rcases List.mem_cons.mp hm with rfl | hm
    · have := hkb _ _ q; have := F.keep _ _ this; rw [hne] at this; cases this
    · rw [(FF.mem (hfs.symm ▸ hm)).1] at q; cases q
  have hdB : (hideAll s.heap (e :: fs)).get? dx = s.heap.get? dx := by
    obtain ⟨_, _, _, _, _, _, _, _, _, _, hdd⟩ := hd
    rw [hdd]
    refine hideAll_get _ hdd fun hm => ?_
    rcases List.mem_cons.mp hm with q | hm
    · exact hed q.symm
    · obtain ⟨_, o, ho, _⟩ := FFh.mem (hfs.symm ▸ hm)
      rw [hnd] at ho; cases ho
  have bn : ∀ y, hh.get? y = none → base.get? y = none := fun y q => fresh_pre (fun b o z => F.keep b o (hkb b o z)) q
  refine leave_first_X (base := hideAll s.heap (e :: fs)) hfr (funFrames_hide FF hin) hf he (fun b o q => of_hideAll _ q) (hideAll_none _ (.head _)) fun h' S => hq h' ?_
  exact ⟨(Heap.UpToSlots.of_keeps hkk).trans S.2.2.2, _, dx, stB, bn _ hnd, bn _ hne, by unfold TwoDict; rw [hdB]; exact hd, hideAll_none _ (.head _), S.1, S.2.1.2.2, S.2.2.1⟩
theorem fly_on (hf : env.frame = some L) (hfr : A.frames = some (env :: fr)) (FL : Flown base (env :: fr) h s.heap e x)
    (hq : ∀ h', Flown base fr h h' e x → Q () { s with heap := h' }) : wpAny M A (leaving env (.ref e)) Q E s := by
  obtain ⟨hu, B, dx, stB, n1, n2, hd, n3, hs, hF, hT⟩ := FL
  refine leave_on_X hfr hF hf hT hs n3 fun h' S => hq h' ?_
  exact ⟨hu.trans S.2.2.2, B, dx, stB, n1, n2, hd, n3, S.1, S.2.1.2.2, S.2.2.1⟩
end
end
section
open PySem PySem.W PySem.Calls PyProof.Rows PyProof.V Builtin
set_option maxRecDepth 100000
section
variable {prog : Program} {w : World} {A : Around} {E : Value → Shared → Prop} {s : Shared} {K : Frag} {x : Addr} {ox : Obj} {od : Option Obj} {name : Str} {expr : Bool} {Q : Value → Shared → Prop}
theorem check_ga52 {h : Heap} {g : Array GenState} {d : Drawn} {t : Nat} {os : OsState} {nameV : Value} {Q : Unit → Shared → Prop} (hC : h.get? 52 = some o52) (hx : h.get? x = some ox) (hc : ox.cls = .ref 52) (hq : Q () ⟨h, g, d, t, os⟩) :
    wpAny (model prog w) A (checkBuiltinCall "BaseException.__getattribute__" ⟨[.ref x, nameV], []⟩) Q E ⟨h, g, d, t, os⟩ := by
  have hk : builtinKind "BaseException.__getattribute__" = some .slot := by decide +kernel
  have hsplit : splitId "BaseException.__getattribute__" = some ("BaseException", "__getattribute__") := by decide +kernel
  have hcB : (Value.ref 52 :: bm52).contains (.type "BaseException") = true := by decide +kernel
  have ha := F.args_bexc_ga (.ref x) nameV
  simp only [checkBuiltinCall, hk, hsplit]
  refine wpAny_bind ?_
  · unfold isInstance
    repeat (first | (with_reducible refine wpAny_loadPart_at hx ?_; rw [hc]) | (with_reducible refine wpAny_isSubtype_exc hC ?_; rw [hcB]) | wp_step)
    exact hq

theorem get52 {v : Value} (X : K.In s.heap) (hC : s.heap.get? 52 = some o52) (I : InstAt s.heap x ox 52 od) (hga : findIn K (.ref 52) "__getattribute__" = some (some (.builtin "BaseException.__getattribute__"))) (hgt : findIn K (.ref 52) "__getattr__" = some none)
    (hf : findObj K 52 od name = some (.value v)) (hh : handedIn v = true) (h : Q v { s with toks := s.toks + 1 }) : wpAny (model prog w) A (getAttr (.ref x) name expr) Q E s := by
  have FB := PySem.F.attrBase_Exception
  obtain ⟨hp, g, d, t, os⟩ := s
  have L0 := I.type (M := model prog w)
  have L1 := looks_findIn (M := model prog w) X hga
  have L2 := looks_findIn (M := model prog w) X hgt
  have L3 := looks_find (M := model prog w) X I hf
  have hx0 : (expr && onTheHeap (Value.builtin "BaseException.__getattribute__")) = false := by cases expr <;> rfl
  have hx2 : (Value.builtin "BaseException.__getattribute__" == Value.builtin "object.__getattribute__") = false := by decide +kernel
  have hx1 : (onTheHeap (Value.ref 52) && Value.builtin "BaseException.__getattribute__" == Value.builtin "object.__getattribute__") = false := by rw [hx2]; rfl
  unfold getAttr getAttrBy
  refine wpAny_bind (wpAny_mkText (wpAny_holding (wpAny_bind (L0.at (wpAny_bind (L1.at ?_))))))
  dsimp only
  rw [hx1, if_neg (by decide)]
  unfold getAttrByItsOwn hookBefore
  refine wpAny_bind ?_
  rw [if_pos (show onTheHeap (Value.ref 52) = true from rfl)]
  refine L2.at (wpAny_bind (wpAny_attempt (wpAny_holding ?_)))
  unfold callGetattribute
  rw [hx0, if_neg (by decide)]
  unfold boundAndCalled
  rw [FB.ga.bind (.ref x)]
  refine wpAny_bind (wpAny_pure (wpAny_call ?_))
  refine codeAny_call_builtin FB.ga.plain PySem.F.entry_bexc_ga (check_ga52 hC I.at_ I.cls ?_)
  refine wpAny_bind (wpAny_pure (wpAny_bind (wpAny_pure (wpAny_bind (L0.at (wpAny_bind (L3.at ?_)))))))
  refine wpAny_pure ?_
  show wpAny _ _ (handedOut v) _ _ _
  rw [handedOut_of hh]; exact wpAny_pure h
end
/-- an own exception met by «except SynthError as n» -/
theorem handle52_as {prog : Program} {w : World} {A : Around} {E : Value → Shared → Prop} {s : Shared} {env : Env} {e : Addr} {t : PySem.Expr} {n : Str} {b₀ : Stmt} {suite : List Stmt} {pos : Pos} {rest : List ExceptHandler} {Q : Flow → Shared → Prop}
    (h : wpAny (model prog w) (A.mark (some (.ref e))) (eval t env) (fun c s₁ => c = .ref 52 ∧ s₁.heap.get? 52 = some o52 ∧ (∃ oe, s₁.heap.get? e = some oe ∧ oe.cls = .ref 52) ∧
      wpAny (model prog w) (A.mark (some (.ref e))) (setFlight (.ref e) none) (fun _ s₂ =>
          wpAny (model prog w) (A.mark (some (.ref e))) (storeName env n (.ref e)) (fun _ s₃ =>
            wpAny (model prog w) (A.mark (some (.ref e))) (execs (b₀ :: suite) env)
              (fun f s₄ => wpAny (model prog w) A (do bindName env n .none; unbindBehindTheSuite env n pos) (fun _ s₅ => Q f s₅) (fun _ _ => False) s₄) (fun _ _ => False) s₃) (fun _ _ => False) s₂) (fun _ _ => False) s₁) (fun _ _ => False) s) :
    wpAny (model prog w) A (handleBy (.ref e) env (.ExceptHandler (some t) (some n) (b₀ :: suite) pos :: rest)) Q E s := by
  refine wpAny_handleBy_cons (codeAny_handlers_test (wpAny_mono h (fun c s₁ h₁ => ?_) fun _ _ x => x.elim)) (by intro q; cases q)
  obtain ⟨rfl, hC, ⟨oe, he, hc⟩, hk⟩ := h₁
  obtain ⟨hp, g, d, tk, os⟩ := s₁
  refine wpAny_excMatches_sub_self hC he hc (by decide +kernel) ?_
  refine codeAny_handlers_suite_as (wpAny_mono hk (fun _ s₂ h₂ => wpAny_mono h₂ (fun _ s₃ h₃ => wpAny_mono h₃ (fun f s₄ h₄ => wpAny_mono h₄ (fun _ _ x => x) fun _ _ x => x.elim) fun _ _ x => x.elim) fun _ _ x => x.elim) fun _ _ x => x.elim)
end
section
open PySem PySem.W PySem.Calls PyProof.Rows PyProof.V
set_option maxRecDepth 100000
example : ∀ w : World, ∀ h, (hd.heap_39 w.params).In h → PySem.Challenge.rw_on0094_01.Holds → True := by k_fill; intros; trivial
local macro_rules | `(tactic| k_ne) => `(tactic| (refine neN ?_; (try dsimp only); first | exact Dis.l (by assumption) | exact Dis.r (by assumption) | omega))
inductive DrI1 (w : World) (a dT : Addr) (N : Nl) (i : Nat) : (Str → Option Value) → List (Addr × Obj) → Prop
  | mk (m : Str → Option Value) (o : Obj) (kvs : List (Int × Value)) (Dt : List (PyData × PyData)) (hm : Agree [(Str.ofString "netlist", .ref a), (Str.ofString "taken", .ref dT)] m) (hd : o.IsDictOf (intKind PR w) kvs) (hf : FlatPairs PyData.int kvs Dt) (hT : ∀ x, (PySem.Spec.lookup (.int x) Dt).isSome = true ↔ x ∈ met0 N i) (hTl : Dt.length ≤ 2 + 20 * i) : DrI1 w a dT N i m [(dT, o)]
inductive DrI2 (w : World) (a dT I : Addr) (io : Obj) (N : Nl) (i : Nat) (ps : List Int) (j : Nat) : (Str → Option Value) → List (Addr × Obj) → Prop
  | mk (m : Str → Option Value) (o : Obj) (kvs : List (Int × Value)) (Dt : List (PyData × PyData)) (hm : Agree [(Str.ofString "netlist", .ref a), (Str.ofString "taken", .ref dT)] m) (hd : o.IsDictOf (intKind PR w) kvs) (hf : FlatPairs PyData.int kvs Dt) (hT : ∀ x, (PySem.Spec.lookup (.int x) Dt).isSome = true ↔ x ∈ met0 N i ++ ps.take j) (hTl : Dt.length ≤ 2 + 20 * i + j) : DrI2 w a dT I io N i ps j m [(I, io), (dT, o)]
inductive DrI3 (w : World) (a dT dF : Addr) (N : Nl) (i : Nat) : (Str → Option Value) → List (Addr × Obj) → Prop
  | mk (m : Str → Option Value) (o : Obj) (kvs : List (Int × Value)) (Dt : List (PyData × PyData)) (oF : Obj) (kvF : List (Int × Value)) (DF : List (PyData × PyData)) (hm : Agree [(Str.ofString "netlist", .ref a), (Str.ofString "taken", .ref dT), (Str.ofString "found", .ref dF)] m) (hd : o.IsDictOf (intKind PR w) kvs) (hf : FlatPairs PyData.int kvs Dt)
    (hT : ∀ x, (PySem.Spec.lookup (.int x) Dt).isSome = true ↔ x ∈ metC N i) (hTl : Dt.length ≤ 100 + i) (hdF : oF.IsDictOf (intKind PR w) kvF) (hfF : FlatPairs PyData.int kvF DF) (hTF : ∀ x, PySem.Spec.lookup (.int x) DF = fndOf N i x) (hTFl : DF.length ≤ i) (hdup : dupOf N = dupFrom (metC N i) (N.cells.drop i)) : DrI3 w a dT dF N i m [(dF, oF), (dT, o)]
set_option maxHeartbeats 4000000 in
theorem drivers_code {w : World} {mg mb : Str → Option Value} {A : Around} {s : Shared} {a : Addr} {N : Nl} {base : Heap} {fr : List Env}
    (hhA : A.handled = none) (HA : Ar 4 A s.heap) (D : Gd w mg mb s.heap) (NA : NetAt s.heap a N) (OK : N.Ok)
    (hfr : A.frames = some fr) (hkb : base.StaysIn s.heap) (hFF : s.heap.FunFrames base fr) :
    codeAny (model PR w) A (.call (.ref 138) ⟨[.ref a], []⟩) (DriversBack w N base fr s) s := by
  refine' enter_exc (binds := [(Str.ofString "netlist", .ref a)]) 3 HA D ?k6 ?k7 ?k9 ?kB ?_ ?c2 ?c3 ?c4 ?c5
  case k6 => k_is
  case k7 => k_is
  case k9 => exact BindsTo.of_eq rfl
  case c5 => decide
  case kB => exact locs rfl
  case c2 => exact rfl
  case c3 => exact rfl
  case c4 => exact rfl
  intro A' L' h₁ hL hh hfr' HA' Fz Nz
  have X := D.K
  have T := D.T
  have hh' : A'.handled = none := hh.trans hhA
  refine NA.use ?_
  intro dx n h1 h2 h3 h4 h5 t1 t2 t3 t4 t5 un uc li lo lc pi po pc HI hli ri hlo ro hlc rc
  have hpc : pc.length = N.cells.length := by simpa using rc.get.1
  have hnc := OK.ncell
  have hnl := D.T.nolimit
  with_reducible show wpAny _ _ _ _ _ _
  k_fold
  repeat' (first | (k_unfold; (try dsimp only)) | walk1 | (dsimp only; walk1) | (leave1; (try dsimp only)))
  refine Dict_made (prog := PR) (w := w) (knd := PySem.intKind PR w) Fz (by rfl) (by rfl) (List.cons_ne_nil _ _) (by decide) (fun F2 => ?_)
  with_reducible show wpAny _ _ _ _ _ _
  repeat' (first | (k_unfold; (try dsimp only)) | walk1 | (dsimp only; walk1) | (leave1; (try dsimp only)))
  rename Fr _ _ _ _ => F1
  rename News _ _ _ _ => N1
  rename FlatPairs _ _ _ => hf1
  rename Obj.IsDictOf _ _ _ => hd1
  rename (_ == sysModules) = false => lo1
  generalize hdT : h₁.objs.size = dT at *
  refine turns_ports (DrI1 w a dT N)
    HA'.hk hli ri F1 N1 (.mk _ _ _ _ ⟨rfl, rfl, trivial⟩ hd1 hf1 ?_ (by decide)) ?_ ?_
  · intro x; rw [met0]; exact taken_start x
  · rintro i p t x l us m₁ _ h tk I io hp ht hl hus ho ⟨o, kvs, Dt, hm, hd, hf, hT, hTl⟩ F Nw
    rw [bnd_of hm] at F
    clear N1 F1 hm hd1 hf1
    change Fr s.heap L' _ _ at F
    change News s.heap L' _ _ at Nw
    have hpl : p.2.length ≤ 20 := OK.pin p (List.mem_of_getElem? hp)
    with_reducible show wpAny _ _ _ _ _ _
    k_fold
    repeat' (first | (k_unfold; (try dsimp only)) | walk1 | (dsimp only; walk1) | (leave1; (try dsimp only)))
    rename Fr _ _ _ _ => F1
    rename News _ _ _ _ => N1
    refine turns_list (DrI2 w a dT I io N i p.2)
      HA'.hk hl F1 N1 (.mk _ _ _ _ ⟨rfl, rfl, trivial⟩ hd hf (by simpa using hT) hTl) ?_ ?_
    · rintro j v m₂ _ h tk I2 io2 hv2 ho2 ⟨o, kvs, Dt, hm, hd, hf, hT, hTl⟩ F Nw
      obtain ⟨z, tz, hz, rfl⟩ := ints_at hus hv2
      have hnz := fresh_net OK hp hz
      have hji : j < 20 := by have := (List.getElem?_eq_some_iff.mp hz).1; omega
      have hii : i < 4 := by have := (List.getElem?_eq_some_iff.mp hp).1; have := OK.nin; omega
      have hno : (PySem.Spec.lookup (.int z) Dt).isSome = false := by
        cases hb : (PySem.Spec.lookup (.int z) Dt).isSome with
        | false => rfl
        | true => exact absurd ((hT z).mp hb) hnz
      have hdI : Dis dT I := ho _ (.head _)
      have hdI2 : Dis dT I2 := ho2 _ (.tail _ (.head _))
      have hII2 : Dis I I2 := ho2 _ (.head _)
      rw [bnd_of hm] at F
      clear N1 F1 hm
      change Fr s.heap L' _ _ at F
      change News s.heap L' _ _ at Nw
      with_reducible show wpAny _ _ _ _ _ _
      k_fold
      repeat' (first | (k_unfold; (try dsimp only)) | walk1 | (dsimp only; walk1) | (leave1; (try dsimp only)))
      rename FlatPairs _ _ (putD _ _ _) => hf2
      rename Obj.IsDictOf _ _ (stored _ _ _) => hd2
      refine' turn_next ?F ?Nn ?hs ?ho ?hj
      case F => assumption
      case Nn => assumption
      case hj => exact .mk _ _ _ _ ⟨rfl, rfl, trivial⟩ hd2 hf2 (by (rw [List.take_add_one, hz, ← List.append_assoc]; exact has_put hT)) (by (have := putD_length_le (.int z) (.bool true) Dt; omega))
      case hs => k_allIn
      case ho => k_all
    · rintro m₂ _ h tk ⟨o, kvs, Dt, hm, hd, hf, hT, hTl⟩ F Nw
      have hul : us.length = p.2.length := hus.length
      rw [hul, List.take_length, met0_next hp] at hT
      have hdI : Dis dT I := ho _ (.head _)
      dsimp only
      repeat' (first | (k_unfold; (try dsimp only)) | walk1 | (dsimp only; walk1) | (leave1; (try dsimp only)))
      refine' turn_next ?F ?Nn ?hs ?ho ?hj
      case F => exact F
      case Nn => exact Nw
      case hj => exact .mk _ _ _ _ hm hd hf hT (by omega)
      case hs => exact fun _ q => q
      case ho => k_all
  · rintro m₁ _ h tk ⟨o, kvs, Dt, hm, hd, hf, hT, hTl⟩ F Nw
    rw [bnd_of hm] at F
    clear N1 F1 hm hd1 hf1
    change Fr s.heap L' _ _ at F
    change News s.heap L' _ _ at Nw
    rw [← metC_zero] at hT
    have hni := OK.nin
    dsimp only
    repeat' (first | (k_unfold; (try dsimp only)) | walk1 | (dsimp only; walk1) | (leave1; (try dsimp only)))
    rename_i dF hz0 oF loF hs0 fs0 hiF fiF hltF hz1 Fq Nq hq tkq t1q u1q v1q R1 F1 N1 kq
    have hne : Dis dF dT := by have := hltF; show @Ne Nat _ _; omega
    refine turns_upto (DrI3 w a dT dF N)
      hh' rfl (n := N.cells.length) (by omega) R1 F1 N1 (.mk _ _ _ _ _ _ _ ⟨rfl, rfl, rfl, trivial⟩ hd hf hT (by omega) hiF fiF (fun x => by simp [PySem.Spec.lookup, fndOf]) (Nat.le_refl _) (by rw [metC_zero, met0_all]; rfl)) ?_ ?_
    · clear Fq Nq kq hd hf hT hTl
      rintro i tt m₁ _ h tk It io hi ho ⟨o, kvs, Dt, oF, kvF, DF, hm, hd, hf, hT, hTl, hdF, hfF, hTF, hTFl, hdup⟩ F Nw
      refine cel_at rc hi ?_
      intro c t x y l us pv hv hc ht hl hus hpv
      have hv' : pc[(i : Int).toNat]? = some (.ref t) := hv
      rw [bnd_of hm] at F
      clear N1 F1 R1 hm
      change Fr s.heap L' _ _ at F
      change News s.heap L' _ _ at Nw
      have hdFI : Dis dF It := ho _ (.head _)
      have hdTI : Dis dT It := ho _ (.tail _ (.head _))
      have hbo := OK.big c (List.mem_of_getElem? hc)
      have hdr : N.cells.drop i = c :: N.cells.drop (i + 1) := List.drop_eq_getElem?_toList_append.trans (by rw [hc]; rfl)
      rw [hdr, dupFrom] at hdup
      with_reducible show wpAny _ _ _ _ _ _
      k_fold
      repeat' (first | (k_unfold; (try dsimp only)) | walk1 | (dsimp only; walk1) | (leave1; (try dsimp only)))
      · rename Option.isSome _ = true => he
        have hin := (hT _).mp he
        rw [if_pos hin] at hdup
        refine Hold.intro (raise_call hh' ?_)
        repeat' (first | (k_unfold; (try dsimp only)) | walk1 | (dsimp only; walk1) | (leave1; (try dsimp only)))
        rename Fr s.heap L' _ _ => FZ
        refine wpAny_call (codeAny_mono (synth_code (mg := mg) (mb := mb) (HA'.keeps FZ.keep) (Gd.keeps ⟨X, T⟩ FZ.keep)) ?_)
        rintro _ _ ⟨e, t, dx, n, h2, tk2, z1, z2, z3, t1, t2, t3, rfl, rfl, k, n1, n2, ne, hxe, hxd⟩
        refine ⟨e, t, some dx, rfl, k _ _ (FZ.keep _ _ (X _ _ (synth_obj w))), hxe, ?_⟩
        k_unfold
        dsimp only
        refine fly_first FZ rfl (fun q => by cases q) (hfr'.trans (by rw [hfr]; rfl)) hkb hFF k n1 n2 ne hxe ⟨_, _, _, _, _, _, _, _, _, _, hxd⟩ fun h' FL => ?_
        exact .inr ⟨c.out, e, h', _, hdup, rfl, rfl, FL⟩
      · rename Option.isSome _ = false => he
        have hni : c.out ∉ metC N i := fun q => by rw [(hT _).mpr q] at he; cases he
        rw [if_neg hni] at hdup
        rename FlatPairs _ _ (putD _ (.bool true) _) => hf2
        rename FlatPairs _ _ (putD _ (.int _) _) => hfF2
        rename Obj.IsDictOf _ _ (stored kvs _ _) => hd2
        rename Obj.IsDictOf _ _ (stored kvF _ _) => hdF2
        have hl1 := putD_length_le (.int c.out) (.bool true) Dt
        have hl2 := putD_length_le (.int c.out) (.int (i : Int)) DF
        refine' turn_next ?F ?Nn ?hs ?ho ?hj
        case F => assumption
        case Nn => assumption
        case hj => exact .mk _ _ _ _ _ _ _ ⟨rfl, rfl, rfl, trivial⟩ hd2 hf2 (by (rw [metC_next hc]; exact has_put hT)) (by omega) hdF2 hfF2 (fun x => by rw [lookup_put, fndOf_next hc hni, hTF]) (by omega) (by rw [metC_next hc]; exact hdup)
        case hs => k_allIn
        case ho => k_all
    · rintro m₁ _ h tk ⟨o, kvs, Dt, oF, kvF, DF, hm, hd, hf, hT, hTl, hdF, hfF, hTF, hTFl, hdup⟩ F Nw
      rw [bnd_of hm] at F
      clear N1 F1 R1 hm
      change Fr s.heap L' _ _ at F
      change News s.heap L' _ _ at Nw
      rw [List.drop_length, dupFrom] at hdup
      dsimp only
      repeat' (first | (k_unfold; (try dsimp only)) | walk1 | (dsimp only; walk1) | (leave1; (try dsimp only)))
      dsimp only
      k_unfold
      dsimp only
      exact .inl ⟨hdup, dF, _, _, rfl, rfl, F.keep, (Nw _ (.head _)).2.2, oF, kvF, DF, (Nw _ (.head _)).1, loF, hdF, hfF, hTF⟩
end
section
open PySem PySem.W PySem.Calls PyProof.Rows PyProof.V
set_option maxRecDepth 100000
example : ∀ w : World, ∀ h, (hd.heap_39 w.params).In h → PySem.Challenge.rw_on0094_01.Holds → True := by k_fill; intros; trivial
local macro_rules | `(tactic| k_ne) => `(tactic| (refine neN ?_; (try dsimp only); first | exact Dis.l (by assumption) | exact Dis.r (by assumption) | omega))
def UsedOk (w : World) (N : Nl) (h : Heap) (d : Addr) : Prop :=
  ∃ (o : Obj) (kvs : List (Int × Value)) (Du : List (PyData × PyData)) (K : List Int), h.get? d = some o ∧ (d == sysModules) = false ∧ o.IsDictOf (intKind PR w) kvs ∧ FlatPairs PyData.int kvs Du ∧ (∀ x, (PySem.Spec.lookup (.int x) Du).isSome = true ↔ x ∈ K) ∧ Du.length ≤ 20 ∧ ∀ x, x ∈ K ↔ ∃ k : Nat, x = (k : Int) ∧ Reach N k
def UsedBack (w : World) (N : Nl) (base : Heap) (l : List Env) (s : Shared) (r : Result) (s' : Shared) : Prop :=
  (dupOf N = none ∧ Ex3 fun d h' tk => r = .ok (.ret (.ref d)) ∧ s' = { s with heap := h', toks := tk } ∧ (∀ b o, s.heap.get? b = some o → h'.get? b = some o) ∧ s.heap.get? d = none ∧ UsedOk w N h' d) ∨
  Ex4 fun x e h' tk => dupOf N = some x ∧ r = .error (.ref e) ∧ s' = { s with heap := h', toks := tk } ∧ Flown base l s.heap h' e x
theorem NetAt.keeps {h h' : Heap} {a : Addr} {N : Nl} (NA : NetAt h a N) (k : ∀ b o, h.get? b = some o → h'.get? b = some o) : NetAt h' a N :=
  NA.use fun dx n h1 h2 h3 h4 h5 t1 t2 t3 t4 t5 un uc li lo lc pi po pc HI hli ri hlo ro hlc rc => ⟨dx, n, h1, h2, h3, h4, h5, t1, t2, t3, t4, t5, un, uc, li, lo, lc, pi, po, pc, InstAt.keeps' HI k, hli.at fun o e => k li o e, ri.keeps k, hlo.at fun o e => k lo o e, ro.keeps k, hlc.at fun o e => k lc o e, rc.keeps k⟩
theorem DriversBack.use {w : World} {N : Nl} {base : Heap} {l : List Env} {s : Shared} {Q : Result → Shared → Prop}
    (ok : ∀ d h' tk o kvs D, dupOf N = none → (∀ b o, s.heap.get? b = some o → h'.get? b = some o) → s.heap.get? d = none → h'.get? d = some o → (d == sysModules) = false → o.IsDictOf (intKind PR w) kvs → FlatPairs PyData.int kvs D → (∀ x, PySem.Spec.lookup (.int x) D = fndOf N N.cells.length x) → Q (.ok (.ret (.ref d))) { s with heap := h', toks := tk })
    (err : ∀ x e h' tk, dupOf N = some x → Flown base l s.heap h' e x → Q (.error (.ref e)) { s with heap := h', toks := tk }) : ∀ r s', DriversBack w N base l s r s' → Q r s' := by
  rintro _ _ (⟨hdup, d, h₂, tk, rfl, rfl, k2, nD, oD, kvD, DD, hDD, loD, isD, fD, hLD⟩ | ⟨x, e, h₂, tk, hdup, rfl, rfl, FL⟩)
  · exact ok d h₂ tk oD kvD DD hdup k2 nD hDD loD isD fD hLD
  · exact err x e h₂ tk hdup FL
theorem frames_in {base h hh : Heap} {env : Env} {fr : List Env} {L : Addr} {m : Str → Option Value} (F : Fr h L hh m) (hf : env.frame = some L) (hk : env.scope.kind ≠ .module) (hkb : base.StaysIn h) (hFF : h.FunFrames base fr) : hh.FunFrames base (env :: fr) := by
  have hbL : base.get? L = none := by
    cases hq : base.get? L with
    | none => rfl
    | some o => exact absurd (Nat.lt_of_lt_of_le (Heap.lt_size (hkb L o hq)) F.above) (Nat.lt_irrefl _)
  exact .cons hk hf F.ns hbL (hFF.of_keeps fun b o q _ => ⟨o, F.keep b o q, rfl⟩)
theorem flat_int {v : Value} {x : Int} (h : Flat v (.int x)) : ∃ u, v = .int x u := by
  cases h {} with
  | int _ u => exact ⟨u, rfl⟩
theorem last_split {P : List Int} (h : 0 < P.length) : P = P.dropLast ++ [P.getLastD 0] := by
  cases P with
  | nil => cases h
  | cons x P => rw [List.getLastD_cons]; simpa [List.getLast_eq_getLastD] using (List.dropLast_concat_getLast (List.cons_ne_nil x P)).symm
inductive UsI1 (a dD dU dP : Addr) (oU oD : Obj) (N : Nl) (i : Nat) : (Str → Option Value) → List (Addr × Obj) → Prop
  | mk (m : Str → Option Value) (vs : List Value) (n : Nat) (hm : Agree [(Str.ofString "netlist", .ref a), (Str.ofString "driven", .ref dD), (Str.ofString "used", .ref dU), (Str.ofString "pending", .ref dP)] m) (hvs : IntsAre vs (wantedOf N i)) : UsI1 a dD dU dP oU oD N i m [(dP, listOf vs.toArray n), (dU, oU), (dD, oD)]
inductive UsI2 (w : World) (a dD dU dP : Addr) (oD : Obj) (N : Nl) (n : Nat) : (Str → Option Value) → List (Addr × Obj) → Prop
  | mk (m : Str → Option Value) (P K : List Int) (ps : List Value) (n1 : Nat) (o : Obj) (kvs : List (Int × Value)) (Du : List (PyData × PyData)) (hm : Agree [(Str.ofString "netlist", .ref a), (Str.ofString "driven", .ref dD), (Str.ofString "used", .ref dU), (Str.ofString "pending", .ref dP)] m) (hps : IntsAre ps P) (hd : Obj.IsDictOf (intKind PR w) o kvs) (hf : FlatPairs PyData.int kvs Du) (hT : ∀ x, (PySem.Spec.lookup (.int x) Du).isSome = true ↔ x ∈ K)
    (I : UInv N P K) (hn : n = P.length + 21 * mu N.cells.length K) (hl1 : P.length + 20 * mu N.cells.length K ≤ 480) (hl2 : Du.length + mu N.cells.length K ≤ N.cells.length) : UsI2 w a dD dU dP oD N n m [(dP, listOf (List.toArray ps) n1), (dU, o), (dD, oD)]
set_option maxHeartbeats 4000000 in
theorem used_code {w : World} {mg mb : Str → Option Value} {A : Around} {s : Shared} {a : Addr} {N : Nl} {base : Heap} {fr : List Env}
    (hhA : A.handled = none) (HA : Ar 5 A s.heap) (D : Gd w mg mb s.heap) (NA : NetAt s.heap a N) (OK : N.Ok)
    (hfr : A.frames = some fr) (hkb : base.StaysIn s.heap) (hFF : s.heap.FunFrames base fr) :
    codeAny (model PR w) A (.call (.ref 157) ⟨[.ref a], []⟩) (UsedBack w N base fr s) s := by
  refine' enter_exc (binds := [(Str.ofString "netlist", .ref a)]) 4 HA D ?k6 ?k7 ?k9 ?kB ?_ ?c2 ?c3 ?c4 ?c5
  case k6 => k_is
  case k7 => k_is
  case k9 => exact BindsTo.of_eq rfl
  case c5 => decide
  case kB => exact locs rfl
  case c2 => exact rfl
  case c3 => exact rfl
  case c4 => exact rfl
  intro A' L' h₁ hL hh hfr' HA' Fz Nz
  have X := D.K
  have T := D.T
  have hh' : A'.handled = none := hh.trans hhA
  change Fr s.heap _ _ _ at Fz
  refine NA.use ?_
  intro dx n h1 h2 h3 h4 h5 t1 t2 t3 t4 t5 un uc li lo lc pi po pc HI hli ri hlo ro hlc rc
  with_reducible show wpAny _ _ _ _ _ _
  k_fold
  repeat' (first | (k_unfold; (try dsimp only)) | walk1 | (dsimp only; walk1) | (leave1; (try dsimp only)))
  refine Hold.intro (wpAny_call (codeAny_mono (drivers_code (mg := mg) (mb := mb) (base := base) hh' (HA'.keeps Fz.keep) (Gd.keeps ⟨X, T⟩ Fz.keep) (NA.keeps Fz.keep) OK (hfr'.trans (by rw [hfr]; rfl)) (fun b o q => Fz.keep b o (hkb b o q)) (frames_in Fz rfl (fun q => by cases q) hkb hFF)) (DriversBack.use ?ok ?err)))
  case err =>
    intro x e h₂ tk hdup FL
    dsimp only
    refine fly_on rfl (hfr'.trans (by rw [hfr]; rfl)) (h := s.heap) ⟨(Heap.UpToSlots.of_keeps Fz.keep).trans FL.1, FL.2⟩ fun h' FL' => ?_
    exact .inr ⟨x, e, h', _, hdup, rfl, rfl, FL'⟩
  intro dD h₂ tk oD kvD DD hdup k2 nD hDD loD isD fD hLD
  have F1 : Fr s.heap L' h₂ _ := Fz.keeps k2
  have N1 : News s.heap L' h₂ [(dD, oD)] := fun p hp => by
    rcases List.mem_singleton.mp hp with rfl
    refine ⟨hDD, ?_, fresh_pre Fz.keep nD⟩
    intro q
    obtain ⟨o, _, _, ho, _⟩ := Fz.ns
    change h₁.get? dD = none at nD
    rw [show dD = L' from q, ho] at nD
    cases nD
  clear Fz Nz hL hDD
  dsimp only
  repeat' (first | (k_unfold; (try dsimp only)) | walk1 | (dsimp only; walk1) | (leave1; (try dsimp only)))
  rename Fr _ _ _ _ => F2
  rename News _ _ _ _ => N2
  rename_i dU _ oU loU i1 i2 i3 i4 i5 i6 dP i7 hFP hNP
  rename Obj.IsDictOf _ oU _ => hdU
  rename FlatPairs _ _ [] => hfU
  rename dD < dU => hltU
  have hne1 : Dis dP dU := by have := hFP.1; show @Ne Nat _ _; omega
  have hne2 : Dis dP dD := by have := hFP.2; show @Ne Nat _ _; omega
  have hne3 : Dis dU dD := by have := hltU; show @Ne Nat _ _; omega
  refine turns_ports (UsI1 a dD dU dP oU oD N) HA'.hk hlo ro F2 N2 (.mk _ [] _ ⟨rfl, rfl, rfl, rfl, trivial⟩ .nil) ?_ ?_
  · rintro i p t x l us m₁ _ h tk I io hp ht hl hus ho ⟨vs, n', hm, hvs⟩ F Nw
    rw [bnd_of hm] at F
    clear N2 F2 hm
    change Fr s.heap L' _ _ at F
    change News s.heap L' _ _ at Nw
    have hvl : (wantedOf N i).length ≤ 80 := netsOf_take_len i OK.pout OK.nout
    have hdI1 : Dis dP I := ho _ (.head _)
    have hdI2 : Dis dU I := ho _ (.tail _ (.head _))
    have hdI3 : Dis dD I := ho _ (.tail _ (.tail _ (.head _)))
    have hpl : p.2.length ≤ 20 := OK.pout p (List.mem_of_getElem? hp)
    have hus1 : us.length ≤ 20 := by rw [hus.length]; exact hpl
    have hvs1 : vs.length ≤ 80 := by rw [hvs.length]; exact hvl
    with_reducible show wpAny _ _ _ _ _ _
    k_fold
    repeat' (first | (k_unfold; (try dsimp only)) | walk1 | (dsimp only; walk1) | (leave1; (try dsimp only)))
    rename_i nq _ _
    refine' turn_next ?F ?Nn ?hs ?ho ?hj
    case F => assumption
    case Nn => assumption
    case hj => exact .mk _ _ nq ⟨rfl, rfl, rfl, rfl, trivial⟩ (wantedOf_next hp ▸ hvs.append hus)
    case hs => k_allIn
    case ho => k_all
  · rintro m₁ _ h tk ⟨vs, n', hm, hvs⟩ F Nw
    rw [bnd_of hm] at F
    clear N2 F2 hm
    change Fr s.heap L' _ _ at F
    change News s.heap L' _ _ at Nw
    have hpc : pc.length = N.cells.length := by simpa using rc.get.1
    have hnc := OK.ncell
    dsimp only
    repeat' (first | (k_unfold; (try dsimp only)) | walk1 | (dsimp only; walk1) | (leave1; (try dsimp only)))
    rename Fr _ _ _ _ => F1
    rename News _ _ _ _ => N1
    have hU := dup_uniq hdup
    have hwl : (wantedOf N N.outputs.length).length ≤ 80 := netsOf_take_len N.outputs.length OK.pout OK.nout
    refine Hold.intro (While_inv (UsI2 w a dD dU dP oD N)
      F1 N1 (.mk _ _ [] vs _ oU _ [] ⟨rfl, rfl, rfl, rfl, trivial⟩ hvs hdU hfU (fun x => by simp [PySem.Spec.lookup]) ?_ rfl (by rw [mu_nil]; omega) (by rw [mu_nil]; simp)) ?_)
    · rw [wantedOf, List.take_length]; exact .start N
    · rintro nn m₁ _ h tk F Nw ⟨P, K, ps, n1, o, kvs, Du, hm, hps, hd, hf, hT, I, hn, hl1, hl2⟩
      rw [bnd_of hm] at F
      clear N1 F1 hm
      have hpl : ps.length = P.length := hps.length
      with_reducible show wpAny _ _ _ _ _ _
      k_fold
      repeat' (first | (k_unfold; (try dsimp only)) | walk1 | (dsimp only; walk1) | (leave1; (try dsimp only)))
      · rename 0 < P.length => hP0
        rename Flat _ _ => hv
        have hPd : P = P.dropLast ++ [P.getLastD 0] := last_split hP0
        rw [hLD] at hv
        have hnet := List.length_dropLast (xs := P)
        cases hq : fndOf N N.cells.length (P.getLastD 0) with
        | none =>
          rw [hq] at hv
          obtain ⟨u, rfl⟩ := flat_int (x := -1) hv
          have I2 := UInv.skip (hPd ▸ I) (fnd_none hq K)
          repeat' (first | (k_unfold; (try dsimp only)) | walk1 | (dsimp only; walk1) | (leave1; (try dsimp only)))
          refine while_next (led' := [(dP, listOf (List.toArray ps.dropLast) (n1 + 1)), (dU, o), (dD, oD)]) (P.dropLast.length + 21 * mu N.cells.length K) (by assumption) (by assumption) (fun _ q => q) (by omega) (.mk _ P.dropLast K ps.dropLast (n1 + 1) o kvs Du ⟨rfl, rfl, rfl, rfl, trivial⟩ (by assumption) hd hf hT I2 rfl (by omega) (by omega))
        | some kd =>
          obtain ⟨k, c, rfl, hc, hco⟩ := fnd_some hq
          rw [hq] at hv
          obtain ⟨u, rfl⟩ := flat_int (x := (k : Int)) hv
          refine cel_have rc hc ?_
          intro t x y l us pv hvc ht hl hus hpv
          have hv' : pc[(k : Int).toNat]? = some (.ref t) := hvc
          have hcl := OK.cin c (List.mem_of_getElem? hc)
          have hul : us.length ≤ 20 := by rw [hus.length]; exact hcl
          have hkl := (List.getElem?_eq_some_iff.mp hc).1
          have hdl : ps.dropLast.length ≤ 480 := by rw [List.length_dropLast]; omega
          repeat' (first | (k_unfold; (try dsimp only)) | walk1 | (dsimp only; walk1) | (leave1; (try dsimp only)))
          · rename Option.isSome _ = true => he
            have hm2 : Met N K (P.getLastD 0) := fun k' c' h1 h2 => by rw [hU k' k c' c h1 hc (h2.trans hco.symm)]; exact (hT _).mp he
            have I2 := UInv.skip (hPd ▸ I) hm2
            refine while_next (led' := [(dP, listOf (List.toArray ps.dropLast) (n1 + 1)), (dU, o), (dD, oD)]) (P.dropLast.length + 21 * mu N.cells.length K) (by assumption) (by assumption) (fun _ q => q) (by omega) (.mk _ P.dropLast K ps.dropLast (n1 + 1) o kvs Du ⟨rfl, rfl, rfl, rfl, trivial⟩ (by assumption) hd hf hT I2 rfl (by omega) (by omega))
          · rename Option.isSome _ = false => he
            have hni : (k : Int) ∉ K := fun q => by rw [(hT _).mpr q] at he; cases he
            have hmu := mu_add hkl hni
            have I2 : UInv N (P.dropLast ++ c.ins) (K ++ [(k : Int)]) := UInv.take (by rw [hco]; exact hPd ▸ I) hU hc
            rename Obj.IsDictOf _ _ (stored kvs _ _) => hd2
            rename FlatPairs _ _ (putD _ _ _) => hf2
            rename IntsAre ps.dropLast _ => hI3
            have hl3 := putD_length_le (.int (k : Int)) (.bool true) Du
            rename_i nq _ _
            refine while_next (led' := [(dP, listOf (List.toArray (ps.dropLast ++ us)) nq), (dU, _), (dD, oD)]) ((P.dropLast ++ c.ins).length + 21 * mu N.cells.length (K ++ [(k : Int)])) (by assumption) (by assumption) (fun _ q => q) (by rw [List.length_append]; omega) (.mk _ (P.dropLast ++ c.ins) (K ++ [(k : Int)]) (ps.dropLast ++ us) nq _ _ _ ⟨rfl, rfl, rfl, rfl, trivial⟩ (hI3.append hus) hd2 hf2 (has_put hT) I2 rfl (by rw [List.length_append]; omega) (by omega))
      · rename ¬0 < P.length => hP0
        obtain rfl : P = [] := List.eq_nil_of_length_eq_zero (by omega)
        dsimp only
        exact .inl ⟨hdup, dU, _, _, rfl, rfl, F.keep, (Nw _ (.tail _ (.head _))).2.2, o, kvs, Du, K, (Nw _ (.tail _ (.head _))).1, loU, hd, hf, hT, by omega, I.end⟩
end
local macro_rules | `(tactic| walk_at "call type:tuple") => `(tactic| ((with_reducible show wpAny _ _ (call (Value.type _) [Value.ref _]) _ _ _); (refine' kde_tupleOf ?k1 ?k2 ?k3 ?k4 ?k5 ?_; (case k1 => assumption); (case k2 => assumption); (case k3 => first | exact News.isList (by assumption) (by k_mem) | exact Heap.IsList.at (by assumption) (Fr.keep (by assumption) _)); (case k4 => (simp only [List.size_toArray]; omega)); (case k5 => exact rfl)); intro D' h' F' N' l1; (try k_lt l1); (try k_sweep)))
local macro_rules | `(tactic| walk_at "call type:list") => `(tactic| ((with_reducible show wpAny _ _ (call (Value.type _) [Value.ref _]) _ _ _); (refine' list_copyK ?k1 ?k2 ?k3 ?_ ?z; (case k1 => assumption); (case k2 => assumption); (case k3 => first | exact News.isList (by assumption) (by k_mem) | exact Heap.IsList.at (by assumption) (Fr.keep (by assumption) _)); (case z => (simp only [sizeLine_eq, List.size_toArray]; omega))); intro D' c' h' F' N' l1; (try k_lt l1); (try k_sweep)))
section
open PySem PySem.W PySem.Calls PyProof.Rows PyProof.V
set_option maxRecDepth 100000
example : ∀ w : World, ∀ h, (hd.heap_39 w.params).In h → PySem.Challenge.rw_on0094_01.Holds → True := by k_fill; intros; trivial
local macro_rules | `(tactic| walk_at "exec While Compare cons nil") => `(tactic| refine Hold.of ?_)
local macro_rules | `(tactic| walk_at "compareOp In int ref") => `(tactic| (refine in_intTab (TabAt.ofFr (by assumption) (by assumption)) ?_))
local macro_rules | `(tactic| walk_at "compareOp NotIn int ref") => `(tactic| (refine notin_intTab (TabAt.ofFr (by assumption) (by assumption)) ?_))
def FinalBack (x : Int) (u : Tok) (s : Shared) (r : Result) (s' : Shared) : Prop :=
  Ex2 fun h' tk => r = .ok (.ret (.int x u)) ∧ s' = { s with heap := h', toks := tk } ∧ (∀ b o, s.heap.get? b = some o → h'.get? b = some o)
set_option maxHeartbeats 4000000 in
theorem final_code {w : World} {mg mb : Str → Option Value} {A : Around} {s : Shared} {d : Addr} {x : Int} {u : Tok}
    (HA : Ar 1 A s.heap) (D : Gd w mg mb s.heap) (hT : TabAt (intKind PR w) PyData.int s.heap d []) :
    codeAny (model PR w) A (.call (.ref 145) ⟨[.ref d, .int x u], []⟩) (FinalBack x u s) s := by
  refine' enter_pure (binds := [(Str.ofString "replaced", .ref d), (Str.ofString "net", .int x u)]) 0 [] (by intro p hp; cases hp) HA D ?k6 ?k7 ?k9 ?kB ?_ ?c2 ?c3 ?c4 ?c5
  case k6 => k_is
  case k7 => k_is
  case k9 => exact BindsTo.of_eq rfl
  case c5 => decide
  case kB => exact locs rfl
  case c2 => exact rfl
  case c3 => exact rfl
  case c4 => exact rfl
  intro A' L' h₁ hL hh HA' Fz Nz hk
  have X := D.K
  have T := D.T
  change Fr s.heap _ _ _ at Fz
  change News s.heap _ _ _ at Nz
  change Ar 0 A' s.heap at HA'
  with_reducible show wpAny _ _ _ _ _ _
  k_fold
  repeat' (first | (k_unfold; (try dsimp only)) | walk1 | (dsimp only; walk1) | (leave1; (try dsimp only)))
  refine Hold.intro (While_inv (fun n m led => Agree [(Str.ofString "replaced", .ref d), (Str.ofString "net", .int x u)] m ∧ led = []) (n₀ := 0) Fz Nz ⟨⟨rfl, rfl, trivial⟩, rfl⟩ ?_)
  rintro nn m₁ _ h tk F Nw ⟨hm, rfl⟩
  rw [bnd_of hm] at F
  with_reducible show wpAny _ _ _ _ _ _
  k_fold
  repeat' (first | (k_unfold; (try dsimp only)) | walk1 | (dsimp only; walk1) | (leave1; (try dsimp only)))
  · rename Option.isSome _ = true => he
    cases he
  · dsimp only
    k_unfold
    dsimp only
    exact ⟨_, _, rfl, rfl, F.keep⟩

/-- a value that reads as d wherever the base and some objects of one's own stay -/
def Mk (b : Heap) (ts : List (Addr × Obj)) (v : Value) (d : PyData) : Prop := ∀ h : Heap, (∀ a o, b.get? a = some o → h.get? a = some o) → (∀ p ∈ ts, h.get? p.1 = some p.2) → Rd h v d
abbrev netD (h1 h2 h3 h4 h5 : Int) (t1 t2 t3 t4 t5 : Tok) (nm : Value) (ct : Value) (li lo lc : Addr) : List DictEntry :=
  [⟨h1, .str (Str.ofString "name") t1, nm⟩, ⟨h2, .str (Str.ofString "count") t2, ct⟩, ⟨h3, .str (Str.ofString "inputs") t3, .ref li⟩, ⟨h4, .str (Str.ofString "outputs") t4, .ref lo⟩, ⟨h5, .str (Str.ofString "cells") t5, .ref lc⟩]
def GrownBack (lc : Addr) (cs : List Value) (b₀ : Heap) (ts₀ : List (Addr × Obj)) (d : PyData) (s : Shared) (r : Result) (s' : Shared) : Prop :=
  Ex5 fun v h' tk k' ts => r = .ok (.ret .none) ∧ s' = { s with heap := h', toks := tk } ∧ (∀ b o, s.heap.get? b = some o → b ≠ lc → h'.get? b = some o) ∧ h'.get? lc = some (listOf (List.toArray (cs ++ [v])) k') ∧
    (∀ p ∈ ts, h'.get? p.1 = some p.2 ∧ s.heap.get? p.1 = none) ∧ Mk b₀ (ts ++ ts₀) v d
theorem hide_none {h : Heap} {a b : Addr} (e : (hideAll h [a]).get? b = none) (ne : b ≠ a) : h.get? b = none := by
  cases q : h.get? b with
  | none => rfl
  | some o => rw [hideAll_get [a] q (by simpa using ne)] at e; cases e
theorem mk_cel {b : Heap} {kd : Str} {kt : Tok} {out : Int} {ot : Tok} {pv : Value} {pd : PyData} {us : List Value} {ins : List Int} {t l2 : Addr} {ts₀ : List (Addr × Obj)} (hp : Mk b ts₀ pv pd) (hu : IntsAre us ins) :
    Mk b ([(t, { cls := .type "tuple", data := .seq #[.str kd kt, .int out ot, .ref l2, pv] }), (l2, { cls := .type "tuple", data := .seq us.toArray })] ++ ts₀) (.ref t) (encCel ⟨kd, out, ins, pd⟩) := fun h k1 k2 => by
  obtain ⟨as, hp⟩ := hp h k1 fun p hm => k2 p (List.mem_append_right _ hm)
  have e2 : Reads h (.ref l2) (.tuple (ins.map .int)) [] := .tuple (k2 _ (.tail _ (.head _))) rfl rfl (hu.reads h)
  exact ⟨_, .tuple (k2 _ (.head _)) rfl rfl (.cons (.str _ _) (.cons (.int _ _) (.cons e2 (.cons hp .nil))))⟩
theorem mk_port {b : Heap} {kd : Str} {kt : Tok} {us : List Value} {ins : List Int} {t l2 : Addr} {n : Nat} (hu : IntsAre us ins) :
    Mk b ([(t, { cls := .type "tuple", data := .seq #[.str kd kt, .ref l2] }), (l2, listOf us.toArray n)] ++ []) (.ref t) (encPort (kd, ins)) := fun h k1 k2 => by
  have e2 : Reads h (.ref l2) (.list (ins.map .int)) _ := .list (k2 _ (.tail _ (.head _))) rfl rfl (hu.reads h)
  exact ⟨_, .tuple (k2 _ (.head _)) rfl rfl (.cons (.str _ _) (.cons e2 .nil))⟩
set_option maxHeartbeats 4000000 in
theorem drive_code {w : World} {mg mb : Str → Option Value} {A : Around} {s : Shared} {a dx lc li lo : Addr} {n k : Nat} {h1 h2 h3 h4 h5 : Int} {t1 t2 t3 t4 t5 : Tok} {nm ct pv : Value} {cs us : List Value} {kd : Str} {kt : Tok} {out : Int} {ot : Tok} {l : Addr} {ins : List Int} {pd : PyData}
    (HA : Ar 1 A (hideAll s.heap [lc])) (D : Gd w mg mb (hideAll s.heap [lc])) (HI : InstAt (hideAll s.heap [lc]) a (instObj 127 dx) 127 (some (dictOf (netD h1 h2 h3 h4 h5 t1 t2 t3 t4 t5 nm ct li lo lc) n)))
    (hlc : s.heap.get? lc = some (listOf cs.toArray k)) (hl : (hideAll s.heap [lc]).IsList l us.toArray) (hu : IntsAre us ins) (hz : us.length ≤ 100) (hcz : cs.length ≤ 1000) {b₀ : Heap} {ts₀ : List (Addr × Obj)} (hp : Mk b₀ ts₀ pv pd) :
    codeAny (model PR w) A (.call (.ref 110) ⟨[.ref a, .int out ot, .str kd kt, .ref l, pv], []⟩) (GrownBack lc cs b₀ ts₀ (encCel ⟨kd, out, ins, pd⟩) s) s := by
  refine' enter_pure (binds := [(Str.ofString "self", .ref a), (Str.ofString "out", .int out ot), (Str.ofString "kind", .str kd kt), (Str.ofString "ins", .ref l), (Str.ofString "param", pv)]) 0 [(lc, listOf cs.toArray k)] (by intro p hp; cases hp with | head => exact hlc | tail _ h => cases h) HA D ?k6 ?k7 ?k9 ?kB ?_ ?c2 ?c3 ?c4 ?c5
  case k6 => k_is
  case k7 => k_is
  case k9 => exact binds_K (fun b o e => of_hideAll _ (D.K b o e)) rfl (by k_is) rfl rfl rfl
  case c5 => decide
  case kB => exact locs rfl
  case c2 => exact rfl
  case c3 => exact rfl
  case c4 => exact rfl
  intro A' L' h₁ hL hh HA' F N hk
  have X := D.K
  have T := D.T
  change Fr (hideAll s.heap [lc]) _ _ _ at F
  change News (hideAll s.heap [lc]) _ _ _ at N
  change Ar 0 A' (hideAll s.heap [lc]) at HA'
  with_reducible show wpAny _ _ _ _ _ _
  k_fold
  repeat' (first | (k_unfold; (try dsimp only)) | walk1 | (dsimp only; walk1) | (leave1; (try dsimp only)))
  rename lc < _ => l1
  rename _ < _ ∧ lc < _ => l2
  rename Fr _ _ _ _ => F
  rename News _ _ _ _ => N
  have e1 := N _ (.head _)
  have e2 := N _ (.tail _ (.head _))
  rename_i D1 _ D2 _ _
  refine ⟨.ref D2, _, _, k + 1, _, rfl, rfl, fun b o e ne => F.keep b o (hideAll_get [lc] e (by simpa using ne)), ?_, ?_, mk_cel (t := D2) (l2 := D1) (kt := kt) (ot := ot) hp hu⟩
  · rw [← List.push_toArray]
    exact (N _ (.tail _ (.tail _ (.head _)))).1
  · intro p hp
    rcases List.mem_cons.mp hp with rfl | hp
    · exact ⟨e1.1, hide_none e1.2.2 (Nat.ne_of_gt l2.2)⟩
    · rcases List.mem_singleton.mp hp with rfl
      exact ⟨e2.1, hide_none e2.2.2 (Nat.ne_of_gt l1)⟩
set_option maxHeartbeats 4000000 in
theorem addout_code {w : World} {mg mb : Str → Option Value} {A : Around} {s : Shared} {a dx lc li lo : Addr} {n k : Nat} {h1 h2 h3 h4 h5 : Int} {t1 t2 t3 t4 t5 : Tok} {nm ct : Value} {cs us : List Value} {kd : Str} {kt : Tok} {l : Addr} {ins : List Int}
    (HA : Ar 1 A (hideAll s.heap [lo])) (D : Gd w mg mb (hideAll s.heap [lo])) (HI : InstAt (hideAll s.heap [lo]) a (instObj 127 dx) 127 (some (dictOf (netD h1 h2 h3 h4 h5 t1 t2 t3 t4 t5 nm ct li lo lc) n)))
    (hlc : s.heap.get? lo = some (listOf cs.toArray k)) (hl : (hideAll s.heap [lo]).IsList l us.toArray) (hu : IntsAre us ins) (hz : us.length ≤ 100) (hcz : cs.length ≤ 1000) (b₀ : Heap) :
    codeAny (model PR w) A (.call (.ref 94) ⟨[.ref a, .str kd kt, .ref l], []⟩) (GrownBack lo cs b₀ [] (encPort (kd, ins)) s) s := by
  refine' enter_pure (binds := [(Str.ofString "self", .ref a), (Str.ofString "name", .str kd kt), (Str.ofString "nets", .ref l)]) 0 [(lo, listOf cs.toArray k)] (by intro p hp; cases hp with | head => exact hlc | tail _ h => cases h) HA D ?k6 ?k7 ?k9 ?kB ?_ ?c2 ?c3 ?c4 ?c5
  case k6 => k_is
  case k7 => k_is
  case k9 => exact BindsTo.of_eq rfl
  case c5 => decide
  case kB => exact locs rfl
  case c2 => exact rfl
  case c3 => exact rfl
  case c4 => exact rfl
  intro A' L' h₁ hL hh HA' F N hk
  have X := D.K
  have T := D.T
  change Fr (hideAll s.heap [lo]) _ _ _ at F
  change News (hideAll s.heap [lo]) _ _ _ at N
  change Ar 0 A' (hideAll s.heap [lo]) at HA'
  with_reducible show wpAny _ _ _ _ _ _
  k_fold
  repeat' (first | (k_unfold; (try dsimp only)) | walk1 | (dsimp only; walk1) | (leave1; (try dsimp only)))
  rename lo < _ => l1
  rename _ < _ ∧ lo < _ => l2
  rename Fr _ _ _ _ => F
  rename News _ _ _ _ => N
  have e1 := N _ (.head _)
  have e2 := N _ (.tail _ (.head _))
  rename_i D1 c1 _ D2 _ _
  refine ⟨.ref D2, _, _, k + 1, _, rfl, rfl, fun b o e ne => F.keep b o (hideAll_get [lo] e (by simpa using ne)), ?_, ?_, mk_port (t := D2) (l2 := D1) (kt := kt) (n := c1) hu⟩
  · rw [← List.push_toArray]
    exact (N _ (.tail _ (.tail _ (.head _)))).1
  · intro p hp
    rcases List.mem_cons.mp hp with rfl | hp
    · exact ⟨e1.1, hide_none e1.2.2 (Nat.ne_of_gt l2.2)⟩
    · rcases List.mem_singleton.mp hp with rfl
      exact ⟨e2.1, hide_none e2.2.2 (Nat.ne_of_gt l1)⟩
end
section
open PySem PySem.W PySem.Calls PyProof.Rows PyProof.V
set_option maxRecDepth 100000
example : ∀ w : World, ∀ h, (hd.heap_39 w.params).In h → PySem.Challenge.rw_on0094_01.Holds → True := by k_fill; intros; trivial
def NewBack (nm : Value) (s : Shared) (r : Result) (s' : Shared) : Prop :=
  Ex20 fun x dx li lo lc h' tk n n1 n2 n3 h1 h2 h3 h4 h5 t1 t2 t3 t4 => Ex2 fun t5 tc => r = .ok (.ret (.ref x)) ∧ s' = { s with heap := h', toks := tk } ∧ (∀ b o, s.heap.get? b = some o → h'.get? b = some o) ∧
    (s.heap.objs.size ≤ dx ∧ dx < x ∧ x < li ∧ li < lo ∧ lo < lc) ∧ h'.get? x = some (instObj 127 dx) ∧ h'.get? dx = some (dictOf (netD h1 h2 h3 h4 h5 t1 t2 t3 t4 t5 nm (.int 2 tc) li lo lc) n) ∧ h'.get? li = some (listOf #[] n1) ∧ h'.get? lo = some (listOf #[] n2) ∧ h'.get? lc = some (listOf #[] n3)
set_option maxHeartbeats 4000000 in
theorem new_code {w : World} {mg mb : Str → Option Value} {A : Around} {s : Shared} {nm : Value} (HA : Ar 3 A s.heap) (D : Gd w mg mb s.heap) :
    codeAny (model PR w) A (.call (.ref 127) ⟨[nm], []⟩) (NewBack nm s) s := by
  obtain ⟨hh, g, d, t, os⟩ := s
  dsimp only at D HA
  have hm : makesIn (hd.heap_39 w.params) 127 = true := by k_is
  have hi : findIn (hd.heap_39 w.params) (.ref 127) "__init__" = some (some (.ref 68)) := by k_is
  have hf : typeIn (hd.heap_39 w.params) (.ref 68) = some (.type "function") := by k_is
  refine make_core (makes_of D.K hm) (looks_findIn D.K hi) (fun self => bind_fn D.K self hf) (.inl rfl) ?_
  have k2 : ∀ b o, hh.get? b = some o → ((hh.push emptyDict).push (instObj 127 hh.objs.size)).get? b = some o := fun b o e => Heap.get?_push_of_some _ (Heap.get?_push_of_some _ e)
  have hx : ((hh.push emptyDict).push (instObj 127 hh.objs.size)).get? (hh.objs.size + 1) = some (instObj 127 hh.objs.size) := by heap_get
  have hdx : ((hh.push emptyDict).push (instObj 127 hh.objs.size)).get? hh.objs.size = some emptyDict := by heap_get
  have hsz : ((hh.push emptyDict).push (instObj 127 hh.objs.size)).objs.size = hh.objs.size + 2 := by rw [Heap.size_push, Heap.size_push]
  have hn : ∀ b o, hh.get? b = some o → b < hh.objs.size := fun b o e => Heap.lt_size e
  generalize hdd : hh.objs.size = dx at *
  generalize hh2 : (hh.push emptyDict).push (instObj 127 dx) = H at *
  clear hh2
  have k3 : ∀ b o, hh.get? b = some o → (hideAll H [dx + 1, dx]).get? b = some o := fun b o q => hideAll_get _ (k2 b o q) fun z => by
    have := hn b o q
    rcases List.mem_cons.mp z with rfl | z
    · exact absurd this (Nat.not_lt.mpr (Nat.le_succ _))
    · rw [List.mem_singleton.mp z] at this; exact absurd this (Nat.lt_irrefl _)
  have HA2 := (HA.made (C := 127) (vals := [nm])).keeps k3
  have D2 := D.keeps k3
  refine' enter_pure (s := ⟨H, g, d, t, os⟩) (binds := [(Str.ofString "self", .ref (dx + 1)), (Str.ofString "name", nm)]) 1 [(dx + 1, instObj 127 dx), (dx, emptyDict)] (by intro p hp; cases hp with | head => exact hx | tail _ h => (cases h with | head => exact hdx | tail _ h => cases h)) HA2 D2 ?k6 ?k7 ?k9 ?kB ?_ ?c2 ?c3 ?c4 ?c5
  case k6 => k_is
  case k7 => k_is
  case k9 => exact BindsTo.of_eq rfl
  case c5 => decide
  case kB => exact locs rfl
  case c2 => rfl
  case c3 => rfl
  case c4 => rfl
  intro A' L' h₁ hL hh' HA' F N hk₁
  have X := D2.K
  have T := D2.T
  change Fr (hideAll H [dx + 1, dx]) L' h₁ _ at F
  change News (hideAll H [dx + 1, dx]) L' h₁ [(dx + 1, instObj 127 dx), (dx, emptyDict)] at N
  have hL2 : L' = dx + 2 := by rw [← hL]; exact hsz
  have hLx : F.ns = F.ns := rfl
  have hne : @Ne Nat (dx + 1) dx := by omega
  generalize hxx : dx + 1 = x at *
  clear D D2 HA HA2
  with_reducible show wpAny _ _ _ _ _ _
  k_fold
  repeat' (first | (k_unfold; (try dsimp only)) | walk1 | (dsimp only; walk1) | (leave1; (try dsimp only)))
  rename Fr _ _ _ _ => F
  rename News _ _ _ _ => N
  rename x < _ ∧ dx < _ => l1
  rename _ < _ ∧ x < _ ∧ dx < _ => l2
  rename _ < _ ∧ _ < _ ∧ x < _ ∧ dx < _ => l3
  have n3 := (N _ (.head _)).1
  have n2 := (N _ (.tail _ (.head _))).1
  have n1 := (N _ (.tail _ (.tail _ (.head _)))).1
  have nx := (N _ (.tail _ (.tail _ (.tail _ (.head _))))).1
  have nd := (N _ (.tail _ (.tail _ (.tail _ (.tail _ (.head _)))))).1
  refine ⟨rfl, x, dx, _, _, _, _, _, _, _, _, _, _, _, _, _, _, _, _, _, _, _, _, rfl, rfl, fun b o q => F.keep _ _ (k3 _ _ q), ⟨Nat.le_of_eq hdd, by rw [← hxx]; exact Nat.lt_succ_self _, l1.1, l2.1, l3.1⟩, nx, nd, n1, n2, n3⟩
end
section
open PySem PySem.W PySem.Calls PyProof.Rows PyProof.V
set_option maxRecDepth 100000
example : ∀ w : World, ∀ h, (hd.heap_39 w.params).In h → PySem.Challenge.rw_on0094_01.Holds → True := by k_fill; intros; trivial
local macro_rules | `(tactic| walk_at "CompSrc") => `(tactic| refine Hold.of ?_)
local macro_rules | `(tactic| walk_at "CompEnd") => `(tactic| refine Hold.of ?_)
local macro_rules | `(tactic| k_allIn) => `(tactic| first | exact List.forall_mem_nil _ | (refine' List.forall_mem_cons.mpr ⟨?ka, ?kb⟩; (case ka => k_mem); (case kb => k_allIn)) | (intro p hp; repeat (first | exact hp | refine List.Mem.tail _ ?_)))
local macro_rules | `(tactic| walk_at "eval ListComp") => `(tactic| refine Hold.of ?_)
local macro_rules | `(tactic| walk_at "compareOp NotIn int ref") => `(tactic| (refine notin_intTab (TabAt.ofFr (by assumption) (by assumption)) ?_))
local macro_rules | `(tactic| k_inst) => `(tactic| first | exact InstAt.keeps' (by assumption) (Fr.keep (by assumption)) | exact InstAt.of_news (by assumption) (by k_mem) (by k_mem))
local macro_rules | `(tactic| k_all) => `(tactic| first | assumption | exact List.forall_mem_nil _ | (refine' List.forall_mem_cons.mpr ⟨?kalla, ?kallb⟩; (case kalla => k_ne); (case kallb => k_all)))
local macro_rules | `(tactic| k_ne) => `(tactic| (refine neN ?_; (try dsimp only); first | exact Dis.l (by assumption) | exact Dis.r (by assumption) | omega))
def MkAll (b : Heap) (ts : List (Addr × Obj)) (vs : List Value) (ds : List PyData) : Prop := ∀ h : Heap, (∀ a o, b.get? a = some o → h.get? a = some o) → (∀ p ∈ ts, h.get? p.1 = some p.2) → RdAll h vs ds
theorem MkAll.nil (b : Heap) (ts : List (Addr × Obj)) : MkAll b ts [] [] := fun _ _ _ => ⟨_, .nil⟩
theorem RdAll.snoc {h : Heap} {v : Value} {d : PyData} : ∀ {vs : List Value} {ds : List PyData}, RdAll h vs ds → Rd h v d → RdAll h (vs ++ [v]) (ds ++ [d])
  | _, _, ⟨_, .nil⟩, ⟨_, r⟩ => ⟨_, .cons r .nil⟩
  | _, _, ⟨_, .cons a b⟩, r => by
    obtain ⟨as, z⟩ := RdAll.snoc ⟨_, b⟩ r
    exact ⟨_, .cons a z⟩
theorem MkAll.snoc {b : Heap} {ts ts' : List (Addr × Obj)} {vs : List Value} {ds : List PyData} {v : Value} {d : PyData} (H : MkAll b ts vs ds) (m : Mk b ts' v d) : MkAll b (ts' ++ ts) (vs ++ [v]) (ds ++ [d]) := fun h k1 k2 =>
  (H h k1 fun p hp => k2 p (List.mem_append_right _ hp)).snoc (m h k1 fun p hp => k2 p (List.mem_append_left _ hp))
theorem MkAll.more {b : Heap} {ts ts' : List (Addr × Obj)} {vs : List Value} {ds : List PyData} (H : MkAll b ts vs ds) : MkAll b (ts' ++ ts) vs ds := fun h k1 k2 => H h k1 fun p hp => k2 p (List.mem_append_right _ hp)
def MkNet (b : Heap) (ts : List (Addr × Obj)) (x : Addr) (N : Nl) : Prop := ∀ h : Heap, (∀ a o, b.get? a = some o → h.get? a = some o) → (∀ p ∈ ts, h.get? p.1 = some p.2) → NetAt h x N
def RebuiltBack (b₀ : Heap) (N : Nl) (cs : List Cel) (s : Shared) (r : Result) (s' : Shared) : Prop :=
  Ex4 fun x ts h' tk => r = .ok (.ret (.ref x)) ∧ s' = { s with heap := h', toks := tk } ∧ (∀ b o, s.heap.get? b = some o → h'.get? b = some o) ∧ (∀ p ∈ ts, h'.get? p.1 = some p.2 ∧ s.heap.get? p.1 = none) ∧ MkNet b₀ ts x { N with cells := cs }
theorem new_at {h₀ h h' : Heap} {L b : Addr} {o : Obj} {m : Str → Option Value} (F : Fr h₀ L h m) (hb : @LE.le Nat _ h.objs.size b) (e : h'.get? b = some o) : h'.get? b = some o ∧ b ≠ L ∧ h₀.get? b = none := by
  refine ⟨e, fun q => ?_, ?_⟩
  · have := F.ns.lt
    rw [← q] at this
    exact absurd this (Nat.not_lt.mpr hb)
  · cases q : h₀.get? b with
    | none => rfl
    | some ob => exact absurd (Heap.lt_size (F.keep _ _ q)) (Nat.not_lt.mpr hb)
theorem News.cons {h₀ h : Heap} {L b : Addr} {o : Obj} {led : List (Addr × Obj)} (e : h.get? b = some o ∧ b ≠ L ∧ h₀.get? b = none) (N : News h₀ L h led) : News h₀ L h ((b, o) :: led) := fun p hp => by
  rcases List.mem_cons.mp hp with rfl | hp
  · exact e
  · exact N p hp
theorem News.up {h₀ h h' : Heap} {L : Addr} {led : List (Addr × Obj)} (N : News h₀ L h led) (k : ∀ b o, h.get? b = some o → h'.get? b = some o) : News h₀ L h' led := fun p hp => ⟨k _ _ (N p hp).1, (N p hp).2⟩
theorem ne_of_up {b c : Addr} {ts : List (Addr × Obj)} (h : ∀ p ∈ ts, @LT.lt Nat _ b p.1) (hc : @LE.le Nat _ c b) : ∀ p ∈ ts, p.1 ≠ c := fun p hp q => by have := h p hp; rw [q] at this; exact absurd this (Nat.not_lt.mpr hc)
theorem NewBack.use {nm : Value} {s : Shared} {Q : Result → Shared → Prop}
    (k : ∀ x dx li lo lc h' tk n n1 n2 n3 h1 h2 h3 h4 h5 t1 t2 t3 t4 t5 tc, (∀ b o, s.heap.get? b = some o → h'.get? b = some o) → @LE.le Nat _ s.heap.objs.size dx → @LT.lt Nat _ dx x → @LT.lt Nat _ x li → @LT.lt Nat _ li lo → @LT.lt Nat _ lo lc →
      h'.get? x = some (instObj 127 dx) → h'.get? dx = some (dictOf (netD h1 h2 h3 h4 h5 t1 t2 t3 t4 t5 nm (.int 2 tc) li lo lc) n) → h'.get? li = some (listOf #[] n1) → h'.get? lo = some (listOf #[] n2) → h'.get? lc = some (listOf #[] n3) → Q (.ok (.ret (.ref x))) { s with heap := h', toks := tk }) : ∀ r s', NewBack nm s r s' → Q r s' := by
  rintro _ _ ⟨x, dxr, lir, lor, lcr, h₂, tk2, n0, n1, n2, n3, z1, z2, z3, z4, z5, u1, u2, u3, u4, u5, tc, rfl, rfl, k2, ⟨e0, e1, e2, e3, e4⟩, ex, edx, eli, elo, elc⟩
  exact k x dxr lir lor lcr h₂ tk2 n0 n1 n2 n3 z1 z2 z3 z4 z5 u1 u2 u3 u4 u5 tc k2 e0 e1 e2 e3 e4 ex edx eli elo elc
theorem FinalBack.use {x : Int} {u : Tok} {s : Shared} {Q : Result → Shared → Prop}
    (k : ∀ h' tk, (∀ b o, s.heap.get? b = some o → h'.get? b = some o) → Q (.ok (.ret (.int x u))) { s with heap := h', toks := tk }) : ∀ r s', FinalBack x u s r s' → Q r s' := by
  rintro _ _ ⟨h3, tk3, rfl, rfl, k3⟩
  exact k h3 tk3 k3
theorem GrownBack.use {lc : Addr} {cs : List Value} {b₀ : Heap} {ts₀ : List (Addr × Obj)} {d : PyData} {s : Shared} {Q : Result → Shared → Prop}
    (k : ∀ v h' tk n' ts, (∀ b o, s.heap.get? b = some o → b ≠ lc → h'.get? b = some o) → h'.get? lc = some (listOf (List.toArray (cs ++ [v])) n') → (∀ p ∈ ts, h'.get? p.1 = some p.2 ∧ s.heap.get? p.1 = none) → Mk b₀ (ts ++ ts₀) v d → Q (.ok (.ret .none)) { s with heap := h', toks := tk }) : ∀ r s', GrownBack lc cs b₀ ts₀ d s r s' → Q r s' := by
  rintro _ _ ⟨v2, h3, tk3, k3, ts2, rfl, rfl, kk, e3, t2, mk⟩
  exact k v2 h3 tk3 k3 ts2 kk e3 t2 mk
section
variable {prog : Program} {w : World} {A : Around} {h₀ : Heap} {L : Addr} {m : Str → Option Value} {env : Env} {elt : PySem.Expr} {x : Str} {scope : Scope} {cl : List (Str × Addr)} {s : Shared} {S : List (Addr × Obj) → Prop} {P : Nat → Value → Prop} {Fin : List Value → List (Addr × Obj) → Prop}
/-- a comprehension over ints whose element is the int itself; the ledger stays -/
theorem comp_ints {us : List Value} {zs : List Int} {news : List (Addr × Obj)} (hus : IntsAre us zs) (hP : ∀ i v, P i v → us[i]? = some v)
    (turn : ∀ i zx zt I oI C oC D m₂ h tk (E' : Value → Shared → Prop), us[i]? = some (.int zx zt) → LCg.NsObj oC m₂ → m₂ x = some (.int zx zt) → Fr h₀ L h m → News h₀ L h ((I, oI) :: (C, oC) :: (D, LCg.lst (us.take i)) :: news) → LCg.Off3 I C D news → @Ne Nat I C → @Ne Nat I D → @Ne Nat C D →
      wpAny (model prog w) A (eval elt (compEnvC scope cl C env)) (LCg.CompEnd h₀ L m { s with heap := h, toks := tk } I oI C oC D (LCg.lst (us.take i)) S (fun y news' => y = .int zx zt ∧ news' = news)) E' { s with heap := h, toks := tk })
    (fin : Fin us news) : LCg.CompRest prog w A h₀ L m env elt x scope cl s S P Fin us.length 0 [] news := by
  refine comp_inv (fun i ys nw => ys = us.take i ∧ nw = news) ⟨rfl, rfl⟩ ?_ ?_
  · rintro i ys nw v I oI C oC D m₂ h tk E' hi ⟨rfl, rfl⟩ hv hC hm F N off q
    have hv' := hP i v hv
    obtain ⟨zx, zt, hz, rfl⟩ := ints_at hus hv'
    refine wpAny_mono (turn i zx zt I oI C oC D m₂ h tk E' hv' hC hm F N off q.1 q.2.1 q.2.2) (fun y s₂ z => ?_) fun _ _ z => z
    obtain ⟨h', tk', news', e, F', N', off', hS, ey, en⟩ := z
    exact ⟨h', tk', news', e, F', N', off', hS, by rw [ey, List.take_add_one, hv']; rfl, en⟩
  · rintro ys nw ⟨rfl, rfl⟩
    rw [List.take_length]
    exact fin
end
/-- the ledger while a netlist is rebuilt: what a turn of a loop may lean on -/
structure RbOff (I x dxr l1 l2 l3 c : Addr) (ts : List (Addr × Obj)) : Prop where
  ha : Dis l1 I
  hb : Dis x I
  hc : Dis dxr I
  hd : Dis l2 I
  he : Dis l3 I
  hf : Dis c I
  hg : ∀ p ∈ ts, p.1 ≠ I
theorem RbOff.of {I x dxr l1 l2 l3 c : Addr} {o1 o2 o3 o4 o5 o6 : Obj} {ts : List (Addr × Obj)} (ho : ∀ p ∈ (l1, o1) :: (x, o2) :: (dxr, o3) :: (l2, o4) :: (l3, o5) :: (c, o6) :: ts, p.1 ≠ I) : RbOff I x dxr l1 l2 l3 c ts :=
  ⟨ho _ (.head _), ho _ (.tail _ (.head _)), ho _ (.tail _ (.tail _ (.head _))), ho _ (.tail _ (.tail _ (.tail _ (.head _)))), ho _ (.tail _ (.tail _ (.tail _ (.tail _ (.head _))))), ho _ (.tail _ (.tail _ (.tail _ (.tail _ (.tail _ (.head _)))))),
    fun p hp => ho p (.tail _ (.tail _ (.tail _ (.tail _ (.tail _ (.tail _ hp))))))⟩
theorem RbOff.all {I x dxr l1 l2 l3 c : Addr} {o1 o2 o3 o4 o5 o6 : Obj} {ts ts2 : List (Addr × Obj)} (R : RbOff I x dxr l1 l2 l3 c ts) (h2 : ∀ p ∈ ts2, p.1 ≠ I) : ∀ p ∈ (l1, o1) :: (x, o2) :: (dxr, o3) :: (l2, o4) :: (l3, o5) :: (c, o6) :: (ts2 ++ ts), p.1 ≠ I := by
  simp only [List.forall_mem_cons, List.forall_mem_append]
  exact ⟨R.ha, R.hb, R.hc, R.hd, R.he, R.hf, h2, R.hg⟩
inductive RbI1 (b₀ : Heap) (a lx x dxr lir lor lcr oL : Addr) (oc : Obj) (N : Nl) (z1 z2 z3 z4 z5 : Int) (u1 u2 u3 u4 u5 un uc : Tok) (n0 : Nat) (n2 n3 : Nat) (i : Nat) : (Str → Option Value) → List (Addr × Obj) → Prop
  | mk (m : Str → Option Value) (ts : List (Addr × Obj)) (vs : List Value) (k1 : Nat) (hm : Agree [(Str.ofString "netlist", .ref a), (Str.ofString "cells", .ref lx), (Str.ofString "result", .ref x)] m) (hvi : vs.length = i) (hmk : MkAll b₀ ts vs ((N.inputs.take i).map encPort)) (hup : ∀ p ∈ ts, @Ne Nat p.1 lir ∧ @Ne Nat p.1 lor ∧ @Ne Nat p.1 lcr) :
    RbI1 b₀ a lx x dxr lir lor lcr oL oc N z1 z2 z3 z4 z5 u1 u2 u3 u4 u5 un uc n0 n2 n3 i m ((lir, listOf (List.toArray vs) k1) :: (x, instObj 127 dxr) :: (dxr, dictOf (netD z1 z2 z3 z4 z5 u1 u2 u3 u4 u5 (.str N.name un) (.int N.count uc) lir lor lcr) n0) :: (lor, listOf #[] n2) :: (lcr, listOf #[] n3) :: (oL, oc) :: ts)
inductive RbI2 (b₀ : Heap) (a lx x dxr lir lor lcr oL : Addr) (oc : Obj) (N : Nl) (z1 z2 z3 z4 z5 : Int) (u1 u2 u3 u4 u5 un uc : Tok) (n0 : Nat) (cs : List Cel) (vi : List Value) (k1 n2 : Nat) (i : Nat) : (Str → Option Value) → List (Addr × Obj) → Prop
  | mk (m : Str → Option Value) (ts : List (Addr × Obj)) (vs : List Value) (k2 : Nat) (hm : Agree [(Str.ofString "netlist", .ref a), (Str.ofString "result", .ref x)] m) (hvi : vs.length = i) (hmi : MkAll b₀ ts vi (N.inputs.map encPort)) (hmk : MkAll b₀ ts vs ((cs.take i).map encCel)) (hup : ∀ p ∈ ts, @Ne Nat p.1 lir ∧ @Ne Nat p.1 lor ∧ @Ne Nat p.1 lcr) :
    RbI2 b₀ a lx x dxr lir lor lcr oL oc N z1 z2 z3 z4 z5 u1 u2 u3 u4 u5 un uc n0 cs vi k1 n2 i m ((lcr, listOf (List.toArray vs) k2) :: (x, instObj 127 dxr) :: (dxr, dictOf (netD z1 z2 z3 z4 z5 u1 u2 u3 u4 u5 (.str N.name un) (.int N.count uc) lir lor lcr) n0) :: (lir, listOf (List.toArray vi) k1) :: (lor, listOf #[] n2) :: (oL, oc) :: ts)
inductive RbI4 (b₀ : Heap) (a lx x dxr lir lor lcr oL : Addr) (oc : Obj) (N : Nl) (z1 z2 z3 z4 z5 : Int) (u1 u2 u3 u4 u5 un uc : Tok) (n0 : Nat) (cs : List Cel) (vi vc : List Value) (k1 kc : Nat) (i : Nat) : (Str → Option Value) → List (Addr × Obj) → Prop
  | mk (m : Str → Option Value) (ts : List (Addr × Obj)) (vs : List Value) (k2 : Nat) (hm : Agree [(Str.ofString "result", .ref x)] m) (hvi : vs.length = i) (hmi : MkAll b₀ ts vi (N.inputs.map encPort)) (hmc : MkAll b₀ ts vc (cs.map encCel)) (hmk : MkAll b₀ ts vs ((N.outputs.take i).map encPort)) (hup : ∀ p ∈ ts, @Ne Nat p.1 lir ∧ @Ne Nat p.1 lor ∧ @Ne Nat p.1 lcr) :
    RbI4 b₀ a lx x dxr lir lor lcr oL oc N z1 z2 z3 z4 z5 u1 u2 u3 u4 u5 un uc n0 cs vi vc k1 kc i m ((lor, listOf (List.toArray vs) k2) :: (x, instObj 127 dxr) :: (dxr, dictOf (netD z1 z2 z3 z4 z5 u1 u2 u3 u4 u5 (.str N.name un) (.int N.count uc) lir lor lcr) n0) :: (lir, listOf (List.toArray vi) k1) :: (lcr, listOf (List.toArray vc) kc) :: (oL, oc) :: ts)
set_option maxHeartbeats 1500000 in
theorem rebuilt_code {w : World} {mg mb : Str → Option Value} {A : Around} {s : Shared} {a lx d : Addr} {N : Nl} {cs : List Cel} {cvs : List Value}
    (hhA : A.handled = none) (HA : Ar 5 A s.heap) (D : Gd w mg mb s.heap) {b₀ : Heap} (hb₀ : ∀ b o, b₀.get? b = some o → s.heap.get? b = some o) (NA : NetAt b₀ a N) (OK : N.Ok) (hlx : s.heap.IsList lx cvs.toArray) (rx : RdAll b₀ cvs (cs.map encCel)) (hcs : cs.length ≤ 20) (hci : ∀ c ∈ cs, c.ins.length ≤ 20)
    (hT : TabAt (intKind PR w) PyData.int s.heap d []) :
    codeAny (model PR w) A (.call (.ref 150) ⟨[.ref a, .ref lx, .ref d], []⟩) (RebuiltBack b₀ N cs s) s := by
  refine' enter_cells (binds := [(Str.ofString "netlist", .ref a), (Str.ofString "cells", .ref lx), (Str.ofString "replaced", .ref d)]) 4 [] (by intro p hp; cases hp) HA D ?k6 ?k7 ?k9 ?kB ?kD ?_ ?c2 ?c3 ?c4
  case k6 => k_is
  case k7 => k_is
  case k9 => exact BindsTo.of_eq rfl
  case kB => exact rfl
  case kD => decide +kernel
  case c2 => exact rfl
  case c3 => exact rfl
  case c4 => exact rfl
  intro A' L' h₁ tk cells hL hh hfr HA' Fz Nz Y hk _
  have X := D.K
  have T := D.T
  have hh' : A'.handled = none := hh.trans hhA
  change Fr s.heap _ _ _ at Fz
  change News s.heap _ _ _ at Nz
  change Ar 4 A' s.heap at HA'
  clear hfr
  k_cells Y
  rename_i oc hoc
  replace hoc : oc.data = .cell (some (.ref d)) := hoc
  simp only [List.cons_append, List.nil_append] at Nz
  refine NA.use ?_
  intro dx n h1 h2 h3 h4 h5 t1 t2 t3 t4 t5 un uc li lo lc pi po pc HI hli ri hlo ro hlc rc
  replace HI := InstAt.keeps' HI hb₀
  replace hli : s.heap.IsList li pi.toArray := hli.at fun o e => hb₀ li o e
  replace hlo : s.heap.IsList lo po.toArray := hlo.at fun o e => hb₀ lo o e
  replace ri := ri.keeps hb₀
  replace ro := ro.keeps hb₀
  clear hlc rc
  with_reducible show wpAny _ _ _ _ _ _
  k_fold
  repeat' (first | (k_unfold; (try dsimp only)) | walk1 | (dsimp only; walk1) | (leave1; (try dsimp only)))
  refine Hold.intro (wpAny_call (codeAny_mono (new_code (mg := mg) (mb := mb) ((HA'.less 3 (by omega)).keeps Fz.keep) (Gd.keeps ⟨X, T⟩ Fz.keep)) (NewBack.use ?_)))
  intro x dxr lir lor lcr h₂ tk2 n0 n1 n2 n3 z1 z2 z3 z4 z5 u1 u2 u3 u4 u5 tc k2 e0 e1 e2 e3 e4 ex edx eli elo elc
  have f0 := ltN (Heap.lt_size (Nz _ (.head _)).1)
  have f1 : @LE.le Nat _ h₁.objs.size dxr := e0
  have f2 := ltN e1
  have f3 := ltN e2
  have f4 := ltN e3
  have f5 := ltN e4
  dsimp only at f0
  have F1 : Fr s.heap L' h₂ _ := Fz.keeps k2
  have N1 := News.cons (new_at Fz (by omega) eli) (News.cons (new_at Fz (by omega) ex) (News.cons (new_at Fz (by omega) edx) (News.cons (new_at Fz (by omega) elo) (News.cons (new_at Fz (by omega) elc) (News.up Nz k2)))))
  clear Fz Nz e0 e1 e2 e3 e4 ex edx eli elo elc
  dsimp only
  repeat' (first | (k_unfold; (try dsimp only)) | walk1 | (dsimp only; walk1) | (leave1; (try dsimp only)))
  rename News _ _ _ _ => N2
  rename Fr _ _ _ _ => F2
  refine' set_dict (es' := netD z1 z2 z3 z4 z5 u1 u2 u3 u4 u5 (.str N.name un) (.int N.count uc) lir lor lcr) (n' := n0) ?k1 ?k2 ?k3 ?k4 ?k5 ?k6 ?k7 ?k8 ?k9 ?k10 ?k11 ?k12 ?k13 ?_
  case k1 => exact F2
  case k2 => exact X
  case k3 => exact N2
  case k4 => exact InstAt.of_news N2 (.tail _ (.head _)) (.tail _ (.tail _ (.head _)))
  case k5 => exact rfl
  case k6 => k_is
  case k7 => k_is
  case k8 => k_is
  case k9 => k_is
  case k10 => exact rfl
  case k11 => exact rfl
  case k12 => k_upd
  case k13 => exact Nat.le_of_ble_eq_true rfl
  intro h' F' N'
  clear F2 N2
  repeat' (first | (k_unfold; (try dsimp only)) | walk1 | (dsimp only; walk1) | (leave1; (try dsimp only)))
  rename Fr _ _ _ _ => F2
  rename News _ _ _ _ => N2
  have hni := OK.nin
  refine turns_ports (RbI1 b₀ a lx x dxr lir lor lcr (L' + 1) oc N z1 z2 z3 z4 z5 u1 u2 u3 u4 u5 un uc n0 n2 n3) HA'.hk hli ri F2 N2 (.mk _ [] [] n1 ⟨rfl, rfl, rfl, trivial⟩ rfl (MkAll.nil _ _) fun _ h => nomatch h) ?_ ?_
  · rintro i p t y l us m₁ _ h tk I io hp ht hl hus ho ⟨ts, vs, k1, hm, hvi, hmk, hup⟩ F Nw
    rw [bnd_of hm] at F
    clear N2 F2 hm
    change Fr s.heap L' _ _ at F
    change News s.heap L' _ _ at Nw
    have R := RbOff.of ho
    have hI1 : Dis lir I := R.ha
    have hI2 : Dis x I := R.hb
    have hI3 : Dis dxr I := R.hc
    have hI4 : Dis lor I := R.hd
    have hI5 : Dis lcr I := R.he
    have hI6 : Dis (L' + 1) I := R.hf
    have hIt := R.hg
    have hts1 : ∀ p ∈ ts, p.1 ≠ lir := fun p hp => (hup p hp).1
    have hpl : p.2.length ≤ 20 := OK.pin p (List.mem_of_getElem? hp)
    have hus1 : us.length ≤ 20 := by rw [hus.length]; exact hpl
    have hil : i < N.inputs.length := (List.getElem?_eq_some_iff.mp hp).1
    have hvl : vs.length ≤ 100 := by omega
    with_reducible show wpAny _ _ _ _ _ _
    k_fold
    repeat' (first | (k_unfold; (try dsimp only)) | walk1 | (dsimp only; walk1) | (leave1; (try dsimp only)))
    rename I < _ ∧ lir < _ ∧ _ => l1
    rename _ < _ ∧ I < _ ∧ lir < _ ∧ _ => l2
    rename News _ _ _ _ => NZ
    rw [List.push_toArray] at NZ
    rename_i D1 c1 _ D2 _ _ _
    refine' turn_next (led' := (lir, listOf (List.toArray (vs ++ [.ref D2])) (k1 + 1)) :: (x, instObj 127 dxr) :: (dxr, dictOf (netD z1 z2 z3 z4 z5 u1 u2 u3 u4 u5 (.str N.name un) (.int N.count uc) lir lor lcr) n0) :: (lor, listOf #[] n2) :: (lcr, listOf #[] n3) :: (L' + 1, oc) :: (D2, { cls := .type "tuple", data := .seq #[.str p.1 y, .ref D1] }) :: (D1, listOf us.toArray c1) :: ts) ?F ?Nn ?hs ?ho ?hj
    case F => assumption
    case Nn => exact NZ
    case hs => k_allIn
    case ho => k_all
    case hj => exact .mk _ ((D2, { cls := .type "tuple", data := .seq #[.str p.1 y, .ref D1] }) :: (D1, listOf us.toArray c1) :: ts) _ (k1 + 1) ⟨rfl, rfl, rfl, trivial⟩ (by rw [List.length_append, hvi]; rfl) (by rw [List.take_add_one, hp]; simpa using hmk.snoc (mk_port (t := D2) (l2 := D1) (kt := y) (n := c1) hus)) (List.forall_mem_cons.mpr ⟨⟨by k_ne, by k_ne, by k_ne⟩, List.forall_mem_cons.mpr ⟨⟨by k_ne, by k_ne, by k_ne⟩, hup⟩⟩)
  · rintro m₁ _ h tk ⟨ts, vi, k1, hm, -, hmi, hup⟩ F Nw
    rw [bnd_of hm] at F
    clear N2 F2 hm
    change Fr s.heap L' _ _ at F
    change News s.heap L' _ _ at Nw
    rw [List.take_length] at hmi
    dsimp only
    repeat' (first | (k_unfold; (try dsimp only)) | walk1 | (dsimp only; walk1) | (leave1; (try dsimp only)))
    rename Fr _ _ _ _ => F
    rename News _ _ _ _ => Nw
    refine turns_cells (RbI2 b₀ a lx x dxr lir lor lcr (L' + 1) oc N z1 z2 z3 z4 z5 u1 u2 u3 u4 u5 un uc n0 cs vi k1 n2) HA'.hk hb₀ hlx rx F (led := (lcr, listOf #[] n3) :: (x, instObj 127 dxr) :: (dxr, dictOf (netD z1 z2 z3 z4 z5 u1 u2 u3 u4 u5 (.str N.name un) (.int N.count uc) lir lor lcr) n0) :: (lir, listOf (List.toArray vi) k1) :: (lor, listOf #[] n2) :: (L' + 1, oc) :: ts) (fun p hp => Nw p (by revert p; k_allIn)) (.mk _ ts [] n3 ⟨rfl, rfl, trivial⟩ rfl hmi (MkAll.nil _ _) hup) ?_ ?_
    · clear hmi hup Nw F ts
      rintro i c t y yo l us pv m₁ _ h tk I io hc ht hl hus hpv ho ⟨ts, vs, k2, hm, hvi, hmi, hmk, hup⟩ F Nw
      rw [bnd_of hm] at F
      clear hm
      change Fr s.heap L' _ _ at F
      change News s.heap L' _ _ at Nw
      have R := RbOff.of ho
      have hI1 : Dis lcr I := R.ha
      have hI2 : Dis x I := R.hb
      have hI3 : Dis dxr I := R.hc
      have hI4 : Dis lir I := R.hd
      have hI5 : Dis lor I := R.he
      have hI6 : Dis (L' + 1) I := R.hf
      have hts1 : ∀ p ∈ ts, p.1 ≠ lcr := fun p hp => (hup p hp).2.2
      have hpl : c.ins.length ≤ 20 := hci c (List.mem_of_getElem? hc)
      have hus1 : us.length ≤ 20 := by rw [hus.length]; exact hpl
      have hil : i < cs.length := (List.getElem?_eq_some_iff.mp hc).1
      with_reducible show wpAny _ _ _ _ _ _
      k_fold
      repeat' (first | (k_unfold; (try dsimp only)) | walk1 | (dsimp only; walk1) | (leave1; (try dsimp only)))
      · rename Option.isSome _ = true => he
        cases he
      · refine Hold.intro ?_
        with_reducible show wpAny _ _ (eval (PySem.Expr.ListComp _ [⟨_, PySem.Expr.Name (PySem.Str.ofString "ins") _, _, _⟩] _ _) _) _ _ _
        refine comp_tup (F₀ := by assumption) (by with_unfolding_all rfl) (by decide) (by rfl) (by decide) (by rfl) ?_
        repeat' (first | (k_unfold; (try dsimp only)) | walk1 | (dsimp only; walk1) | (leave1; (try dsimp only)))
        refine ⟨l, us.toArray, (I, io) :: (lcr, listOf (List.toArray vs) k2) :: (x, instObj 127 dxr) :: (dxr, dictOf (netD z1 z2 z3 z4 z5 u1 u2 u3 u4 u5 (.str N.name un) (.int N.count uc) lir lor lcr) n0) :: (lir, listOf (List.toArray vi) k1) :: (lor, listOf #[] n2) :: (L' + 1, oc) :: ts, rfl, hh', by assumption, by assumption, hl, (by rw [List.size_toArray, sizeLine_eq]; omega), fun g => comp_ints hus (fun i v q => by simpa using q) ?_ ?_⟩
        · intro j zx zt I2 oI2 C2 oC2 D2 m₂ hq tkq E2 hv2 hC2 hm2 F2 N2 off q1 q2 q3
          with_reducible show wpAny _ _ _ _ _ _
          k_fold
          repeat' (first | (k_unfold; (try dsimp only)) | walk1 | (dsimp only; walk1) | (leave1; (try dsimp only)))
          rename Fr _ _ _ _ => F2
          rename News _ _ _ _ => N2
          refine Hold.intro (wpAny_call (codeAny_mono (final_code (mg := mg) (mb := mb) ((HA'.less 1 (by omega)).keeps F2.keep) (Gd.keeps ⟨X, T⟩ F2.keep) (hT.keep F2.keep)) (FinalBack.use ?_)))
          intro h3 tk3 k3
          dsimp only
          exact LCg.CompEnd.intro (F2.keeps k3) (News.up N2 k3) _ (fun _ q => q) off trivial ⟨rfl, rfl⟩
        · repeat' (first | (k_unfold; (try dsimp only)) | walk1 | (dsimp only; walk1) | (leave1; (try dsimp only)))
          rename Fr _ _ _ _ => F2
          rename News _ _ _ _ => N2
          rename _ ∧ _ ∧ _ ∧ _ ∧ _ ∧ _ ∧ _ ∧ _ => o1
          refine Hold.intro (wpAny_call (codeAny_mono (drive_code (mg := mg) (mb := mb) (lc := lcr) (cs := vs) (us := us) (b₀ := b₀) (ts₀ := []) (pd := c.param) ((HA'.less 1 (by omega)).keeps (hide_led F2 N2 (.tail _ (.tail _ (.head _))))) (Gd.keeps ⟨X, T⟩ (hide_led F2 N2 (.tail _ (.tail _ (.head _)))))
            ⟨led_hide N2 (.tail _ (.tail _ (.tail _ (.head _)))) (by k_ne), rfl, rfl, led_hide N2 (.tail _ (.tail _ (.tail _ (.tail _ (.head _))))) (by k_ne)⟩ (N2 _ (.tail _ (.tail _ (.head _)))).1 ⟨_, led_hide N2 (.head _) (by k_ne), rfl, _, rfl⟩ hus (by omega) (by omega) (fun h k1 _ => hpv.keeps k1)) (GrownBack.use ?_)))
          intro v2 h3 tk3 k3 ts2 kk e3 t2 mk
          have FN3 := upd_call F2 N2 (.tail (by k_ne) (.tail (by k_ne) (.head (by k_all)))) kk e3
          have F3 := FN3.1
          have N3 := FN3.2
          clear FN3
          have N4 := News.add F2 N3 t2
          have fr2 : ∀ {b : Addr} {o : Obj}, (b, o) ∈ _ → ∀ p ∈ ts2, p.1 ≠ b := fun hm p hp q => by have := (t2 p hp).2; rw [q, (N2 _ hm).1] at this; cases this
          clear F2 N2
          dsimp only
          repeat' (first | (k_unfold; (try dsimp only)) | walk1 | (dsimp only; walk1) | (leave1; (try dsimp only)))
          rw [List.append_nil] at mk
          refine' turn_next (led' := (lcr, listOf (List.toArray (vs ++ [v2])) k3) :: (x, instObj 127 dxr) :: (dxr, dictOf (netD z1 z2 z3 z4 z5 u1 u2 u3 u4 u5 (.str N.name un) (.int N.count uc) lir lor lcr) n0) :: (lir, listOf (List.toArray vi) k1) :: (lor, listOf #[] n2) :: (L' + 1, oc) :: (ts2 ++ ts)) F3 N4 ?hs ?ho ?hj
          case hs =>
            exact hs_app (ts2 := ts2) (ts := ts) [_, _, _, _, _, _, _] (by k_allIn) (by intro p hp; repeat (first | exact hp | refine List.Mem.tail _ ?_))
          case ho => exact R.all (fr2 (.tail _ (.head _)))
          case hj => exact .mk _ (ts2 ++ ts) _ k3 ⟨rfl, rfl, trivial⟩ (by rw [List.length_append, hvi]; rfl) hmi.more (by rw [List.take_add_one, hc]; simpa using hmk.snoc mk) (List.forall_mem_append.mpr ⟨fun p hp => ⟨fr2 (.tail _ (.tail _ (.tail _ (.tail _ (.tail _ (.head _)))))) p hp, fr2 (.tail _ (.tail _ (.tail _ (.tail _ (.tail _ (.tail _ (.head _))))))) p hp, fr2 (.tail _ (.tail _ (.head _))) p hp⟩, hup⟩)
    · clear hmi hup Nw F ts
      rintro m₁ _ h tk ⟨ts, vc, kc, hm, -, hmi, hmc, hup⟩ F Nw
      rw [bnd_of hm] at F
      clear hm
      change Fr s.heap L' _ _ at F
      change News s.heap L' _ _ at Nw
      rw [List.take_length] at hmc
      dsimp only
      repeat' (first | (k_unfold; (try dsimp only)) | walk1 | (dsimp only; walk1) | (leave1; (try dsimp only)))
      rename Fr _ _ _ _ => F
      rename News _ _ _ _ => Nw
      have hno := OK.nout
      refine turns_ports (RbI4 b₀ a lx x dxr lir lor lcr (L' + 1) oc N z1 z2 z3 z4 z5 u1 u2 u3 u4 u5 un uc n0 cs vi vc k1 kc) HA'.hk hlo ro F (led := (lor, listOf (List.toArray ([])) n2) :: (x, instObj 127 dxr) :: (dxr, dictOf (netD z1 z2 z3 z4 z5 u1 u2 u3 u4 u5 (.str N.name un) (.int N.count uc) lir lor lcr) n0) :: (lir, listOf (List.toArray vi) k1) :: (lcr, listOf (List.toArray vc) kc) :: (L' + 1, oc) :: ts) (fun p hp => Nw p (by revert p; k_allIn)) (.mk _ ts [] n2 ⟨rfl, trivial⟩ rfl hmi hmc (MkAll.nil _ _) hup) ?_ ?_
      · clear hmi hup hmc Nw F ts
        rintro i p t y l us m₁ _ h tk I io hp ht hl hus ho ⟨ts, vs, k2, hm, hvi, hmi, hmc, hmk, hup⟩ F Nw
        rw [bnd_of hm] at F
        clear hm
        change Fr s.heap L' _ _ at F
        change News s.heap L' _ _ at Nw
        have R := RbOff.of ho
        have hI1 : Dis lor I := R.ha
        have hI2 : Dis x I := R.hb
        have hI3 : Dis dxr I := R.hc
        have hI4 : Dis lir I := R.hd
        have hI5 : Dis lcr I := R.he
        have hI6 : Dis (L' + 1) I := R.hf
        have hts1 : ∀ p ∈ ts, p.1 ≠ lor := fun p hp => (hup p hp).2.1
        have hpl : p.2.length ≤ 20 := OK.pout p (List.mem_of_getElem? hp)
        have hus1 : us.length ≤ 20 := by rw [hus.length]; exact hpl
        have hil : i < N.outputs.length := (List.getElem?_eq_some_iff.mp hp).1
        with_reducible show wpAny _ _ _ _ _ _
        k_fold
        repeat' (first | (k_unfold; (try dsimp only)) | walk1 | (dsimp only; walk1) | (leave1; (try dsimp only)))
        refine Hold.intro ?_
        with_reducible show wpAny _ _ (eval (PySem.Expr.ListComp _ [⟨_, PySem.Expr.Name (PySem.Str.ofString "nets") _, _, _⟩] _ _) _) _ _ _
        refine LCg.ListComp_U (F₀ := by assumption) (by with_unfolding_all rfl) (by decide) (by rfl) (by decide) (by rfl) ?_
        repeat' (first | (k_unfold; (try dsimp only)) | walk1 | (dsimp only; walk1) | (leave1; (try dsimp only)))
        refine Hold.intro (LCg.CompSrc.base hh' (news := (I, io) :: (lor, listOf (List.toArray (vs)) k2) :: (x, instObj 127 dxr) :: (dxr, dictOf (netD z1 z2 z3 z4 z5 u1 u2 u3 u4 u5 (.str N.name un) (.int N.count uc) lir lor lcr) n0) :: (lir, listOf (List.toArray vi) k1) :: (lcr, listOf (List.toArray vc) kc) :: (L' + 1, oc) :: ts) (by assumption) (by assumption) hl (by rw [List.size_toArray, sizeLine_eq]; omega) fun g => comp_ints hus (fun i v q => by simpa using q) ?_ ?_)
        · intro j zx zt I2 oI2 C2 oC2 D2 m₂ hq tkq E2 hv2 hC2 hm2 F2 N2 off q1 q2 q3
          with_reducible show wpAny _ _ _ _ _ _
          k_fold
          repeat' (first | (k_unfold; (try dsimp only)) | walk1 | (dsimp only; walk1) | (leave1; (try dsimp only)))
          rename Fr _ _ _ _ => F2
          rename News _ _ _ _ => N2
          refine Hold.intro (wpAny_call (codeAny_mono (final_code (mg := mg) (mb := mb) ((HA'.less 1 (by omega)).keeps F2.keep) (Gd.keeps ⟨X, T⟩ F2.keep) (hT.keep F2.keep)) (FinalBack.use ?_)))
          intro h3 tk3 k3
          dsimp only
          exact LCg.CompEnd.intro (F2.keeps k3) (News.up N2 k3) _ (fun _ q => q) off (.inl hl) ⟨rfl, rfl⟩
        · repeat' (first | (k_unfold; (try dsimp only)) | walk1 | (dsimp only; walk1) | (leave1; (try dsimp only)))
          rename Fr _ _ _ _ => F2
          rename News _ _ _ _ => N2
          rename _ ∧ _ ∧ _ ∧ _ ∧ _ ∧ _ ∧ _ ∧ _ => o1
          refine Hold.intro (wpAny_call (codeAny_mono (addout_code (mg := mg) (mb := mb) (lo := lor) (cs := vs) (us := us) (b₀ := b₀) ((HA'.less 1 (by omega)).keeps (hide_led F2 N2 (.tail _ (.tail _ (.head _))))) (Gd.keeps ⟨X, T⟩ (hide_led F2 N2 (.tail _ (.tail _ (.head _)))))
            ⟨led_hide N2 (.tail _ (.tail _ (.tail _ (.head _)))) (by k_ne), rfl, rfl, led_hide N2 (.tail _ (.tail _ (.tail _ (.tail _ (.head _))))) (by k_ne)⟩ (N2 _ (.tail _ (.tail _ (.head _)))).1 ⟨_, led_hide N2 (.head _) (by k_ne), rfl, _, rfl⟩ hus (by omega) (by omega)) (GrownBack.use ?_)))
          intro v2 h3 tk3 k3 ts2 kk e3 t2 mk
          have FN3 := upd_call F2 N2 (.tail (by k_ne) (.tail (by k_ne) (.head (by k_all)))) kk e3
          have F3 := FN3.1
          have N3 := FN3.2
          clear FN3
          have N4 := News.add F2 N3 t2
          have fr2 : ∀ {b : Addr} {o : Obj}, (b, o) ∈ _ → ∀ p ∈ ts2, p.1 ≠ b := fun hm p hp q => by have := (t2 p hp).2; rw [q, (N2 _ hm).1] at this; cases this
          clear F2 N2
          dsimp only
          repeat' (first | (k_unfold; (try dsimp only)) | walk1 | (dsimp only; walk1) | (leave1; (try dsimp only)))
          rw [List.append_nil] at mk
          refine' turn_next (led' := (lor, listOf (List.toArray (vs ++ [v2])) k3) :: (x, instObj 127 dxr) :: (dxr, dictOf (netD z1 z2 z3 z4 z5 u1 u2 u3 u4 u5 (.str N.name un) (.int N.count uc) lir lor lcr) n0) :: (lir, listOf (List.toArray vi) k1) :: (lcr, listOf (List.toArray vc) kc) :: (L' + 1, oc) :: (ts2 ++ ts)) F3 N4 ?hs ?ho ?hj
          case hs =>
            exact hs_app (ts2 := ts2) (ts := ts) [_, _, _, _, _, _, _] (by k_allIn) (by intro p hp; repeat (first | exact hp | refine List.Mem.tail _ ?_))
          case ho => exact R.all (fr2 (.tail _ (.head _)))
          case hj => exact .mk _ (ts2 ++ ts) _ k3 ⟨rfl, trivial⟩ (by rw [List.length_append, hvi]; rfl) hmi.more hmc.more (by rw [List.take_add_one, hp]; simpa using hmk.snoc mk) (List.forall_mem_append.mpr ⟨fun p hp => ⟨fr2 (.tail _ (.tail _ (.tail _ (.tail _ (.tail _ (.head _)))))) p hp, fr2 (.tail _ (.tail _ (.head _))) p hp, fr2 (.tail _ (.tail _ (.tail _ (.tail _ (.tail _ (.tail _ (.head _))))))) p hp⟩, hup⟩)
      · clear hmi hup hmc Nw F ts
        rintro m₁ _ h tk ⟨ts, vs, k2, hm, -, hmi, hmc, hmk, hup⟩ F Nw
        rw [bnd_of hm] at F
        clear hm
        change Fr s.heap L' _ _ at F
        change News s.heap L' _ _ at Nw
        rw [List.take_length] at hmk
        dsimp only
        repeat' (first | (k_unfold; (try dsimp only)) | walk1 | (dsimp only; walk1) | (leave1; (try dsimp only)))
        dsimp only
        have kt : ∀ p ∈ ts, h.get? p.1 = some p.2 := fun p hp => (Nw p (.tail _ (.tail _ (.tail _ (.tail _ (.tail _ (.tail _ hp))))))).1
        refine ⟨x, (lor, listOf (List.toArray vs) k2) :: (x, instObj 127 dxr) :: (dxr, dictOf (netD z1 z2 z3 z4 z5 u1 u2 u3 u4 u5 (.str N.name un) (.int N.count uc) lir lor lcr) n0) :: (lir, listOf (List.toArray vi) k1) :: (lcr, listOf (List.toArray vc) kc) :: (L' + 1, oc) :: ts, _, _, rfl, rfl, F.keep, fun p hp => ⟨(Nw p hp).1, (Nw p hp).2.2⟩, fun h2 kb kt => ?_⟩
        have kt2 : ∀ p ∈ ts, h2.get? p.1 = some p.2 := fun p hp => kt p (.tail _ (.tail _ (.tail _ (.tail _ (.tail _ (.tail _ hp))))))
        exact ⟨dxr, n0, z1, z2, z3, z4, z5, u1, u2, u3, u4, u5, un, uc, lir, lor, lcr, vi, vs, vc, ⟨kt _ (.tail _ (.head _)), rfl, rfl, kt _ (.tail _ (.tail _ (.head _)))⟩, ⟨_, kt _ (.tail _ (.tail _ (.tail _ (.head _)))), rfl, _, rfl⟩, hmi h2 kb kt2, ⟨_, kt _ (.head _), rfl, _, rfl⟩, hmk h2 kb kt2, ⟨_, kt _ (.tail _ (.tail _ (.tail _ (.tail _ (.head _))))), rfl, _, rfl⟩, hmc h2 kb kt2⟩
end
section
open PySem PySem.W PySem.Calls PyProof.Rows PyProof.V
set_option maxRecDepth 100000
example : ∀ w : World, ∀ h, (hd.heap_39 w.params).In h → PySem.Challenge.rw_on0094_01.Holds → True := by k_fill; intros; trivial
local macro_rules | `(tactic| walk_at "execs cons Assign cons") => `(tactic| walk_at "execs cons")
local macro_rules | `(tactic| walk_at "compareOp In int ref") => `(tactic| (refine in_intTab (TabAt.ofNews (by assumption) (by k_mem) (by assumption) (by assumption) (by assumption)) ?_))
local macro_rules | `(tactic| k_ne) => `(tactic| (refine neN ?_; (try dsimp only); first | exact Dis.l (by assumption) | exact Dis.r (by assumption) | omega))
def keptTo (N : Nl) (K : List Int) (i : Nat) : List Cel := ((List.range i).filter fun k : Nat => decide ((k : Int) ∈ K)).filterMap fun k : Nat => N.cells[k]?
theorem keptTo_next {N : Nl} {K : List Int} {i : Nat} {c : Cel} (hc : N.cells[i]? = some c) : keptTo N K (i + 1) = if (i : Int) ∈ K then keptTo N K i ++ [c] else keptTo N K i := by
  unfold keptTo
  rw [List.range_succ, List.filter_append, List.filterMap_append]
  by_cases h : (i : Int) ∈ K
  · rw [if_pos h, List.filter_cons_of_pos (by simpa using h)]; simp [hc]
  · rw [if_neg h, List.filter_cons_of_neg (by simpa using h)]; simp
theorem keptTo_len (N : Nl) (K : List Int) (i : Nat) : (keptTo N K i).length ≤ i := by
  unfold keptTo
  have h1 := List.length_filterMap_le (fun k : Nat => N.cells[k]?) ((List.range i).filter fun k : Nat => decide ((k : Int) ∈ K))
  have h2 := List.length_filter_le (fun k : Nat => decide ((k : Int) ∈ K)) (List.range i)
  rw [List.length_range] at h2
  omega
theorem keptTo_mem {N : Nl} {K : List Int} {i : Nat} {c : Cel} (h : c ∈ keptTo N K i) : c ∈ N.cells := by
  unfold keptTo at h
  obtain ⟨k, _, hk⟩ := List.mem_filterMap.mp h
  exact List.mem_of_getElem? hk
def DropBack (b₀ : Heap) (N : Nl) (s : Shared) (r : Result) (s' : Shared) : Prop :=
  Ex5 fun x K ts h' tk => r = .ok (.ret (.ref x)) ∧ s' = { s with heap := h', toks := tk } ∧ (∀ b o, s.heap.get? b = some o → h'.get? b = some o) ∧ (∀ y, y ∈ K ↔ ∃ k : Nat, y = (k : Int) ∧ Reach N k) ∧ (∀ p ∈ ts, h'.get? p.1 = some p.2 ∧ s.heap.get? p.1 = none) ∧ MkNet b₀ ts x { N with cells := keptTo N K N.cells.length }
set_option maxHeartbeats 1500000 in
theorem drop_code {w : World} {mg mb : Str → Option Value} {A : Around} {s : Shared} {a : Addr} {N : Nl} {base : Heap} {fr : List Env}
    (hhA : A.handled = none) (HA : Ar 6 A s.heap) (D : Gd w mg mb s.heap) {b₀ : Heap} (hb₀ : ∀ b o, b₀.get? b = some o → s.heap.get? b = some o) (NA : NetAt b₀ a N) (OK : N.Ok) (hdup : dupOf N = none)
    (hfr : A.frames = some fr) (hkb : base.StaysIn s.heap) (hFF : s.heap.FunFrames base fr) :
    codeAny (model PR w) A (.call (.ref 164) ⟨[.ref a], []⟩) (DropBack b₀ N s) s := by
  refine' enter_exc (binds := [(Str.ofString "netlist", .ref a)]) 5 HA D ?k6 ?k7 ?k9 ?kB ?_ ?c2 ?c3 ?c4 ?c5
  case k6 => k_is
  case k7 => k_is
  case k9 => exact BindsTo.of_eq rfl
  case c5 => decide
  case kB => exact locs rfl
  case c2 => exact rfl
  case c3 => exact rfl
  case c4 => exact rfl
  intro A' L' h₁ hL hh hfr' HA' Fz Nz
  have X := D.K
  have T := D.T
  have hh' : A'.handled = none := hh.trans hhA
  change Fr s.heap _ _ _ at Fz
  obtain ⟨dx, n, h1, h2, h3, h4, h5, t1, t2, t3, t4, t5, un, uc, li, lo, lc, pi, po, pc, HI, hli, ri, hlo, ro, hlc, rc⟩ := NA.ex
  replace HI := InstAt.keeps' HI hb₀
  replace hli : s.heap.IsList li pi.toArray := hli.at fun o e => hb₀ li o e
  replace hlo : s.heap.IsList lo po.toArray := hlo.at fun o e => hb₀ lo o e
  replace hlc : s.heap.IsList lc pc.toArray := hlc.at fun o e => hb₀ lc o e
  have hpc : pc.length = N.cells.length := by simpa using rc.get.1
  have hnc := OK.ncell
  with_reducible show wpAny _ _ _ _ _ _
  k_fold
  repeat' (first | (k_unfold; (try dsimp only)) | walk1 | (dsimp only; walk1) | (leave1; (try dsimp only)))
  refine Hold.intro (wpAny_call (codeAny_mono (used_code (mg := mg) (mb := mb) (base := base) hh' (HA'.keeps Fz.keep) (Gd.keeps ⟨X, T⟩ Fz.keep) ((NA.keeps hb₀).keeps Fz.keep) OK (hfr'.trans (by rw [hfr]; rfl)) (fun b o q => Fz.keep b o (hkb b o q)) (frames_in Fz rfl (fun q => by cases q) hkb hFF)) ?_))
  rintro _ _ (⟨-, dU, h₂, tk, rfl, rfl, k2, nD, oU, kvU, DU, K, hDD, loU, isU, fU, hLU, hlU, hKr⟩ | ⟨x, e, h₂, tk, hdup2, -⟩)
  case inr => rw [hdup] at hdup2; cases hdup2
  have F1 : Fr s.heap L' h₂ _ := Fz.keeps k2
  have N1 : News s.heap L' h₂ [(dU, oU)] := fun p hp => by
    rcases List.mem_singleton.mp hp with rfl
    refine ⟨hDD, ?_, fresh_pre Fz.keep nD⟩
    intro q
    obtain ⟨o, _, _, ho, _⟩ := Fz.ns
    change h₁.get? dU = none at nD
    rw [show dU = L' from q, ho] at nD
    cases nD
  clear Fz Nz hL hDD
  dsimp only
  repeat' (first | (k_unfold; (try dsimp only)) | walk1 | (dsimp only; walk1) | (leave1; (try dsimp only)))
  rename Fr _ _ _ _ => F1
  rename News _ _ _ _ => N1
  rename IsRange _ _ _ _ _ _ _ _ => R1
  rename dU < _ => hltC
  rename_i dC _ _ _ _ _ _ _ _ _ _
  have hneC : Dis dC dU := by have := hltC; show @Ne Nat _ _; omega
  let jInv1 := fun (i : Nat) (m : Str → Option Value) (led : List (Addr × Obj)) => Ex2 fun vs k1 => Agree [(Str.ofString "netlist", .ref a), (Str.ofString "cells", .ref dC)] m ∧ m (Str.ofString "used") = some (.ref dU) ∧ led = [(dC, listOf (List.toArray vs) k1), (dU, oU)] ∧ RdAll b₀ vs ((keptTo N K i).map encCel)
  refine turns_upto jInv1 hh' rfl (n := N.cells.length) (by omega) R1 F1 N1 ⟨[], _, ⟨rfl, rfl, trivial⟩, rfl, rfl, ⟨_, .nil⟩⟩ ?_ ?_
  · rintro i tt m₁ _ h tk It io hi ho ⟨vs, k1, hm, hmu, rfl, hvs⟩ F Nw
    obtain ⟨v, hv⟩ : ∃ v, pc[i]? = some v := ⟨_, List.getElem?_eq_getElem (by omega)⟩
    obtain ⟨pd, hpd, rv⟩ := rc.get.2 i v hv
    rw [List.getElem?_map, Option.map_eq_some_iff] at hpd
    obtain ⟨c, hc, rfl⟩ := hpd
    have hv' : pc[(i : Int).toNat]? = some v := by simpa using hv
    have hvl : vs.length ≤ 20 := by have := hvs.get.1; rw [List.length_map] at this; have := keptTo_len N K i; omega
    rw [bnd_of (ps := [(Str.ofString "netlist", .ref a), (Str.ofString "cells", .ref dC), (Str.ofString "used", .ref dU)]) ⟨hm.1, hm.2.1, hmu, trivial⟩] at F
    clear N1 F1 R1 hm hmu
    change Fr s.heap L' _ _ at F
    change News s.heap L' _ _ at Nw
    have hI1 : Dis dC It := ho _ (.head _)
    have hI2 : Dis dU It := ho _ (.tail _ (.head _))
    with_reducible show wpAny _ _ _ _ _ _
    k_fold
    repeat' (first | (k_unfold; (try dsimp only)) | walk1 | (dsimp only; walk1) | (leave1; (try dsimp only)))
    · rename Option.isSome _ = true => he
      have hin := (hLU _).mp he
      rename News _ _ _ _ => NZ
      rw [List.push_toArray] at NZ
      refine' turn_next (led' := [(dC, listOf (List.toArray (vs ++ [v])) (k1 + 1)), (dU, oU)]) ?F NZ ?hs ?ho ?hj
      case F => assumption
      case hj => exact ⟨_, k1 + 1, ⟨rfl, rfl, trivial⟩, rfl, rfl, by rw [keptTo_next hc, if_pos hin]; simpa using RdAll.snoc hvs rv⟩
      case hs => k_allIn
      case ho => k_all
    · rename Option.isSome _ = false => he
      have hni : (i : Int) ∉ K := fun q => by rw [(hLU _).mpr q] at he; cases he
      refine' turn_next (led' := [(dC, listOf (List.toArray vs) k1), (dU, oU)]) ?F ?Nn ?hs ?ho ?hj
      case F => assumption
      case Nn => assumption
      case hj => exact ⟨vs, k1, ⟨rfl, rfl, trivial⟩, rfl, rfl, by rw [keptTo_next hc, if_neg hni]; exact hvs⟩
      case hs => k_allIn
      case ho => k_all
  · rintro m₁ _ h tk ⟨vs, k1, hm, hmu, rfl, hvs⟩ F Nw
    rw [bnd_of hm] at F
    clear N1 F1 R1 hm hmu
    change Fr s.heap L' _ _ at F
    change News s.heap L' _ _ at Nw
    dsimp only
    repeat' (first | (k_unfold; (try dsimp only)) | walk1 | (dsimp only; walk1) | (leave1; (try dsimp only)))
    rename Fr _ _ _ _ => F
    rename News _ _ _ _ => Nw
    rename Obj.IsDictOf _ _ [] => isE
    rename FlatPairs _ _ [] => fE
    rename (_ == sysModules) = false => loE
    refine Hold.intro (wpAny_call (codeAny_mono (rebuilt_code (mg := mg) (mb := mb) hh' (HA'.keeps F.keep) (Gd.keeps ⟨X, T⟩ F.keep) (b₀ := b₀) (fun b o q => F.keep _ _ (hb₀ b o q)) NA OK ⟨_, (Nw _ (.tail _ (.head _))).1, rfl, _, rfl⟩ hvs (Nat.le_trans (keptTo_len N K _) hnc) (fun c hc => OK.cin c (keptTo_mem hc)) (TabAt.ofNews Nw (.head _) loE isE fE)) ?_))
    rintro _ _ ⟨x, ts, h3, tk3, rfl, rfl, k3, tf, na⟩
    dsimp only
    k_unfold
    dsimp only
    exact ⟨x, K, ts, h3, _, rfl, rfl, fun b o q => k3 _ _ (F.keep _ _ q), hKr, fun p hp => ⟨(tf p hp).1, fresh_pre F.keep (tf p hp).2⟩, na⟩
end
section
open PySem PySem.W PySem.Calls PyProof.Rows PyProof.V
set_option maxRecDepth 100000
example : ∀ w : World, ∀ h, (hd.heap_39 w.params).In h → PySem.Challenge.rw_on0094_01.Holds → True := by k_fill; intros; trivial
local macro_rules | `(tactic| walk_at "CompSrc") => `(tactic| refine Hold.of ?_)
local macro_rules | `(tactic| walk_at "CompEnd") => `(tactic| refine Hold.of ?_)
local macro_rules | `(tactic| walk_at "eval ListComp") => `(tactic| refine Hold.of ?_)
local macro_rules | `(tactic| walk_at "noteFrame ref") => `(tactic| refine Hold.of ?_)
local macro_rules | `(tactic| walk_at "call builtin:sorted") => `(tactic| refine Hold.of ?_)
local macro_rules | `(tactic| walk_at "compareOp NotEq ref ref") => `(tactic| refine Hold.of ?_)
local macro_rules | `(tactic| walk_at "compareOp Eq ref ref") => `(tactic| refine Hold.of ?_)
local macro_rules | `(tactic| k_inst) => `(tactic| exact InstAt.keeps' (by assumption) (all_keep (by assumption) (by assumption) (by assumption) (by intro p hp; repeat (first | exact hp | refine List.Mem.tail _ ?_))))
local macro_rules | `(tactic| k_ne) => `(tactic| (refine neN ?_; (try dsimp only); first | exact Dis.l (by assumption) | exact Dis.r (by assumption) | omega))
def RightBack (base : Heap) (s : Shared) (r : Result) (s' : Shared) : Prop :=
  Ex2 fun h' tk => r = .ok (.ret (.bool true)) ∧ s' = { s with heap := h', toks := tk } ∧ base.StaysIn h' ∧ s.heap.UpToSlots h'
theorem frames_push {H0 h : Heap} {env : Env} {rest : List Env} {L : Addr} {m : Str → Option Value} (F : Fr H0 L h m) (hf : env.frame = some L) (hk : env.scope.kind ≠ .module) (hFF : h.FunFrames H0 rest) : h.FunFrames H0 (env :: rest) :=
  .cons hk hf F.ns (by
    cases q : H0.get? L with
    | none => rfl
    | some o => exact absurd (Nat.lt_of_lt_of_le (Heap.lt_size q) F.above) (Nat.lt_irrefl _)) hFF
theorem dict_len {prog : Program} {w : World} {o : Obj} {kvs : List (Int × Value)} (h : o.IsDictOf (intKind prog w) kvs) : (kvs.map (·.1)).Nodup := by
  obtain ⟨_, _, _, _, _, _, hn⟩ := h
  exact hn
theorem told_kept {N : Nl} {xs K : List Int} (h : Told N xs) (hK : ∀ y, y ∈ K ↔ ∃ k : Nat, y = (k : Int) ∧ Reach N k) : keptTo N K N.cells.length = xs.filterMap fun x => N.cells[x.toNat]? := by
  have e : xs = ((List.range N.cells.length).filter fun k : Nat => decide ((k : Int) ∈ K)).map fun k : Nat => (k : Int) := by
    refine sorted_unique h.1 ?_ fun x => ?_
    · rw [List.pairwise_map]
      exact (List.pairwise_lt_range.filter _).imp fun h => by omega
    · rw [h.2 x]
      simp only [List.mem_map, List.mem_filter, List.mem_range, decide_eq_true_eq]
      constructor
      · rintro ⟨k, rfl, hr⟩
        exact ⟨k, ⟨hr.lt, (hK _).mpr ⟨k, rfl, hr⟩⟩, rfl⟩
      · rintro ⟨k, ⟨_, hk⟩, rfl⟩
        obtain ⟨j, hj, hr⟩ := (hK _).mp hk
        exact ⟨k, rfl, by rw [show k = j by omega]; exact hr⟩
  rw [e, List.filterMap_map]
  unfold keptTo
  congr 1
theorem inst52 {h : Heap} {e dy : Addr} {oe od : Obj} {evs : Array Value} (he : h.get? e = some oe) (hc : oe.cls = .ref 52) (hdd : oe.data = .fields evs) (hdx : oe.dict = some dy) (hdy : h.get? dy = some od) : W.InstAt h e oe 52 (some od) := by
  refine ⟨he, hc, by unfold notCls; rw [hdd], ?_⟩
  rw [hdx]; exact hdy
theorem rd_list {h : Heap} {l : Addr} {vs : List Value} {ds : List PyData} (hl : h.IsList l vs.toArray) (r : RdAll h vs ds) : Rd h (.ref l) (.list ds) := by
  obtain ⟨o, e, c, n, d⟩ := hl
  obtain ⟨as, r⟩ := r
  exact ⟨_, .list e c d r⟩
theorem rd_ints {h : Heap} {l : Addr} {vs : List Value} {ns : List Int} {n : Nat} (e : h.get? l = some (listOf vs.toArray n)) (i : IntsAre vs ns) : Rd h (.ref l) (.list (ns.map .int)) := ⟨_, .list e rfl rfl (i.reads h)⟩
theorem TwiceBack.use {N : Nl} {s : Shared} {Q : Result → Shared → Prop} (k : ∀ t h' tk, (∀ b o, s.heap.get? b = some o → h'.get? b = some o) → Q (.ok (.ret (.str (dupStr (dupOf N)) t))) { s with heap := h', toks := tk }) : ∀ r s', TwiceBack N s r s' → Q r s' := by
  rintro _ _ ⟨t, h', tk, rfl, rfl, h⟩; exact k t h' tk h
theorem NeededBack.use {N : Nl} {s : Shared} {Q : Result → Shared → Prop} (k : ∀ l n vs xs h' tk, (∀ b o, s.heap.get? b = some o → h'.get? b = some o) → h'.get? l = some (listOf (List.toArray vs) n) → IntsAre vs xs → Told N xs → s.heap.get? l = none → Q (.ok (.ret (.ref l))) { s with heap := h', toks := tk }) : ∀ r s', NeededBack N s r s' → Q r s' := by
  rintro _ _ ⟨l, n, vs, xs, h', tk, rfl, rfl, a, b, c, d, e⟩; exact k l n vs xs h' tk a b c d e
theorem DropBack.use {b₀ : Heap} {N : Nl} {s : Shared} {Q : Result → Shared → Prop} (k : ∀ x K ts h' tk, (∀ b o, s.heap.get? b = some o → h'.get? b = some o) → (∀ y, y ∈ K ↔ ∃ k : Nat, y = (k : Int) ∧ Reach N k) → (∀ p ∈ ts, h'.get? p.1 = some p.2 ∧ s.heap.get? p.1 = none) → MkNet b₀ ts x { N with cells := keptTo N K N.cells.length } → Q (.ok (.ret (.ref x))) { s with heap := h', toks := tk }) : ∀ r s', DropBack b₀ N s r s' → Q r s' := by
  rintro _ _ ⟨x, K, ts, h', tk, rfl, rfl, a, b, c, d⟩; exact k x K ts h' tk a b c d
set_option maxHeartbeats 1500000 in
theorem right_code {w : World} {mg mb : Str → Option Value} {A : Around} {s : Shared} {a : Addr} {N : Nl} {base : Heap} {env : Env} {Lf : Addr} {oF : Obj}
    (hhA : A.handled = none) (HA : Ar 8 A base) (D : Gd w mg mb base) (NA : NetAt base a N) (OK : N.Ok) (FIT : N.Fit)
    (hfr : A.frames = some [env]) (hef : env.frame = some Lf) (hkb : base.StaysIn s.heap) (hFF : s.heap.FunFrames base [env]) (hLf : s.heap.get? Lf = some oF) (hbf : base.get? Lf = none) :
    codeAny (model PR w) A (.call (.ref 195) ⟨[.ref a], []⟩) (RightBack base s) s := by
  have kH : ∀ b o, base.get? b = some o → (hideAll s.heap [Lf]).get? b = some o := fun b o e => hideAll_get _ (hkb b o e) fun q => by rw [List.mem_singleton.mp q, hbf] at e; cases e
  refine' enter_cells (binds := [(Str.ofString "made", .ref a)]) 7 [(Lf, oF)] (by intro p hp; rcases List.mem_singleton.mp hp with rfl; exact hLf) (HA.keeps kH) (D.keeps kH) ?k6 ?k7 ?k9 ?kB ?kD ?_ ?c2 ?c3 ?c4
  case k6 => k_is
  case k7 => k_is
  case k9 => exact BindsTo.of_eq rfl
  case kB => exact rfl
  case kD => decide +kernel
  case c2 => exact rfl
  case c3 => exact rfl
  case c4 => exact rfl
  intro A' L' h₁ tk cells hL hh hfr' HA' Fz Nz Y hk hlt
  have D' := D.keeps kH
  have NA' := NA.keeps kH
  have FF' := funFrames_hide (as := [Lf]) hFF (by intro v hv b hb; rw [List.mem_singleton.mp hv, hef] at hb; cases hb; exact .head _)
  change Fr (hideAll s.heap [Lf]) _ _ _ at Fz
  change News (hideAll s.heap [Lf]) _ _ _ at Nz
  change Ar 7 A' (hideAll s.heap [Lf]) at HA'
  have hsz : s.heap.UpToSlots h₁ := .of_keeps hk
  have hFF1 : h₁.FunFrames (hideAll s.heap [Lf]) [env] := FF'.of_keeps fun b o q _ => ⟨o, hk b o q, rfl⟩
  have hh' : A'.handled = none := hh.trans hhA
  rw [hfr] at hfr'
  change A'.frames = some [_, env] at hfr'
  have hfl : (hideAll s.heap [Lf]).objs.size ≤ L' := Fz.above
  obtain ⟨hkd, ⟨Lf1, oF1, e1, -, e3, hnf⟩, -⟩ := id hFF1
  obtain rfl : Lf = Lf1 := Option.some.inj (hef.symm.trans e1)
  obtain rfl : oF = oF1 := Option.some.inj ((hk _ _ hLf).symm.trans e3)
  clear e1 e3
  clear FF' hlt
  k_cells Y
  rename_i oc hoc
  replace hoc : oc.data = .cell (some (.ref a)) := hoc
  simp only [List.cons_append, List.nil_append] at Nz
  generalize hH0 : hideAll s.heap [Lf] = H0 at *
  have X := D'.K
  have T := D'.T
  refine NetAt.use NA' ?_
  intro dx n h1 h2 h3 h4 h5 t1 t2 t3 t4 t5 un uc li lo lc pi po pc HI hli ri hlo ro hlc rc
  clear D HA NA
  with_reducible show wpAny _ _ _ _ _ _
  k_fold
  repeat' (first | (k_unfold; (try dsimp only)) | walk1 | (dsimp only; walk1) | (leave1; (try dsimp only)))
  refine wpAny_Try_except ?_
  repeat' (first | (k_unfold; (try dsimp only)) | walk1 | (dsimp only; walk1) | (leave1; (try dsimp only)))
  refine Hold.intro (wpAny_call (codeAny_mono (used_code (mg := mg) (mb := mb) (base := H0) hh' ((HA'.less 5 (by omega)).keeps Fz.keep) (Gd.keeps ⟨X, T⟩ Fz.keep) (NA'.keeps Fz.keep) OK hfr' Fz.keep (frames_push Fz rfl (fun q => by cases q) hFF1)) ?_))
  rintro _ _ (⟨hdup, dU, h₂, tk2, rfl, rfl, k2, nD, oU, kvU, DU, K, hDD, loU, isU, fU, hLU, hlU, hKr⟩ | ⟨x, e, h₂, tk2, hdup, rfl, rfl, FL⟩)
  · have F1 : Fr H0 L' h₂ _ := Fz.keeps k2
    have N1 : News H0 L' h₂ _ := News.cons (b := dU) (o := oU) ⟨hDD, (fun q => by
      obtain ⟨o, _, _, ho, _⟩ := Fz.ns
      change h₁.get? dU = none at nD
      rw [q, ho] at nD
      cases nD), fresh_pre Fz.keep nD⟩ (News.up Nz k2)
    clear hDD
    dsimp only
    repeat' (first | (k_unfold; (try dsimp only)) | walk1 | (dsimp only; walk1) | (leave1; (try dsimp only)))
    refine Hold.intro (sorted_dict hh' F1 N1 (.head _) loU isU (by have := fU.length; omega) fun lT h3 tk3 vs ns eT F2 N2 l2 hvs hperm hsrt => ?_)
    have hTold : Told N ns := Told.of (dict_len isU) hperm hsrt fun x => (mem_keys fU x).trans ((hLU x).trans (hKr x))
    have hns : ns.length ≤ 20 := by have := hperm.length_eq; have := fU.length; rw [List.length_map] at *; omega
    clear F1 N1 Fz Nz k2 hperm hsrt
    simp only [List.forall_mem_cons] at l2
    dsimp only
    repeat' (first | (k_unfold; (try dsimp only)) | walk1 | (dsimp only; walk1) | (leave1; (try dsimp only)))
    rename Fr _ _ _ _ => F3
    rename News _ _ _ _ => N3
    refine Hold.intro (wpAny_call (codeAny_mono (twice_code (mg := mg) (mb := mb) ((HA'.less 1 (by omega)).keeps F3.keep) (Gd.keeps ⟨X, T⟩ F3.keep) (NA'.keeps F3.keep) OK) (TwiceBack.use ?_)))
    intro t6 h6 tk6 k6
    have F4 := F3.keeps k6
    have N4 := News.up N3 k6
    clear F3 N3
    rw [hdup]
    dsimp only [dupStr]
    repeat' (first | (k_unfold; (try dsimp only)) | walk1 | (dsimp only; walk1) | (leave1; (try dsimp only)))
    refine Hold.intro (wpAny_call (codeAny_mono (needed_code (mg := mg) (mb := mb) hh' ((HA'.less 1 (by omega)).keeps F4.keep) (Gd.keeps ⟨X, T⟩ F4.keep) (NA'.keeps F4.keep) OK) (NeededBack.use ?_)))
    intro lN nN vN xN h7 tk7 k7 hlN hvN hTN nlN
    have hxx : xN = ns := hTN.unique hTold
    subst hxx
    have F5 := F4.keeps k7
    have N5 := News.up N4 k7
    have cmp1 : Rd h7 (.ref lT) (.list (xN.map .int)) := rd_ints (N5 _ (.head _)).1 hvs
    clear F4 N4
    dsimp only
    refine ne_same cmp1 (rd_ints hlN hvN) (shaped_ints _) (by have := HA'.hu; omega) ?_
    repeat' (first | (k_unfold; (try dsimp only)) | walk1 | (dsimp only; walk1) | (leave1; (try dsimp only)))
    have nf := N5 _ (.tail _ (.tail _ (.tail _ (.head _))))
    refine Hold.intro (wpAny_call (codeAny_mono (drop_code (mg := mg) (mb := mb) (base := H0) hh' ((HA'.less 6 (by omega)).keeps F5.keep) (Gd.keeps ⟨X, T⟩ F5.keep) (b₀ := H0) F5.keep NA' OK hdup hfr' F5.keep (frames_push F5 rfl (fun q => by cases q) ⟨hkd, ⟨_, _, hef, nf.2.2, nf.1, hnf⟩, trivial⟩)) (DropBack.use ?_)))
    intro x K2 ts h8 tk8 k8 hK2 tf na
    have F6 := F5.keeps k8
    have N6 := News.up N5 k8
    obtain ⟨tA, NA6, hA6⟩ := all_led h8 H0 L' F6.keep
    have na8 := na (hideAll h8 [L']) (fun b o e => hideAll_get _ (F6.keep b o e) fun q => by rw [List.mem_singleton.mp q] at e; exact absurd (Nat.lt_of_lt_of_le (Heap.lt_size e) F6.above) (Nat.lt_irrefl _)) (fun p hp => hideAll_get _ (tf p hp).1 fun q => by
      obtain ⟨o, _, _, ho, _⟩ := F5.ns
      have := (tf p hp).2
      rw [List.mem_singleton.mp q] at this
      change h7.get? L' = none at this
      rw [ho] at this; cases this)
    have N7 : News H0 L' h8 ((lT, listOf (List.toArray vs) eT) :: (dU, oU) :: (L' + 1, oc) :: tA) := fun p hp => by
      rcases List.mem_cons.mp hp with rfl | hp
      · exact N6 _ (.head _)
      · rcases List.mem_cons.mp hp with rfl | hp
        · exact N6 _ (.tail _ (.head _))
        · rcases List.mem_cons.mp hp with rfl | hp
          · exact N6 _ (.tail _ (.tail _ (.head _)))
          · exact NA6 _ hp
    refine NetAt.use na8 ?_
    intro dy ny g1 g2 g3 g4 g5 r1 r2 r3 r4 r5 uny ucy liy loy lcy piy poy pcy HIy hliy riy hloy roy hlcy rcy
    have hLf8 : (hideAll h8 [L']).get? Lf = some oF := hideAll_get _ (N6 _ (.tail _ (.tail _ (.tail _ (.head _))))).1 fun q => (N6 _ (.tail _ (.tail _ (.tail _ (.head _))))).2.1 (List.mem_singleton.mp q)
    clear F5 N5 N6 NA6 tf na na8 k7 k6 k8 hlN cmp1 nf
    generalize hHD : hideAll h8 [L'] = HD at *
    dsimp only
    have hpc : pc.length = N.cells.length := by simpa using rc.get.1
    have hnc := OK.ncell
    have hvl := hvs.length
    have hcel : ((xN.filterMap fun y => N.cells[y.toNat]?).map encCel) = (keptTo N K2 N.cells.length).map encCel := by rw [told_kept hTold hK2]
    repeat' (first | (k_unfold; (try dsimp only)) | walk1 | (dsimp only; walk1) | (leave1; (try dsimp only)))
    refine Hold.intro (LCg.ListComp_U (F₀ := by assumption) (by with_unfolding_all rfl) (by decide) (by rfl) (by decide) (by rfl) ?_)
    repeat' (first | (k_unfold; (try dsimp only)) | walk1 | (dsimp only; walk1) | (leave1; (try dsimp only)))
    let jInv1 := fun (j : Nat) (ys : List Value) (news' : List (Addr × Obj)) => RdAll H0 ys (((xN.take j).filterMap fun y => N.cells[y.toNat]?).map encCel) ∧ news' = (lT, listOf (List.toArray vs) eT) :: (dU, oU) :: (L' + 1, oc) :: tA
    refine Hold.intro (LCg.CompSrc.ledger hh' (news := (lT, listOf (List.toArray vs) eT) :: (dU, oU) :: (L' + 1, oc) :: tA) (by assumption) (by assumption) (.head _) (by rw [List.size_toArray, sizeLine_eq]; omega) fun g => comp_inv jInv1 ⟨⟨_, .nil⟩, rfl⟩ ?_ ?_)
    · rintro j ys news v I2 oI2 C2 oC2 D2 m₂ hq tkq E2 hj ⟨hys, rfl⟩ hv2 hC2 hm2 F2 N2 off ⟨q1, q2, q3⟩
      obtain ⟨z, zt, hz, rfl⟩ := ints_at hvs (by simpa using hv2)
      obtain ⟨k, rfl, hr⟩ := (hTold.2 z).mp (List.mem_of_getElem? hz)
      have hkl := hr.lt
      obtain ⟨u, hu⟩ : ∃ u, pc[k]? = some u := ⟨_, List.getElem?_eq_getElem (by omega)⟩
      obtain ⟨pd, hpd, rv⟩ := rc.get.2 k u hu
      rw [List.getElem?_map, Option.map_eq_some_iff] at hpd
      obtain ⟨c, hc, rfl⟩ := hpd
      have hu' : pc[(k : Int).toNat]? = some u := by simpa using hu
      with_reducible show wpAny _ _ _ _ _ _
      k_fold
      repeat' (first | (k_unfold; (try dsimp only)) | walk1 | (dsimp only; walk1) | (leave1; (try dsimp only)))
      rename Fr _ _ _ _ => F3
      rename News _ _ _ _ => N3
      refine Hold.intro (LCg.CompEnd.intro F3 N3 _ (fun _ q => q) off (.inr ⟨_, .head _, rfl, _, rfl⟩) ⟨?_, rfl⟩)
      rw [List.take_add_one, hz]
      simpa [hc] using RdAll.snoc hys rv
    · rintro ys news ⟨hys, rfl⟩
      rw [List.size_toArray, hvl, List.take_length, hcel] at hys
      repeat' (first | (k_unfold; (try dsimp only)) | walk1 | (dsimp only; walk1) | (leave1; (try dsimp only)))
      rename Fr _ _ _ _ => F3
      rename News _ _ _ _ => N3
      have kD := all_keep hA6 F3 N3 (by intro p hp; repeat (first | exact hp | refine List.Mem.tail _ ?_))
      refine Hold.intro (ne_same ((rd_list hlcy rcy).keeps kD) (rd_list ⟨_, (N3 _ (.head _)).1, rfl, _, rfl⟩ (hys.keeps F3.keep)) (shaped_cells fun c hc => FIT.celS c (keptTo_mem hc)) (by have := HA'.hu; omega) ?_)
      repeat' (first | (k_unfold; (try dsimp only)) | walk1 | (dsimp only; walk1) | (leave1; (try dsimp only)))
      · exfalso
        rename_i hbad
        exact absurd rfl hbad
      · rename Fr _ _ _ _ => F4
        rename News _ _ _ _ => N4
        have kD4 := all_keep hA6 F4 N4 (by intro p hp; repeat (first | exact hp | refine List.Mem.tail _ ?_))
        refine Hold.intro (eq_same ((rd_list hliy riy).keeps kD4) ((rd_list hli ri).keeps F4.keep) (shaped_ports FIT.inS) (by have := HA'.hu; omega) ?_)
        repeat' (first | (k_unfold; (try dsimp only)) | walk1 | (dsimp only; walk1) | (leave1; (try dsimp only)))
        rename Fr _ _ _ _ => F5
        rename News _ _ _ _ => N5
        have kD5 := all_keep hA6 F5 N5 (by intro p hp; repeat (first | exact hp | refine List.Mem.tail _ ?_))
        refine Hold.intro (eq_same ((rd_list hloy roy).keeps kD5) ((rd_list hlo ro).keeps F5.keep) (shaped_ports FIT.outS) (by have := HA'.hu; omega) ?_)
        repeat' (first | (k_unfold; (try dsimp only)) | walk1 | (dsimp only; walk1) | (leave1; (try dsimp only)))
        rename Fr _ _ _ _ => F6
        rename News _ _ _ _ => N6
        have kD6 := all_keep hA6 F6 N6 (by intro p hp; repeat (first | exact hp | refine List.Mem.tail _ ?_))
        dsimp only
        refine ⟨_, _, rfl, rfl, fun b o q => F6.keep _ _ (kH b o q), .of_keeps fun b o q => ?_⟩
        by_cases hb : b = Lf
        · subst hb
          obtain rfl := Option.some.inj (hLf.symm.trans q)
          exact kD6 _ _ hLf8
        · exact F6.keep _ _ (hH0 ▸ hideAll_get _ q (by simpa using hb))
  · obtain ⟨hu, B, dy, stB, n1, n2, hd, n3, hs, hF, hT⟩ := FL
    dsimp only
    refine note_on_X (base := B) hfr' hF rfl hT hs n3 fun h3 S3 => flight_X S3.1 S3.2.1 S3.2.2.1 fun h4 S4 => handle52_as ?_
    have u4 : h₁.UpToSlots h4 := (hu.trans S3.2.2.2).trans S4.2.2.2
    have st4 : H0.StaysIn h4 := fun b o q => S4.1 _ _ (stB _ _ q)
    have F4 := Fz.of_stays st4 u4
    have K52 : h4.get? 52 = some o52 := st4 _ _ (X _ _ (synth_obj w))
    have N4 : News H0 L' h4 [] := PyProof.Rows.News.nil
    clear hF hs S3
    walk1
    refine ⟨rfl, K52, ?_, ?_⟩
    · obtain ⟨oe, _, _, _, _, he, hc, _⟩ := S4.2.2.1
      exact ⟨oe, he, hc⟩
    refine flight_X (base := B) S4.1 S4.2.1 S4.2.2.1 fun h5 S5 => ?_
    have u5 := u4.trans S5.2.2.2
    have st5 : H0.StaysIn h5 := fun b o q => S5.1 _ _ (stB _ _ q)
    have F5 := Fz.of_stays st5 u5
    have T5 := S5.2.2.1
    obtain ⟨oe, evs, Tt, oT, tts, he, hcls, hdx, hdd, -, hctx, -⟩ := id T5
    obtain ⟨-, ⟨L1, o1, hf1, hn1, ho1, hd1⟩, -⟩ := S5.2.1
    obtain rfl : L' = L1 := Option.some.inj hf1
    obtain ⟨z1, z2, z3, v1, v2, v3, w1, w2, w3, nz, hdy⟩ := hd
    obtain ⟨sl, hsl⟩ := u5 _ _ (Nz _ (.head _)).1 fun vs q => by rw [hoc] at q; cases q
    obtain ⟨slF, hslF⟩ := u5 _ _ (Nz _ (.tail _ (.head _))).1 hnf
    have N5 := News.cons (h₀ := H0) (L := L') (h := h5) (b := e) (o := oe) ⟨he, (fun q => by rw [q, ho1] at he; cases he; exact hd1 _ hdd), n2⟩ (News.cons (b := dy) ⟨S5.1 _ _ hdy, (fun q => by rw [q, hn1] at hdy; cases hdy), n1⟩ (News.cons (b := L' + 1) ⟨hsl, (Nz _ (.head _)).2⟩ (News.cons (b := Lf) ⟨hslF, (Nz _ (.tail _ (.head _))).2⟩ PyProof.Rows.News.nil)))
    have hoc5 : ({ oc with slots := sl } : Obj).data = .cell (some (.ref a)) := hoc
    generalize ({ oc with slots := sl } : Obj) = oc5 at *
    clear F4 N4 Fz Nz
    repeat' (first | (k_unfold; (try dsimp only)) | walk1 | (dsimp only; walk1) | (leave1; (try dsimp only)))
    rename Fr _ _ _ _ => F6
    rename News _ _ _ _ => N6
    refine get52 (K := hd.heap_39 w.params) (X.keeps F6.keep) (F6.keep _ _ (X _ _ (synth_obj w))) (inst52 (N6 _ (.head _)).1 hcls hdd hdx (N6 _ (.tail _ (.head _))).1) (by k_is) (by k_is) (findObj_own (attr := none) (by k_is) (by k_is) rfl rfl) rfl ?_
    repeat' (first | (k_unfold; (try dsimp only)) | walk1 | (dsimp only; walk1) | (leave1; (try dsimp only)))
    rename Fr _ _ _ _ => F7
    rename News _ _ _ _ => N7
    refine get52 (K := hd.heap_39 w.params) (X.keeps F7.keep) (F7.keep _ _ (X _ _ (synth_obj w))) (inst52 (N7 _ (.head _)).1 hcls hdd hdx (N7 _ (.tail _ (.head _))).1) (by k_is) (by k_is) (findObj_own (attr := none) (by k_is) (by k_is) rfl rfl) rfl ?_
    repeat' (first | (k_unfold; (try dsimp only)) | walk1 | (dsimp only; walk1) | (leave1; (try dsimp only)))
    rename Fr _ _ _ _ => F8
    rename News _ _ _ _ => N8
    refine Hold.intro (wpAny_call (codeAny_mono (twice_code (mg := mg) (mb := mb) ⟨.inr ⟨e, oe, evs, rfl, (N8 _ (.head _)).1, hdd, hctx⟩, by have := HA'.hd; show A'.depth + 1 < _; omega, by have := HA'.hu; show A'.units + 40 * 1 + 100 < _; omega⟩ (Gd.keeps ⟨X, T⟩ F8.keep) (NA'.keeps F8.keep) OK) (TwiceBack.use ?_)))
    intro t9 h9 tk9 k9
    have F9 := F8.keeps k9
    have N9 := News.up N8 k9
    clear F8 N8
    rw [hdup]
    dsimp only [dupStr]
    repeat' (first | (k_unfold; (try dsimp only)) | walk1 | (dsimp only; walk1) | (leave1; (try dsimp only)))
    rename Fr _ _ _ _ => FX
    rename News _ _ _ _ => NX
    refine wpAny_nameGoes_keeps rfl FX.ns rfl fun h' v hn hs => ?_
    have FY := FX.set hn hs
    have kf := NX _ (.tail _ (.tail _ (.tail _ (.head _))))
    have kf' : h'.get? Lf = some { oF with slots := slF } := (hs.2 Lf kf.2.1).trans kf.1
    dsimp only
    refine ⟨_, _, ?_, rfl, fun b o q => FY.keep _ _ (kH b o q), fun b o q hn2 => ?_⟩
    · simp
    · by_cases hb : b = Lf
      · subst hb
        obtain rfl := Option.some.inj (hLf.symm.trans q)
        exact ⟨_, kf'⟩
      · exact ⟨o.slots, FY.keep _ _ (hH0 ▸ hideAll_get _ q (by simpa using hb))⟩
end
section
open PySem PySem.W PySem.Calls PyProof.Rows PyProof.V
set_option maxRecDepth 100000
example : ∀ w : World, ∀ h, (hd.heap_39 w.params).In h → PySem.Challenge.rw_on0094_01.Holds → True := by k_fill; intros; trivial
def NetBack (dx : Addr) (E' : Value → Tok → Obj) (ct : Int) (s : Shared) (r : Result) (s' : Shared) : Prop :=
  Ex4 fun u u' h' tk => r = .ok (.ret (.int ct u)) ∧ s' = { s with heap := h', toks := tk } ∧ (∀ b o, s.heap.get? b = some o → b ≠ dx → h'.get? b = some o) ∧ h'.get? dx = some (E' (.int (ct + 1) u') u')
set_option maxHeartbeats 1500000 in
theorem newnet_code {w : World} {mg mb : Str → Option Value} {A : Around} {s : Shared} {a dx lc li lo : Addr} {n : Nat} {h1 h2 h3 h4 h5 : Int} {t1 t2 t3 t4 t5 : Tok} {nm : Value} {ct : Int} {tc : Tok}
    (HA : Ar 1 A (hideAll s.heap [a, dx])) (D : Gd w mg mb (hideAll s.heap [a, dx])) (hx : s.heap.get? a = some (instObj 127 dx)) (hne : a ≠ dx)
    (hdx : s.heap.get? dx = some (dictOf (netD h1 h2 h3 h4 h5 t1 t2 t3 t4 t5 nm (.int ct tc) li lo lc) n)) (hc : 0 ≤ ct ∧ ct < 1000) :
    codeAny (model PR w) A (.call (.ref 75) ⟨[.ref a], []⟩) (NetBack dx (fun v _ => dictOf (netD h1 h2 h3 h4 h5 t1 t2 t3 t4 t5 nm v li lo lc) n) ct s) s := by
  refine' enter_pure (binds := [(Str.ofString "self", .ref a)]) 0 [(a, instObj 127 dx), (dx, dictOf (netD h1 h2 h3 h4 h5 t1 t2 t3 t4 t5 nm (.int ct tc) li lo lc) n)] (by intro p hp; cases hp with | head => exact hx | tail _ h => (cases h with | head => exact hdx | tail _ h => cases h)) HA D ?k6 ?k7 ?k9 ?kB ?_ ?c2 ?c3 ?c4 ?c5
  case k6 => k_is
  case k7 => k_is
  case k9 => exact BindsTo.of_eq rfl
  case c5 => decide
  case kB => exact locs rfl
  case c2 => exact rfl
  case c3 => exact rfl
  case c4 => exact rfl
  intro A' L' h₁ hL hh HA' F N hk
  have X := D.K
  have T := D.T
  have hne' : @Ne Nat a dx := hne
  change Fr (hideAll s.heap [a, dx]) _ _ _ at F
  change News (hideAll s.heap [a, dx]) _ _ _ at N
  with_reducible show wpAny _ _ _ _ _ _
  k_fold
  repeat' (first | (k_unfold; (try dsimp only)) | walk1 | (dsimp only; walk1) | (leave1; (try dsimp only)))
  rename Fr _ _ _ _ => F
  rename News _ _ _ _ => N
  refine' set_dict (es' := netD h1 h2 h3 h4 h5 t1 t2 t3 t4 t5 nm (.int (ct + 1) _) li lo lc) (n' := n) ?k1 ?k2 ?k3 ?k4 ?k5 ?k6 ?k7 ?k8 ?k9 ?k10 ?k11 ?k12 ?k13 ?_
  case k1 => exact F
  case k2 => exact X
  case k3 => exact N
  case k4 => exact InstAt.of_news N (.head _) (.tail _ (.head _))
  case k5 => exact rfl
  case k6 => k_is
  case k7 => k_is
  case k8 => k_is
  case k9 => k_is
  case k10 => exact rfl
  case k11 => exact rfl
  case k12 => k_upd
  case k13 => exact Nat.le_of_ble_eq_true rfl
  intro h' F' N'
  clear F N
  repeat' (first | (k_unfold; (try dsimp only)) | walk1 | (dsimp only; walk1) | (leave1; (try dsimp only)))
  rename Fr _ _ _ _ => F
  rename News _ _ _ _ => N
  dsimp only
  refine ⟨_, _, _, _, rfl, rfl, fun b o q hb => ?_, (N _ (.tail _ (.head _))).1⟩
  by_cases hba : b = a
  · subst hba
    obtain rfl := Option.some.inj (hx.symm.trans q)
    exact (N _ (.head _)).1
  · exact F.keep b o (hideAll_get _ q (by simp [hba, hb]))
end
section
open PySem PySem.W PySem.Calls PyProof.Rows PyProof.V
set_option maxRecDepth 100000
example : ∀ w : World, ∀ h, (hd.heap_39 w.params).In h → PySem.Challenge.rw_on0094_01.Holds → True := by k_fill; intros; trivial
local macro_rules | `(tactic| walk_at "CompSrc") => `(tactic| refine Hold.of ?_)
local macro_rules | `(tactic| walk_at "CompEnd") => `(tactic| refine Hold.of ?_)
local macro_rules | `(tactic| k_inst) => `(tactic| exact InstAt.of_news (by assumption) (by k_mem) (by k_mem))
def NetsBack (dx : Addr) (E' : Value → Obj) (ct : Int) (wd : Nat) (s : Shared) (r : Result) (s' : Shared) : Prop :=
  Ex6 fun l n ys u' h' tk => r = .ok (.ret (.ref l)) ∧ s' = { s with heap := h', toks := tk } ∧ (∀ b o, s.heap.get? b = some o → b ≠ dx → h'.get? b = some o) ∧ h'.get? dx = some (E' (.int (ct + wd) u')) ∧
    s.heap.get? l = none ∧ h'.get? l = some (listOf (List.toArray ys) n) ∧ IntsAre ys ((List.range wd).map fun i : Nat => ct + (i : Int))
set_option maxHeartbeats 1500000 in
theorem newnets_code {w : World} {mg mb : Str → Option Value} {A : Around} {s : Shared} {a dx lc li lo : Addr} {n : Nat} {h1 h2 h3 h4 h5 : Int} {t1 t2 t3 t4 t5 : Tok} {nm : Value} {ct : Int} {tc tw : Tok} {wd : Nat}
    (hhA : A.handled = none) (HA : Ar 2 A (hideAll s.heap [a, dx])) (D : Gd w mg mb (hideAll s.heap [a, dx])) (hx : s.heap.get? a = some (instObj 127 dx)) (hne : a ≠ dx)
    (hdx : s.heap.get? dx = some (dictOf (netD h1 h2 h3 h4 h5 t1 t2 t3 t4 t5 nm (.int ct tc) li lo lc) n)) (hc : 0 ≤ ct ∧ ct < 900) (hw : wd ≤ 20) :
    codeAny (model PR w) A (.call (.ref 80) ⟨[.ref a, .int (wd : Int) tw], []⟩) (NetsBack dx (fun v => dictOf (netD h1 h2 h3 h4 h5 t1 t2 t3 t4 t5 nm v li lo lc) n) ct wd s) s := by
  refine' enter_cells (binds := [(Str.ofString "self", .ref a), (Str.ofString "width", .int (wd : Int) tw)]) 1 [(a, instObj 127 dx), (dx, dictOf (netD h1 h2 h3 h4 h5 t1 t2 t3 t4 t5 nm (.int ct tc) li lo lc) n)] (by intro p hp; cases hp with | head => exact hx | tail _ h => (cases h with | head => exact hdx | tail _ h => cases h)) HA D ?k6 ?k7 ?k9 ?kB ?kD ?_ ?c2 ?c3 ?c4
  case k6 => k_is
  case k7 => k_is
  case k9 => exact BindsTo.of_eq rfl
  case kB => exact rfl
  case kD => decide +kernel
  case c2 => exact rfl
  case c3 => exact rfl
  case c4 => exact rfl
  intro A' L' h₁ tk cells hL hh hfr HA' F N Y hk hlt
  have X := D.K
  have T := D.T
  have hh' : A'.handled = none := hh.trans hhA
  have hne' : @Ne Nat a dx := hne
  change Fr (hideAll s.heap [a, dx]) _ _ _ at F
  change News (hideAll s.heap [a, dx]) _ _ _ at N
  change Ar 1 A' (hideAll s.heap [a, dx]) at HA'
  clear hfr
  k_cells Y
  rename_i oc hoc
  replace hoc : oc.data = .cell (some (.ref a)) := hoc
  simp only [List.cons_append, List.nil_append] at N
  have la := ltN (hlt _ (.head _))
  have ld := ltN (hlt _ (.tail _ (.head _)))
  dsimp only at la ld
  with_reducible show wpAny _ _ _ _ _ _
  k_fold
  repeat' (first | (k_unfold; (try dsimp only)) | walk1 | (dsimp only; walk1) | (leave1; (try dsimp only)))
  rename Fr _ _ _ _ => F1
  rename News _ _ _ _ => N1
  rename IsRange _ _ _ _ _ _ _ _ => R1
  let jInv1 := fun (j : Nat) (ys : List Value) (news' : List (Addr × Obj)) => ∃ u, news' = (L' + 1, oc) :: (a, instObj 127 dx) :: (dx, dictOf (netD h1 h2 h3 h4 h5 t1 t2 t3 t4 t5 nm (.int (ct + (j : Int)) u) li lo lc) n) :: [] ∧ IntsAre ys ((List.range j).map fun i : Nat => ct + (i : Int))
  refine Hold.intro (LCg.CompSrc.range (n := wd) hh' F1 N1 R1 (small_one (by omega) (by omega) (by omega) (by omega)) (by rw [rangeSize_nat]; congr 1) (by rw [sizeLine_eq]; omega) fun g => comp_inv jInv1 ⟨tc, by simp, .nil⟩ ?_ ?_)
  · rintro j ys news v I2 oI2 C2 oC2 D2 m₂ hq tkq E2 hj ⟨u, rfl, hys⟩ hv2 hC2 hm2 F2 N2 off ⟨q1, q2, q3⟩
    with_reducible show wpAny _ _ _ _ _ _
    k_fold
    repeat' (first | (k_unfold; (try dsimp only)) | walk1 | (dsimp only; walk1) | (leave1; (try dsimp only)))
    rename Fr _ _ _ _ => F3
    rename News _ _ _ _ => N3
    have off2 := off
    simp only [LCg.Off3, and_true] at off2
    have kk0 : ∀ b o, (hideAll s.heap [a, dx]).get? b = some o → (hideAll hq [a, dx]).get? b = some o := fun b o e => hideAll_get _ (F3.keep b o e) fun q => by rw [hideAll_none _ q] at e; cases e
    refine Hold.intro (wpAny_call (codeAny_mono (newnet_code (mg := mg) (mb := mb) (HA'.keeps kk0) (Gd.keeps ⟨X, T⟩ kk0) (N3 (a, instObj 127 dx) (by k_mem)).1 hne (N3 (dx, _) (by k_mem)).1 (by omega)) ?_))
    rintro _ _ ⟨v2, u2, h3, tk3, rfl, rfl, kk, e3⟩
    obtain ⟨F4, N4⟩ := upd_call F3 N3 (by k_updF) kk e3
    dsimp only
    refine LCg.CompEnd.intro F4 N4 _ (fun _ q => q) (by simpa only [LCg.Off3, and_true] using off2) trivial ⟨u2, by simp [Int.add_assoc], ?_⟩
    rw [List.range_succ, List.map_append]
    exact hys.append (.cons _ _ .nil)
  · rintro ys news ⟨u, rfl, hys⟩
    repeat' (first | (k_unfold; (try dsimp only)) | walk1 | (dsimp only; walk1) | (leave1; (try dsimp only)))
    rename Fr _ _ _ _ => F3
    rename News _ _ _ _ => N3
    rename _ ∧ _ ∧ _ => o1
    refine ⟨_, _, ys, u, _, _, rfl, rfl, fun b o q hb => ?_, (N3 (dx, _) (by k_mem)).1, ?_, (N3 _ (.head _)).1, hys⟩
    · by_cases hba : b = a
      · subst hba
        obtain rfl := Option.some.inj (hx.symm.trans q)
        exact (N3 (b, _) (by k_mem)).1
      · exact F3.keep b o (hideAll_get _ q (by simp [hba, hb]))
    · have z := (N3 _ (.head _)).2.2
      dsimp only at z
      generalize hss : s.heap = hs at *
      cases q : hs.get? _ with
      | none => rfl
      | some o => rw [hideAll_get _ q (fun hm => by
          rcases List.mem_cons.mp hm with e | hm
          · exact o1.2.1 e.symm
          · exact o1.2.2 (List.mem_singleton.mp hm).symm)] at z; cases z
end
section
open PySem PySem.W PySem.Calls PyProof.Rows PyProof.V
set_option maxRecDepth 100000
example : ∀ w : World, ∀ h, (hd.heap_39 w.params).In h → PySem.Challenge.rw_on0094_01.Holds → True := by k_fill; intros; trivial
local macro_rules | `(tactic| walk_at "CompSrc") => `(tactic| refine Hold.of ?_)
local macro_rules | `(tactic| walk_at "CompEnd") => `(tactic| refine Hold.of ?_)
local macro_rules | `(tactic| k_inst) => `(tactic| exact InstAt.of_news (by assumption) (by k_mem) (by k_mem))
def AddInBack (dx li : Addr) (E' : Value → Obj) (ct : Int) (wd : Nat) (pi : List Value) (nmI : Str) (b₀ : Heap) (s : Shared) (r : Result) (s' : Shared) : Prop :=
  Ex8 fun l n ys u v k' ts h' => ∃ tk, r = .ok (.ret (.ref l)) ∧ s' = { s with heap := h', toks := tk } ∧ (∀ b o, s.heap.get? b = some o → b ≠ dx → b ≠ li → h'.get? b = some o) ∧ h'.get? dx = some (E' (.int (ct + wd) u)) ∧ h'.get? li = some (listOf (List.toArray (pi ++ [v])) k') ∧
    s.heap.get? l = none ∧ h'.get? l = some (listOf (List.toArray ys) n) ∧ IntsAre ys ((List.range wd).map fun i : Nat => ct + (i : Int)) ∧ (∀ p ∈ ts, h'.get? p.1 = some p.2 ∧ s.heap.get? p.1 = none ∧ p.1 ≠ l) ∧ Mk b₀ ts v (encPort (nmI, (List.range wd).map fun i : Nat => ct + (i : Int)))
theorem hide_noneL {h : Heap} {as : List Addr} {b : Addr} (e : (hideAll h as).get? b = none) (ne : b ∉ as) : h.get? b = none := by
  cases q : h.get? b with
  | none => rfl
  | some o => rw [hideAll_get as q ne] at e; cases e
set_option maxHeartbeats 1500000 in
theorem addin_code {w : World} {mg mb : Str → Option Value} {A : Around} {s : Shared} {a dx lc li lo : Addr} {n k : Nat} {h1 h2 h3 h4 h5 : Int} {t1 t2 t3 t4 t5 : Tok} {nm : Value} {ct : Int} {tc tw : Tok} {wd : Nat} {nmI : Str} {tI : Tok} {pi : List Value}
    (hhA : A.handled = none) (HA : Ar 3 A (hideAll s.heap [a, dx, li])) (D : Gd w mg mb (hideAll s.heap [a, dx, li])) (hx : s.heap.get? a = some (instObj 127 dx)) (hne : @Ne Nat a dx) (hne2 : @Ne Nat a li) (hne3 : @Ne Nat dx li)
    (hdx : s.heap.get? dx = some (dictOf (netD h1 h2 h3 h4 h5 t1 t2 t3 t4 t5 nm (.int ct tc) li lo lc) n)) (hli : s.heap.get? li = some (listOf pi.toArray k)) (hc : 0 ≤ ct ∧ ct < 900) (hw : wd ≤ 20) (hpi : pi.length ≤ 50) (b₀ : Heap) :
    codeAny (model PR w) A (.call (.ref 87) ⟨[.ref a, .str nmI tI, .int (wd : Int) tw], []⟩) (AddInBack dx li (fun v => dictOf (netD h1 h2 h3 h4 h5 t1 t2 t3 t4 t5 nm v li lo lc) n) ct wd pi nmI b₀ s) s := by
  refine' enter_pure (binds := [(Str.ofString "self", .ref a), (Str.ofString "name", .str nmI tI), (Str.ofString "width", .int (wd : Int) tw)]) 2 [(a, instObj 127 dx), (dx, dictOf (netD h1 h2 h3 h4 h5 t1 t2 t3 t4 t5 nm (.int ct tc) li lo lc) n), (li, listOf pi.toArray k)] (by intro p hp; cases hp with | head => exact hx | tail _ h => (cases h with | head => exact hdx | tail _ h => (cases h with | head => exact hli | tail _ h => cases h))) HA D ?k6 ?k7 ?k9 ?kB ?_ ?c2 ?c3 ?c4 ?c5
  case k6 => k_is
  case k7 => k_is
  case k9 => exact BindsTo.of_eq rfl
  case c5 => decide
  case kB => exact locs rfl
  case c2 => exact rfl
  case c3 => exact rfl
  case c4 => exact rfl
  intro A' L' h₁ hL hh HA' F N hk
  have X := D.K
  have T := D.T
  have hh' : A'.handled = none := hh.trans hhA
  change Fr (hideAll s.heap [a, dx, li]) _ _ _ at F
  change News (hideAll s.heap [a, dx, li]) _ _ _ at N
  change Ar 2 A' (hideAll s.heap [a, dx, li]) at HA'
  with_reducible show wpAny _ _ _ _ _ _
  k_fold
  repeat' (first | (k_unfold; (try dsimp only)) | walk1 | (dsimp only; walk1) | (leave1; (try dsimp only)))
  rename Fr _ _ _ _ => F3
  rename News _ _ _ _ => N3
  have kk0 : ∀ b o, (hideAll s.heap [a, dx, li]).get? b = some o → (hideAll h₁ [a, dx]).get? b = some o := fun b o e => hideAll_get _ (F3.keep b o e) fun q => by rw [hideAll_none _ (by rcases List.mem_cons.mp q with rfl | q; exact .head _; rw [List.mem_singleton.mp q]; exact .tail _ (.head _))] at e; cases e
  refine Hold.intro (wpAny_call (codeAny_mono (newnets_code (mg := mg) (mb := mb) (wd := wd) hh' (HA'.keeps kk0) (Gd.keeps ⟨X, T⟩ kk0) (N3 (a, instObj 127 dx) (by k_mem)).1 hne (N3 (dx, _) (by k_mem)).1 hc hw) ?_))
  rintro _ _ ⟨l, nl, ys, u2, h3, tk3, rfl, rfl, kk, e3, nlf, hl, hys⟩
  obtain ⟨F4, N4⟩ := upd_call F3 N3 (by k_updF) kk e3
  have N5 := News.add F3 (ts := [(l, listOf (List.toArray ys) nl)]) N4 (fun p hp => by rcases List.mem_singleton.mp hp with rfl; exact ⟨hl, nlf⟩)
  have hyl : ys.length ≤ 20 := by rw [hys.length, List.length_map, List.length_range]; exact hw
  have fr : ∀ {b : Addr} {o : Obj}, h₁.get? b = some o → @Ne Nat l b := fun e q => by rw [show l = _ from q, e] at nlf; cases nlf
  have n1 := fr (N3 (a, instObj 127 dx) (by k_mem)).1
  have n2 := fr (N3 (dx, _) (by k_mem)).1
  have n3 := fr (N3 (li, _) (by k_mem)).1
  clear F3 N3
  simp only [List.cons_append, List.nil_append] at N5
  clear N4
  dsimp only
  repeat' (first | (k_unfold; (try dsimp only)) | walk1 | (dsimp only; walk1) | (leave1; (try dsimp only)))
  rename Fr _ _ _ _ => F6
  rename News _ _ _ _ => N6
  rw [List.push_toArray] at N6
  rename l < _ ∧ a < _ ∧ _ => l1
  rename _ < _ ∧ l < _ ∧ a < _ ∧ _ => l2
  rename_i D1 c1 _ D2 _ _
  dsimp only at n1 n2 n3
  dsimp only
  k_unfold
  dsimp only
  have nn : ∀ b : Addr, @Ne Nat b a → @Ne Nat b dx → @Ne Nat b li → b ∉ [a, dx, li] := fun b x1 x2 x3 hm => by
    rcases List.mem_cons.mp hm with q | hm
    · exact x1 q
    · rcases List.mem_cons.mp hm with q | hm
      · exact x2 q
      · exact x3 (List.mem_singleton.mp hm)
  refine ⟨l, nl, ys, u2, .ref D2, k + 1, _, _, _, rfl, rfl, fun b o q hb hb2 => ?_, (N6 (dx, _) (by k_mem)).1, (N6 (li, _) (by k_mem)).1, hide_noneL (N6 (l, _) (by k_mem)).2.2 (nn l n1 n2 n3), (N6 (l, _) (by k_mem)).1, hys, ?_, mk_port (t := D2) (l2 := D1) (kt := tI) (n := c1) hys⟩
  · by_cases hba : b = a
    · subst hba
      obtain rfl := Option.some.inj (hx.symm.trans q)
      exact (N6 (b, _) (by k_mem)).1
    · exact F6.keep b o (hideAll_get _ q (by simp [hba, hb, hb2]))
  · intro p hp
    rcases List.mem_cons.mp hp with rfl | hp
    · exact ⟨(N6 _ (.head _)).1, hide_noneL (N6 _ (.head _)).2.2 (nn D2 (by omega) (by omega) (by omega)), (by k_ne)⟩
    · rcases List.mem_singleton.mp hp with rfl
      exact ⟨(N6 _ (.tail _ (.head _))).1, hide_noneL (N6 _ (.tail _ (.head _))).2.2 (nn D1 (by omega) (by omega) (by omega)), (by k_ne)⟩
end
section
open PySem PySem.W PySem.Calls PyProof.Rows PyProof.V
set_option maxRecDepth 100000
/-- a draw in the walk of a function whose ledger holds the jar -/
theorem draw_step {w : World} {mg mb : Str → Option Value} {A : Around} {E : Value → Shared → Prop} {Q : Value → Shared → Prop} {s : Shared} {h₀ : Heap} {L J l : Addr} {m : Str → Option Value} {led : List (Addr × Obj)} {led' : Obj → List (Addr × Obj)} {x i c : Int} {tx ti tc : Tok} {n : Nat} {vs : List Value} {ns : List Int}
    (HA : Ar 1 A h₀) (D : Gd w mg mb h₀) (F : Fr h₀ L s.heap m) (N : News h₀ L s.heap led) (U : UpdF J (listOf #[.int x tx, .int i ti, .ref l] n) led led') (hl : h₀.IsList l vs.toArray) (hi : IntsAre vs ns) (hn : 0 < ns.length ∧ ns.length ≤ 40)
    (hx : 0 ≤ x ∧ x < 10 ^ 60) (hi0 : 0 ≤ i ∧ i < 1000000) (hc : 0 < c ∧ c ≤ 1000)
    (h : ∀ v tv h' tk x' tx' i' ti' n', (0 ≤ v ∧ v < c) → (0 ≤ x' ∧ x' < 10 ^ 60) → (0 ≤ i' ∧ i' ≤ i + 1) → Fr h₀ L h' m → News h₀ L h' (led' (listOf #[.int x' tx', .int i' ti', .ref l] n')) → Q (.int v tv) { s with heap := h', toks := tk }) :
    wpAny (model PR w) A (call (.ref 171) [.ref J, .int c tc]) Q E s := by
  have hm : (J, listOf #[.int x tx, .int i ti, .ref l] n) ∈ led := by
    obtain ⟨pre, post, rfl, _, _, _⟩ := U.split
    exact List.mem_append.mpr (.inr (.head _))
  have kk := hide_led F N hm
  refine wpAny_call (codeAny_mono (draw_code (mg := mg) (mb := mb) (HA.keeps kk) (D.keeps kk) (N _ hm).1 (hl.at fun o e => kk l o e) hi hn hx hi0 hc) ?_)
  rintro _ _ ⟨v, tv, h', tk, x', tx', i', ti', n', hv, rfl, rfl, k, e, hx', hi'⟩
  obtain ⟨F', N'⟩ := upd_call F N U k e
  exact h v tv h' tk x' tx' i' ti' n' hv hx' hi' F' N'
end
section
open PySem PySem.W PySem.Calls PyProof.Rows PyProof.V
set_option maxRecDepth 100000
theorem hide_leds {h₀ h : Heap} {L : Addr} {as : List Addr} {m : Str → Option Value} {news : List (Addr × Obj)} (F : Fr h₀ L h m) (N : News h₀ L h news) (hm : ∀ a ∈ as, ∃ o, (a, o) ∈ news) : ∀ b o, h₀.get? b = some o → (hideAll h as).get? b = some o := fun b o e =>
  hideAll_get _ (F.keep b o e) fun q => by obtain ⟨o', ho⟩ := hm b q; rw [(N _ ho).2.2] at e; cases e
theorem news_but2 {h₀ h h' : Heap} {L D1 D2 : Addr} {o1 o2 : Obj} {m : Str → Option Value} {news : List (Addr × Obj)} (F : Fr h₀ L h m) (N : News h₀ L h news) (m1 : (D1, o1) ∈ news) (m2 : (D2, o2) ∈ news) (k : ∀ b o, h.get? b = some o → b ≠ D1 → b ≠ D2 → h'.get? b = some o) :
    Fr h₀ L h' m ∧ ∀ b o, (b, o) ∈ news → @Ne Nat b D1 → @Ne Nat b D2 → h'.get? b = some o ∧ b ≠ L ∧ h₀.get? b = none :=
  ⟨⟨F.ns.at' fun o' e => k L o' e (fun q => (N _ m1).2.1 q.symm) (fun q => (N _ m2).2.1 q.symm), fun b ob eb => k b ob (F.keep b ob eb) (fun q => by rw [q, (N _ m1).2.2] at eb; cases eb) (fun q => by rw [q, (N _ m2).2.2] at eb; cases eb), F.above⟩,
    fun b o hb n1 n2 => ⟨k b o (N _ hb).1 n1 n2, (N _ hb).2⟩⟩
theorem off1_mem {D : Addr} : ∀ {l : List (Addr × Obj)}, LCg.Off1 D l → ∀ p ∈ l, p.1 ≠ D
  | [], _, _, h => nomatch h
  | _ :: _, x, p, h => by
    rcases List.mem_cons.mp h with rfl | h
    · exact x.1
    · exact off1_mem x.2 p h
section
variable {M : Model} {A : Around} {E : Value → Shared → Prop} {s : Shared} {env : Env}
theorem execs_split_wp {ys : List Stmt} {Γ : Ctx} {Q' : Flow → Pos → Shared → Prop} {E' : Value → Pos → Shared → Prop} : ∀ {xs : List Stmt} {p : Pos} {s : Shared},
    Sem.wp M Γ (execs xs env) (fun f p' s' => match f with | .next => Sem.wp M Γ (execs ys env) Q' E' p' s' | f => Q' f p' s') E' p s → Sem.wp M Γ (execs (xs ++ ys) env) Q' E' p s
  | [], p, s, h => h
  | x :: xs, p, s, h => by
    rw [execs_cons, Sem.wp_bind'] at h
    rw [List.cons_append, execs_cons, Sem.wp_bind']
    refine Sem.wp_mono M Γ _ (fun f p' s' h' => ?_) (fun _ _ _ h' => h') _ _ h
    cases f <;> first | exact execs_split_wp h' | exact h'
theorem cut_next (k : Nat) {l : List Stmt} {Q : Flow → Shared → Prop} (P : Shared → Prop) (h1 : wpAny M A (execs (l.take k) env) (fun f s' => f = .next ∧ P s') E s)
    (h2 : ∀ s', P s' → wpAny M A (execs (l.drop k) env) Q E s') : wpAny M A (execs l env) Q E s := by
  intro Γ p hΓ
  have e := List.take_append_drop k l
  rw [← e]
  refine execs_split_wp (Sem.wp_mono M Γ _ (fun f p' s' h' => ?_) (fun _ _ _ h' => h') _ _ (h1 Γ p hΓ))
  obtain ⟨rfl, hp⟩ := h'
  exact h2 s' hp Γ p' hΓ
theorem cut1 {a : Stmt} {ys : List Stmt} {Q : Flow → Shared → Prop} (P : Shared → Prop) (h1 : wpAny M A (execs [a] env) (fun f s' => f = .next ∧ P s') E s) (h2 : ∀ s', P s' → wpAny M A (execs ys env) Q E s') : wpAny M A (execs (a :: ys) env) Q E s := cut_next 1 P h1 h2
theorem cut2 {a b : Stmt} {ys : List Stmt} {Q : Flow → Shared → Prop} (P : Shared → Prop) (h1 : wpAny M A (execs [a, b] env) (fun f s' => f = .next ∧ P s') E s) (h2 : ∀ s', P s' → wpAny M A (execs ys env) Q E s') : wpAny M A (execs (a :: b :: ys) env) Q E s := cut_next 2 P h1 h2
theorem cut3 {a b c : Stmt} {ys : List Stmt} {Q : Flow → Shared → Prop} (P : Shared → Prop) (h1 : wpAny M A (execs [a, b, c] env) (fun f s' => f = .next ∧ P s') E s) (h2 : ∀ s', P s' → wpAny M A (execs ys env) Q E s') : wpAny M A (execs (a :: b :: c :: ys) env) Q E s := cut_next 3 P h1 h2
theorem cut5 {a b c d e : Stmt} {ys : List Stmt} {Q : Flow → Shared → Prop} (P : Shared → Prop) (h1 : wpAny M A (execs [a, b, c, d, e] env) (fun f s' => f = .next ∧ P s') E s) (h2 : ∀ s', P s' → wpAny M A (execs ys env) Q E s') : wpAny M A (execs (a :: b :: c :: d :: e :: ys) env) Q E s := cut_next 5 P h1 h2
end
section
variable {prog : Program} {w : World} {A : Around} {h₀ : Heap} {L : Addr} {m : Str → Option Value} {env : Env} {ct elt : PySem.Expr} {x : Str} {scope : Scope} {cl : List (Str × Addr)} {s : Shared} {S : List (Addr × Obj) → Prop} {P : Nat → Value → Prop} {Fin : List Value → List (Addr × Obj) → Prop}
theorem compT_from {n : Nat} (J : Nat → List Value → List (Addr × Obj) → Prop)
    (turn : ∀ i ys news v I oI C oC D m₂ h tk (E' : Value → Shared → Prop), i < n → J i ys news → P i v → LCg.NsObj oC m₂ → m₂ x = some v → Fr h₀ L h m → News h₀ L h ((I, oI) :: (C, oC) :: (D, LCg.lst ys) :: news) → LCg.Off3 I C D news → ((@Ne Nat I C) ∧ (@Ne Nat I D) ∧ (@Ne Nat C D)) →
      wpAny (model prog w) A (isTrue ct (compEnvC scope cl C env) (eval ct (compEnvC scope cl C env))) (fun ok s' => if ok = true then
        wpAny (model prog w) A (eval elt (compEnvC scope cl C env)) (LCg.CompEnd h₀ L m { s with heap := h, toks := tk } I oI C oC D (LCg.lst ys) S (fun y news' => J (i + 1) (ys ++ [y]) news')) E' s'
        else LCg.CompEnd h₀ L m { s with heap := h, toks := tk } I oI C oC D (LCg.lst ys) S (fun _ news' => J (i + 1) ys news') Value.none s') E' { s with heap := h, toks := tk })
    (fin : ∀ ys news, J n ys news → Fin ys news) : ∀ k i ys news, i + k = n → J i ys news → LCt.CompRestT prog w A h₀ L m env ct elt x scope cl s S P Fin k i ys news
  | 0, i, ys, news, e, hj => LCt.CompRestT.zero (fin ys news ((show i = n by omega) ▸ hj))
  | k + 1, i, ys, news, e, hj => LCt.CompRestT.succ fun v I oI C oC D m₂ h tk E' a1 a2 a3 a4 a5 a6 a7 =>
      wpAny_mono (turn i ys news v I oI C oC D m₂ h tk E' (by omega) hj a1 a2 a3 a4 a5 a6 a7) (fun ok s₂ z => by
        cases ok with
        | true =>
          simp only [if_true] at z ⊢
          exact wpAny_mono z (fun y s₃ q => by
            obtain ⟨h', tk', news', rfl, F, N, off, hS, r⟩ := q
            exact ⟨h', tk', news', rfl, F, N, off, hS, compT_from J turn fin k (i + 1) _ _ (by omega) r⟩) fun _ _ z => z
        | false =>
          simp only [Bool.false_eq_true, if_false] at z ⊢
          obtain ⟨h', tk', news', rfl, F, N, off, hS, r⟩ := z
          exact ⟨h', tk', news', rfl, F, N, off, hS, compT_from J turn fin k (i + 1) _ _ (by omega) r⟩) fun _ _ z => z
theorem compT_inv {n : Nat} {news : List (Addr × Obj)} (J : Nat → List Value → List (Addr × Obj) → Prop) (hj : J 0 [] news)
    (turn : ∀ i ys news v I oI C oC D m₂ h tk (E' : Value → Shared → Prop), i < n → J i ys news → P i v → LCg.NsObj oC m₂ → m₂ x = some v → Fr h₀ L h m → News h₀ L h ((I, oI) :: (C, oC) :: (D, LCg.lst ys) :: news) → LCg.Off3 I C D news → ((@Ne Nat I C) ∧ (@Ne Nat I D) ∧ (@Ne Nat C D)) →
      wpAny (model prog w) A (isTrue ct (compEnvC scope cl C env) (eval ct (compEnvC scope cl C env))) (fun ok s' => if ok = true then
        wpAny (model prog w) A (eval elt (compEnvC scope cl C env)) (LCg.CompEnd h₀ L m { s with heap := h, toks := tk } I oI C oC D (LCg.lst ys) S (fun y news' => J (i + 1) (ys ++ [y]) news')) E' s'
        else LCg.CompEnd h₀ L m { s with heap := h, toks := tk } I oI C oC D (LCg.lst ys) S (fun _ news' => J (i + 1) ys news') Value.none s') E' { s with heap := h, toks := tk })
    (fin : ∀ ys news, J n ys news → Fin ys news) : LCt.CompRestT prog w A h₀ L m env ct elt x scope cl s S P Fin n 0 [] news := compT_from J turn fin n 0 [] news (by omega) hj
end
theorem lay_s {i : Nat} (h : i < 12) : (PyData.str (Str.ofString "s" ++ Str.ofString (toString (i : Int)))).canLay0 = true := by
  have a : ∀ i, i < 12 → (PyData.str (Str.ofString "s" ++ Str.ofString (toString ((i : Nat) : Int)))).canLay0 = true := by decide +kernel
  exact a i h
theorem lay_y {i : Nat} (h : i < 12) : (PyData.str (Str.ofString "y" ++ Str.ofString (toString (i : Int)))).canLay0 = true := by
  have a : ∀ i, i < 12 → (PyData.str (Str.ofString "y" ++ Str.ofString (toString ((i : Nat) : Int)))).canLay0 = true := by decide +kernel
  exact a i h
theorem mk_none {b : Heap} {ts : List (Addr × Obj)} : Mk b ts .none .none := fun _ _ _ => ⟨_, .none⟩
theorem mk_int {b : Heap} {ts : List (Addr × Obj)} {x : Int} {t : Tok} : Mk b ts (.int x t) (.int x) := fun _ _ _ => ⟨_, .int _ _⟩
theorem mk_flop {b : Heap} {D : Addr} {x y : Int} {t1 t2 t3 : Tok} {S : Str} : Mk b [(D, { cls := .type "tuple", data := .seq #[.int x t1, .str S t2, .int y t3] })] (.ref D) (.tuple [.int x, .str S, .int y]) := fun _ _ k2 =>
  ⟨_, .tuple (k2 _ (.head _)) rfl rfl (.cons (.int _ _) (.cons (.str _ _) (.cons (.int _ _) .nil)))⟩
theorem mk_latch {b : Heap} {D : Addr} {y : Int} {t2 t3 : Tok} {S : Str} : Mk b [(D, { cls := .type "tuple", data := .seq #[.str S t2, .int y t3] })] (.ref D) (.tuple [.str S, .int y]) := fun _ _ k2 =>
  ⟨_, .tuple (k2 _ (.head _)) rfl rfl (.cons (.str _ _) (.cons (.int _ _) .nil))⟩
theorem lay_flop {i : Nat} (h : i < 12) : (PyData.tuple [.int 1, .str (Str.ofString "s" ++ Str.ofString (toString (i : Int))), .int 0]).canLay0 = true := by
  simp only [PyData.canLay0, PyData.canLayAll0]
  have a := lay_s h
  simp only [PyData.canLay0] at a
  rw [a]; rfl
theorem lay_latch {i : Nat} (h : i < 12) : (PyData.tuple [.str (Str.ofString "s" ++ Str.ofString (toString (i : Int))), .int 0]).canLay0 = true := by
  simp only [PyData.canLay0, PyData.canLayAll0]
  have a := lay_s h
  simp only [PyData.canLay0] at a
  rw [a]; rfl
theorem dep_flop {x y : Int} {S : Str} : (PyData.tuple [.int x, .str S, .int y]).depth ≤ 10 := by simp only [PyData.depth, PyData.depthAll]; decide
theorem dep_latch {y : Int} {S : Str} : (PyData.tuple [.str S, .int y]).depth ≤ 10 := by simp only [PyData.depth, PyData.depthAll]; decide
end
section
open PySem PySem.W PySem.Calls PyProof.Rows PyProof.V
set_option maxRecDepth 100000
theorem upd_of {d : Addr} {o : Obj} (o' : Obj) : ∀ {l : List (Addr × Obj)} {g : Obj → List (Addr × Obj)}, UpdF d o l g → Upd d o o' l (g o')
  | _, _, .head h => .head h
  | _, _, .tail h r => .tail h (upd_of o' r)
theorem cut_at : ∀ {us : List Value} {ks : List Int}, IntsAre us ks → ∀ {k : Nat}, k < us.length → ∃ (p : List Value) (y : Value) (q : List Value) (c : Int) (t : Tok) (ks' : List Int), kl_cut us k = some (p, y, q) ∧ y = Value.int c t ∧ c ∈ ks ∧ IntsAre (p ++ q) ks' ∧ (∀ c ∈ ks', c ∈ ks) ∧ (p ++ q).length + 1 = us.length
  | _, _, .cons c t r, 0, _ => ⟨[], _, _, c, t, _, rfl, rfl, .head _, r, fun _ h => .tail _ h, rfl⟩
  | _, _, .nil, k, h => absurd h (Nat.not_lt_zero _)
  | _, _, .cons c t r, k + 1, h => by
    obtain ⟨p, y, q, c', t', ks', e, ey, hc, hi, hk, hl⟩ := cut_at r (k := k) (by simpa using h)
    refine ⟨.int c t :: p, y, q, c', t', c :: ks', by unfold kl_cut; rw [e], ey, .tail _ hc, .cons c t hi, ?_, ?_⟩
    · intro z hz
      rcases List.mem_cons.mp hz with rfl | hz
      · exact .head _
      · exact .tail _ (hk z hz)
    · simp only [List.cons_append, List.length_cons]; omega
theorem pop_step {w : World} {A : Around} {E : Value → Shared → Prop} {Q : Value → Shared → Prop} {s : Shared} {h₀ : Heap} {L D : Addr} {m : Str → Option Value} {led : List (Addr × Obj)} {led' : Obj → List (Addr × Obj)} {us : List Value} {ks : List Int} {v : Int} {u : Tok} {n : Nat}
    (F : Fr h₀ L s.heap m) (N : News h₀ L s.heap led) (U : UpdF D (listOf us.toArray n) led led') (hi : IntsAre us ks) (hv : 0 ≤ v ∧ v < (us.length : Int)) (hz : us.length ≤ 100)
    (h : ∀ c t us' ks' h', c ∈ ks → IntsAre us' ks' → (∀ c ∈ ks', c ∈ ks) → us'.length + 1 = us.length → Fr h₀ L h' m → News h₀ L h' (led' (listOf us'.toArray (n + 1))) → Q (.int c t) { s with heap := h' }) :
    wpAny (model PR w) A (call (.builtin "list.pop") [.ref D, .int v u]) Q E s := by
  obtain ⟨k, rfl⟩ : ∃ k : Nat, v = (k : Int) := ⟨v.toNat, by omega⟩
  obtain ⟨p, y, q, c, t, ks', e, rfl, hc, hi', hk, hl⟩ := cut_at hi (k := k) (by omega)
  refine kl_popAt (k := k) F N ?_ ?_ e (upd_of _ U) ?_ fun h' F' N' => h c t _ ks' h' hc hi' hk hl F' N'
  · unfold Builtin.List.listFitsIndex
    simp only [Bool.and_eq_true, decide_eq_true_eq]
    omega
  · unfold seqIndex?
    simp only [List.size_toArray]
    rw [if_neg (show ¬ ((k : Int) < 0) by omega), if_pos]
    · simp
    · simp only [Bool.and_eq_true, decide_eq_true_eq]
      omega
  · rw [sizeLine_eq]
    show us.length ≤ _
    omega
theorem grown_led {h₀ h h' : Heap} {L lc : Addr} {m : Str → Option Value} {o o' : Obj} {led ts : List (Addr × Obj)} {led' : Obj → List (Addr × Obj)} (F : Fr h₀ L h m) (N : News h₀ L h led) (U : UpdF lc o led led')
    (k : ∀ b ob, h.get? b = some ob → b ≠ lc → h'.get? b = some ob) (e : h'.get? lc = some o') (t : ∀ p ∈ ts, h'.get? p.1 = some p.2 ∧ h.get? p.1 = none) :
    Fr h₀ L h' m ∧ News h₀ L h' (ts ++ led' o') ∧ ∀ b ob, (b, ob) ∈ led → ∀ q ∈ ts, q.1 ≠ b := by
  obtain ⟨F', N'⟩ := upd_call F N U k e
  refine ⟨F', News.add F N' t, fun b ob hb q hq r => ?_⟩
  have := (t q hq).2
  rw [r, (N _ hb).1] at this
  cases this
theorem len_led {prog : Program} {w : World} {A : Around} {E : Value → Shared → Prop} {s : Shared} {h₀ : Heap} {L : Addr} {l : Addr} {vs : List Value} {n : Nat} {led : List (Addr × Obj)} {Q : Value → Shared → Prop}
    (N : News h₀ L s.heap led) (hm : (l, listOf vs.toArray n) ∈ led) (hz : vs.length ≤ 1000000) (h : Q (.int (vs.length : Int) (s.toks + 1)) { s with toks := s.toks + 1 + 1 }) : wpAny (model prog w) A (call (.builtin "len") [.ref l]) Q E s := by
  have hl' : s.heap.IsList l vs.toArray := ⟨_, (N _ hm).1, rfl, _, rfl⟩
  have hs : vs.toArray.size = vs.length := by simp
  refine PyProof.Rows.len_list hl' (by rw [hs]; omega) ?_
  rw [hs]; exact h
theorem off3_dis {I C D b : Addr} {o : Obj} {r : List (Addr × Obj)} (h : LCg.Off3 I C D ((b, o) :: r)) : Dis I b ∧ Dis C b ∧ Dis D b := ⟨Ne.symm h.1.1, Ne.symm h.1.2.1, Ne.symm h.1.2.2⟩
theorem Mk.more {b : Heap} {ts ts' : List (Addr × Obj)} {v : Value} {d : PyData} (H : Mk b ts v d) : Mk b (ts' ++ ts) v d := fun h k1 k2 => H h k1 fun p hp => k2 p (List.mem_append_right _ hp)
theorem Mk.fore {b : Heap} {ts ts' : List (Addr × Obj)} {v : Value} {d : PyData} (H : Mk b ts v d) : Mk b (ts ++ ts') v d := fun h k1 k2 => H h k1 fun p hp => k2 p (List.mem_append_left _ hp)
theorem MkAll.snoc_same {b : Heap} {ts : List (Addr × Obj)} {vs : List Value} {ds : List PyData} {v : Value} {d : PyData} (H : MkAll b ts vs ds) (m : Mk b ts v d) : MkAll b ts (vs ++ [v]) (ds ++ [d]) := fun h k1 k2 =>
  (H.snoc m) h k1 fun p hp => k2 p ((List.mem_append.mp hp).elim id id)
theorem mknet_of {b₀ : Heap} {ts : List (Addr × Obj)} {x dxr lir lor lcr : Addr} {n0 kp ko kc : Nat} {z1 z2 z3 z4 z5 : Int} {u1 u2 u3 u4 u5 tn tq : Tok} {nm : Str} {ct : Int} {pi po pc : List Value} {ins outs : List (Str × List Int)} {cs : List Cel}
    (mi : MkAll b₀ ts pi (ins.map encPort)) (mo : MkAll b₀ ts po (outs.map encPort)) (mc : MkAll b₀ ts pc (cs.map encCel)) :
    MkNet b₀ ((x, instObj 127 dxr) :: (dxr, dictOf (netD z1 z2 z3 z4 z5 u1 u2 u3 u4 u5 (.str nm tn) (.int ct tq) lir lor lcr) n0) :: (lir, listOf (List.toArray pi) kp) :: (lor, listOf (List.toArray po) ko) :: (lcr, listOf (List.toArray pc) kc) :: ts) x ⟨nm, ct, ins, outs, cs⟩ := fun h k1 k2 => by
  have kt : ∀ p ∈ ts, h.get? p.1 = some p.2 := fun p hp => k2 p (.tail _ (.tail _ (.tail _ (.tail _ (.tail _ hp)))))
  exact ⟨dxr, n0, z1, z2, z3, z4, z5, u1, u2, u3, u4, u5, tn, tq, lir, lor, lcr, pi, po, pc, ⟨k2 _ (.head _), rfl, rfl, k2 _ (.tail _ (.head _))⟩,
    ⟨_, k2 _ (.tail _ (.tail _ (.head _))), rfl, _, rfl⟩, mi h k1 kt, ⟨_, k2 _ (.tail _ (.tail _ (.tail _ (.head _)))), rfl, _, rfl⟩, mo h k1 kt, ⟨_, k2 _ (.tail _ (.tail _ (.tail _ (.tail _ (.head _))))), rfl, _, rfl⟩, mc h k1 kt⟩
end
section
open PySem PySem.W PySem.Calls PyProof.Rows PyProof.V
set_option maxRecDepth 100000
example : ∀ w : World, ∀ h, (hd.heap_39 w.params).In h → PySem.Challenge.rw_on0094_01.Holds → True := by k_fill; intros; trivial
local macro_rules | `(tactic| walk_at "call type:tuple") => `(tactic| ((with_reducible show wpAny _ _ (call (Value.type _) [Value.ref _]) _ _ _); (refine' call_tuple_tup (IsTup.keeps (by assumption) (Fr.keep (by assumption))) ?_)))
set_option maxHeartbeats 4000000 in
theorem drivet_code {w : World} {mg mb : Str → Option Value} {A : Around} {s : Shared} {a dx lc li lo : Addr} {n k : Nat} {h1 h2 h3 h4 h5 : Int} {t1 t2 t3 t4 t5 : Tok} {nm ct pv : Value} {cs us : List Value} {kd : Str} {kt : Tok} {out : Int} {ot : Tok} {l : Addr} {ins : List Int} {pd : PyData}
    (HA : Ar 1 A (hideAll s.heap [lc])) (D : Gd w mg mb (hideAll s.heap [lc])) (HI : InstAt (hideAll s.heap [lc]) a (instObj 127 dx) 127 (some (dictOf (netD h1 h2 h3 h4 h5 t1 t2 t3 t4 t5 nm ct li lo lc) n)))
    (hlc : s.heap.get? lc = some (listOf cs.toArray k)) (hl : (hideAll s.heap [lc]).get? l = some { cls := .type "tuple", data := .seq us.toArray }) (hu : IntsAre us ins) (hz : us.length ≤ 100) (hcz : cs.length ≤ 1000) {b₀ : Heap} {ts₀ : List (Addr × Obj)} (hp : Mk b₀ ts₀ pv pd) :
    codeAny (model PR w) A (.call (.ref 110) ⟨[.ref a, .int out ot, .str kd kt, .ref l, pv], []⟩) (GrownBack lc cs b₀ ((l, { cls := .type "tuple", data := .seq us.toArray }) :: ts₀) (encCel ⟨kd, out, ins, pd⟩) s) s := by
  have hlt : IsTup (hideAll s.heap [lc]) l us.toArray := ⟨_, hl, rfl, _, rfl⟩
  refine' enter_pure (binds := [(Str.ofString "self", .ref a), (Str.ofString "out", .int out ot), (Str.ofString "kind", .str kd kt), (Str.ofString "ins", .ref l), (Str.ofString "param", pv)]) 0 [(lc, listOf cs.toArray k)] (by intro p hp; cases hp with | head => exact hlc | tail _ h => cases h) HA D ?k6 ?k7 ?k9 ?kB ?_ ?c2 ?c3 ?c4 ?c5
  case k6 => k_is
  case k7 => k_is
  case k9 => exact binds_K (fun b o e => of_hideAll _ (D.K b o e)) rfl (by k_is) rfl rfl rfl
  case c5 => decide
  case kB => exact locs rfl
  case c2 => exact rfl
  case c3 => exact rfl
  case c4 => exact rfl
  intro A' L' h₁ hL hh HA' F N hk
  have X := D.K
  have T := D.T
  change Fr (hideAll s.heap [lc]) _ _ _ at F
  change News (hideAll s.heap [lc]) _ _ _ at N
  change Ar 0 A' (hideAll s.heap [lc]) at HA'
  with_reducible show wpAny _ _ _ _ _ _
  k_fold
  repeat' (first | (k_unfold; (try dsimp only)) | walk1 | (dsimp only; walk1) | (leave1; (try dsimp only)))
  rename _ < _ => l1
  rename Fr _ _ _ _ => F
  rename News _ _ _ _ => N
  have e1 := N _ (.head _)
  rename_i D1 _ _
  refine ⟨.ref D1, _, _, k + 1, [(D1, { cls := .type "tuple", data := .seq #[.str kd kt, .int out ot, .ref l, pv] })], rfl, rfl, fun b o e ne => F.keep b o (hideAll_get [lc] e (by simpa using ne)), ?_, ?_, ?_⟩
  · rw [← List.push_toArray]
    exact (N _ (.tail _ (.head _))).1
  · intro p hp
    rcases List.mem_singleton.mp hp with rfl
    exact ⟨e1.1, hide_none e1.2.2 (Nat.ne_of_gt l1)⟩
  · exact mk_cel (t := D1) (l2 := l) (kt := kt) (ot := ot) hp hu
def tupObj (us : List Value) : Obj := { cls := .type "tuple", data := .seq us.toArray }
def InsAt (h : Heap) (l : Addr) (us : List Value) (tsx : List (Addr × Obj)) : Prop := (h.IsList l us.toArray ∧ tsx = []) ∨ (h.get? l = some (tupObj us) ∧ tsx = [(l, tupObj us)])
theorem InsAt.keeps {h h' : Heap} {l : Addr} {us : List Value} {tsx : List (Addr × Obj)} (H : InsAt h l us tsx) (k : ∀ b o, h.get? b = some o → h'.get? b = some o) : InsAt h' l us tsx := by
  rcases H with ⟨a, e⟩ | ⟨a, e⟩
  · exact .inl ⟨a.at fun o e => k l o e, e⟩
  · exact .inr ⟨k _ _ a, e⟩
theorem drive2_code {w : World} {mg mb : Str → Option Value} {A : Around} {s : Shared} {a dx lc li lo : Addr} {n k : Nat} {h1 h2 h3 h4 h5 : Int} {t1 t2 t3 t4 t5 : Tok} {nm ct pv : Value} {cs us : List Value} {kd : Str} {kt : Tok} {out : Int} {ot : Tok} {l : Addr} {ins : List Int} {pd : PyData} {tsx : List (Addr × Obj)}
    (HA : Ar 1 A (hideAll s.heap [lc])) (D : Gd w mg mb (hideAll s.heap [lc])) (HI : InstAt (hideAll s.heap [lc]) a (instObj 127 dx) 127 (some (dictOf (netD h1 h2 h3 h4 h5 t1 t2 t3 t4 t5 nm ct li lo lc) n)))
    (hlc : s.heap.get? lc = some (listOf cs.toArray k)) (hl : InsAt (hideAll s.heap [lc]) l us tsx) (hu : IntsAre us ins) (hz : us.length ≤ 100) (hcz : cs.length ≤ 1000) {b₀ : Heap} {ts₀ : List (Addr × Obj)} (hp : Mk b₀ ts₀ pv pd) :
    codeAny (model PR w) A (.call (.ref 110) ⟨[.ref a, .int out ot, .str kd kt, .ref l, pv], []⟩) (GrownBack lc cs b₀ (tsx ++ ts₀) (encCel ⟨kd, out, ins, pd⟩) s) s := by
  rcases hl with ⟨hl, rfl⟩ | ⟨hl, rfl⟩
  · exact drive_code HA D HI hlc hl hu hz hcz hp
  · exact drivet_code HA D HI hlc hl hu hz hcz hp
theorem none_back {h0 h : Heap} {as : List Addr} {L b : Addr} {m : Str → Option Value} {news : List (Addr × Obj)} (F : Fr (hideAll h0 as) L h m) (N : News (hideAll h0 as) L h news) (hm : ∀ a ∈ as, ∃ o, (a, o) ∈ news) (e : h.get? b = none) : h0.get? b = none := by
  cases q : h0.get? b with
  | none => rfl
  | some o =>
    by_cases hb : b ∈ as
    · obtain ⟨o', ho⟩ := hm b hb
      rw [(N _ ho).1] at e; cases e
    · rw [F.keep b o (hideAll_get _ q hb)] at e; cases e
def CellBack (dx lc : Addr) (E' : Value → Obj) (ct : Int) (cs : List Value) (b₀ : Heap) (ts₀ : List (Addr × Obj)) (d : PyData) (s : Shared) (r : Result) (s' : Shared) : Prop :=
  Ex6 fun u u' v k' ts h' => ∃ tk, r = .ok (.ret (.int ct u)) ∧ s' = { s with heap := h', toks := tk } ∧ (∀ b o, s.heap.get? b = some o → b ≠ dx → b ≠ lc → h'.get? b = some o) ∧ h'.get? dx = some (E' (.int (ct + 1) u')) ∧ h'.get? lc = some (listOf (List.toArray (cs ++ [v])) k') ∧
    (∀ p ∈ ts, h'.get? p.1 = some p.2 ∧ s.heap.get? p.1 = none) ∧ Mk b₀ (ts ++ ts₀) v d
set_option maxHeartbeats 1500000 in
theorem addcell_code {w : World} {mg mb : Str → Option Value} {A : Around} {s : Shared} {a dx lc li lo : Addr} {n k : Nat} {h1 h2 h3 h4 h5 : Int} {t1 t2 t3 t4 t5 : Tok} {nm : Value} {ct : Int} {tc : Tok} {pv : Value} {cs us : List Value} {kd : Str} {kt : Tok} {l : Addr} {ins : List Int} {pd : PyData} {tsx : List (Addr × Obj)} {args : List Value}
    (HA : Ar 2 A (hideAll s.heap [a, dx, lc])) (D : Gd w mg mb (hideAll s.heap [a, dx, lc])) (hx : s.heap.get? a = some (instObj 127 dx)) (hne : @Ne Nat a dx) (hne2 : @Ne Nat a lc) (hne3 : @Ne Nat dx lc)
    (hdx : s.heap.get? dx = some (dictOf (netD h1 h2 h3 h4 h5 t1 t2 t3 t4 t5 nm (.int ct tc) li lo lc) n)) (hlc : s.heap.get? lc = some (listOf cs.toArray k)) (hc : 0 ≤ ct ∧ ct < 900) (hl : InsAt (hideAll s.heap [a, dx, lc]) l us tsx) (hu : IntsAre us ins) (hz : us.length ≤ 100) (hcz : cs.length ≤ 1000)
    (hargs : args = [.ref a, .str kd kt, .ref l, pv] ∨ (args = [.ref a, .str kd kt, .ref l] ∧ pv = .none)) {b₀ : Heap} {ts₀ : List (Addr × Obj)} (hp : Mk b₀ ts₀ pv pd) :
    codeAny (model PR w) A (.call (.ref 102) ⟨args, []⟩) (CellBack dx lc (fun v => dictOf (netD h1 h2 h3 h4 h5 t1 t2 t3 t4 t5 nm v li lo lc) n) ct cs b₀ (tsx ++ ts₀) (encCel ⟨kd, ct, ins, pd⟩) s) s := by
  refine' enter_pure (binds := [(Str.ofString "self", .ref a), (Str.ofString "kind", .str kd kt), (Str.ofString "ins", .ref l), (Str.ofString "param", pv)]) 1 [(a, instObj 127 dx), (dx, dictOf (netD h1 h2 h3 h4 h5 t1 t2 t3 t4 t5 nm (.int ct tc) li lo lc) n), (lc, listOf cs.toArray k)] (by intro p hp; cases hp with | head => exact hx | tail _ h => (cases h with | head => exact hdx | tail _ h => (cases h with | head => exact hlc | tail _ h => cases h))) HA D ?k6 ?k7 ?k9 ?kB ?_ ?c2 ?c3 ?c4 ?c5
  case k6 => k_is
  case k7 => k_is
  case k9 =>
    rcases hargs with rfl | ⟨rfl, rfl⟩
    · exact binds_K (fun b o e => of_hideAll _ (D.K b o e)) rfl (by k_is) rfl rfl rfl
    · exact binds_K (fun b o e => of_hideAll _ (D.K b o e)) rfl (by k_is) rfl rfl rfl
  case c5 => decide
  case kB => exact locs rfl
  case c2 => exact rfl
  case c3 => exact rfl
  case c4 => exact rfl
  intro A' L' h₁ hL hh HA' F N hk
  have X := D.K
  have T := D.T
  change Fr (hideAll s.heap [a, dx, lc]) _ _ _ at F
  change News (hideAll s.heap [a, dx, lc]) _ _ _ at N
  change Ar 1 A' (hideAll s.heap [a, dx, lc]) at HA'
  with_reducible show wpAny _ _ _ _ _ _
  k_fold
  repeat' (first | (k_unfold; (try dsimp only)) | walk1 | (dsimp only; walk1) | (leave1; (try dsimp only)))
  rename Fr _ _ _ _ => F3
  rename News _ _ _ _ => N3
  have kk0 : ∀ b o, (hideAll s.heap [a, dx, lc]).get? b = some o → (hideAll h₁ [a, dx]).get? b = some o := fun b o e => hideAll_get _ (F3.keep b o e) fun q => by rw [hideAll_none _ (by rcases List.mem_cons.mp q with rfl | q; exact .head _; rw [List.mem_singleton.mp q]; exact .tail _ (.head _))] at e; cases e
  refine Hold.intro (wpAny_call (codeAny_mono (newnet_code (mg := mg) (mb := mb) (HA'.keeps kk0) (Gd.keeps ⟨X, T⟩ kk0) (N3 (a, instObj 127 dx) (by k_mem)).1 hne (N3 (dx, _) (by k_mem)).1 (by omega)) ?_))
  rintro _ _ ⟨v2, u2, h3, tk3, rfl, rfl, kk, e3⟩
  obtain ⟨F4, N4⟩ := upd_call F3 N3 (by k_updF) kk e3
  clear F3 N3 kk0
  dsimp only
  repeat' (first | (k_unfold; (try dsimp only)) | walk1 | (dsimp only; walk1) | (leave1; (try dsimp only)))
  rename Fr _ _ _ _ => F5
  rename News _ _ _ _ => N5
  have kk1 := hide_led F5 N5 (D := lc) (.tail _ (.tail _ (.head _)))
  refine Hold.intro (wpAny_call (codeAny_mono (drive2_code (mg := mg) (mb := mb) (lc := lc) (cs := cs) (us := us) (b₀ := b₀) (ts₀ := ts₀) (pd := pd) (HA'.keeps kk1) (Gd.keeps ⟨X, T⟩ kk1)
    ⟨led_hide N5 (.head _) (by k_ne), rfl, rfl, led_hide N5 (.tail _ (.head _)) (by k_ne)⟩ (N5 _ (.tail _ (.tail _ (.head _)))).1 (hl.keeps kk1) hu hz hcz hp) ?_))
  rintro _ _ ⟨v3, h4, tk4, k4, ts2, rfl, rfl, kk4, e4, t2, mk⟩
  obtain ⟨F6, N6, -⟩ := grown_led F5 N5 (.tail (by k_ne) (.tail (by k_ne) (.head (by k_all)))) kk4 e4 t2
  have t3 : ∀ p ∈ ts2, h4.get? p.1 = some p.2 ∧ s.heap.get? p.1 = none := fun p hp => ⟨(t2 p hp).1, none_back F5 N5 (by
      intro b hb
      simp only [List.mem_cons, List.not_mem_nil, or_false] at hb
      rcases hb with rfl | rfl | rfl
      · exact ⟨_, .head _⟩
      · exact ⟨_, .tail _ (.head _)⟩
      · exact ⟨_, .tail _ (.tail _ (.head _))⟩) (t2 p hp).2⟩
  clear F5 N5
  dsimp only
  repeat' (first | (k_unfold; (try dsimp only)) | walk1 | (dsimp only; walk1) | (leave1; (try dsimp only)))
  dsimp only
  k_unfold
  dsimp only
  refine ⟨v2, u2, v3, k4, ts2, h4, _, rfl, rfl, fun b o q hb hb2 => ?_, (N6 (dx, _) (List.mem_append_right _ (.tail _ (.head _)))).1, (N6 (lc, _) (List.mem_append_right _ (.tail _ (.tail _ (.head _))))).1, t3, mk⟩
  by_cases hba : b = a
  · subst hba
    obtain rfl := Option.some.inj (hx.symm.trans q)
    exact (N6 (b, _) (List.mem_append_right _ (.head _))).1
  · exact F6.keep b o (hideAll_get _ q (by simp [hba, hb, hb2]))
end
section
open PySem PySem.W PySem.Calls PyProof.Rows PyProof.V
set_option maxRecDepth 100000
example : ∀ w : World, ∀ h, (hd.heap_39 w.params).In h → PySem.Challenge.rw_on0094_01.Holds → True := by k_fill; intros; trivial
local macro_rules | `(tactic| walk_at "call builtin:list.pop") => `(tactic| refine Hold.of ?_)
local macro_rules | `(tactic| walk_at "call builtin:len") => `(tactic| ((with_reducible show wpAny _ _ (call (Value.builtin "len") [Value.ref _]) _ _ _); (refine' len_led ?N ?m ?z ?_; (case N => assumption); (case m => k_mem); (case z => omega))))
local macro_rules | `(tactic| walk_at "CompSrc") => `(tactic| refine Hold.of ?_)
local macro_rules | `(tactic| walk_at "CompEnd") => `(tactic| refine Hold.of ?_)
local macro_rules | `(tactic| walk_at "eval ListComp") => `(tactic| refine Hold.of ?_)
local macro_rules | `(tactic| walk_at "eval Dict") => `(tactic| (k_dflt (refine' kdn_str ?q ?F ?N ?b ?a ?l ?e ?n ?_; (case q => rfl); (case F => assumption); (case N => assumption); (case b => exact TopRead.nolimit (by assumption)); (case a => rfl); (case l => rfl); (case e => exact List.cons_ne_nil _ _); (case n => exact Nat.le_of_ble_eq_true rfl)); intro d' h' o' F' N' l1 lo' hd'; (try k_lt l1)))
local macro_rules | `(tactic| k_ne) => `(tactic| (refine neN ?_; (try dsimp only); first | exact Dis.l (by assumption) | exact Dis.r (by assumption) | omega))
local macro_rules | `(tactic| k_allIn) => `(tactic| first | exact List.forall_mem_nil _ | (refine' List.forall_mem_cons.mpr ⟨?ka, ?kb⟩; (case ka => k_mem); (case kb => k_allIn)) | (intro p hp; repeat (first | exact hp | refine List.Mem.tail _ ?_)))
local macro_rules | `(tactic| k_all) => `(tactic| first | assumption | exact List.forall_mem_nil _ | (refine' List.forall_mem_cons.mpr ⟨?kalla, ?kallb⟩; (case kalla => k_ne); (case kallb => k_all)))
local macro_rules | `(tactic| walk_at "CompSrcT") => `(tactic| refine Hold.of ?_)
local macro_rules | `(tactic| walk_at "exec Assign cons ListComp") => `(tactic| refine Hold.of ?_)
local macro_rules | `(tactic| k_inst) => `(tactic| exact InstAt.of_news (by assumption) (by k_mem) (by k_mem))
def CelsOk (cs : List Cel) : Prop := cs.length ≤ 10 ∧ ∀ c ∈ cs, c.ins.length ≤ 4 ∧ (0 ≤ c.out ∧ c.out < 1000) ∧ (PyData.str c.kind).canLay0 = true ∧ c.param.canLay0 = true ∧ c.param.depth ≤ 10
def NetFar (J L dxr x lir lor lcr : Addr) : Prop := @LT.lt Nat _ J L ∧ @LT.lt Nat _ (L + 1 + 1 + 1) dxr ∧ @LT.lt Nat _ dxr x ∧ @LT.lt Nat _ x lir ∧ @LT.lt Nat _ lir lor ∧ @LT.lt Nat _ lor lcr
def OffNet (a J L dxr x lir lor lcr : Addr) : Prop := Dis a J ∧ Dis a (L + 1) ∧ Dis a (L + 1 + 1) ∧ Dis a (L + 1 + 1 + 1) ∧ Dis a dxr ∧ Dis a x ∧ Dis a lir ∧ Dis a lor ∧ Dis a lcr
inductive MadeA (b₀ h₀ : Heap) (L J l : Addr) (s : Shared) : Shared → Prop
  | mk (h : Heap) (tk : Nat) (x dxr lir lor lcr gl fl : Addr) (oq og o3 : Obj) (ts : List (Addr × Obj)) (tn tq : Tok) (z1 z2 z3 z4 z5 : Int) (u1 u2 u3 u4 u5 : Tok) (n0 n2 n3 nj kp gn kf : Nat) (pv : Value) (ys zs : List Value) (ks : List Int) (wd : Nat) (x3 i3 : Int) (tx3 ti3 : Tok)
    (F : Fr h₀ L h (bnd [(Str.ofString "free_nets", .ref fl), (Str.ofString "made", .ref x)] fun _ => none))
    (N : News h₀ L h ((fl, listOf (List.toArray zs) kf) :: (J, listOf #[.int x3 tx3, .int i3 ti3, .ref l] nj) :: (lcr, listOf #[] n3) :: (lor, listOf #[] n2) :: (x, instObj 127 dxr) :: (dxr, dictOf (netD z1 z2 z3 z4 z5 u1 u2 u3 u4 u5 (.str (Str.ofString "n") tn) (.int 14 tq) lir lor lcr) n0) :: (lir, listOf #[pv] kp) ::
      (L + 1 + 1 + 1, oq) :: (L + 1 + 1, og) :: (L + 1, o3) :: (gl, listOf (List.toArray ys) gn) :: ts))
    (dq : oq.data = .cell (some (.int 14 tq))) (dg : og.data = .cell (some (.ref gl))) (d3 : o3.data = .cell (some (.ref J)))
    (hwd : 1 ≤ wd ∧ wd ≤ 2) (hys : IntsAre ys ((List.range wd).map fun i : Nat => (2 : Int) + (i : Int))) (hks : IntsAre zs ks) (hkb : ∀ k ∈ ks, 2 ≤ k ∧ k < 14) (hz1 : 10 ≤ zs.length) (hz2 : zs.length ≤ 12) (hx3 : 0 ≤ x3 ∧ x3 < 10 ^ 60) (hi3 : 0 ≤ i3 ∧ i3 ≤ 1)
    (mk : Mk b₀ ts pv (encPort (Str.ofString "a", (List.range wd).map fun i : Nat => (2 : Int) + (i : Int))))
    (far : NetFar J L dxr x lir lor lcr) (hgl : OffNet gl J L dxr x lir lor lcr) (hfl : OffNet fl J L dxr x lir lor lcr) (hfg : Dis fl gl)
    (hts : ∀ p ∈ ts, @Ne Nat p.1 fl ∧ @Ne Nat p.1 J ∧ @Ne Nat p.1 lcr ∧ @Ne Nat p.1 lor) : MadeA b₀ h₀ L J l s { s with heap := h, toks := tk }
inductive MadeB (b₀ h₀ : Heap) (L J l : Addr) (s : Shared) (x : Addr) (lcr : Addr) (lor : Addr) (n2 : Nat) (pv : Value) (wd : Nat) (led : List (Addr × Obj)) : Shared → Prop
  | mk (h : Heap) (tk : Nat) (m : Str → Option Value) (ts : List (Addr × Obj)) (vc : List Value) (kc : Nat) (cs : List Cel) (x3 i3 : Int) (tx3 ti3 : Tok) (nj : Nat)
    (ag : Agree [(Str.ofString "made", .ref x)] m) (F : Fr h₀ L h m)
    (N : News h₀ L h ((J, listOf #[.int x3 tx3, .int i3 ti3, .ref l] nj) :: (lcr, listOf (List.toArray vc) kc) :: (lor, listOf #[] n2) :: (led ++ ts)))
    (hvc : vc.length ≤ 10) (hx3 : 0 ≤ x3 ∧ x3 < 10 ^ 60) (hi3 : 0 ≤ i3 ∧ i3 ≤ 1000)
    (mk : Mk b₀ ts pv (encPort (Str.ofString "a", (List.range wd).map fun i : Nat => (2 : Int) + (i : Int)))) (mkc : MkAll b₀ ts vc (cs.map encCel)) (ok : CelsOk cs)
    (hts : ∀ p ∈ ts, @Ne Nat p.1 J ∧ @Ne Nat p.1 lcr ∧ @Ne Nat p.1 lor) : MadeB b₀ h₀ L J l s x lcr lor n2 pv wd led { s with heap := h, toks := tk }
inductive TurnInv (b₀ : Heap) (J l x fl lcr lor : Addr) (n2 : Nat) (pv : Value) (wd : Nat) (led : List (Addr × Obj)) (i : Nat) : (Str → Option Value) → List (Addr × Obj) → Prop
  | mk (m : Str → Option Value) (ts : List (Addr × Obj)) (vc : List Value) (kc : Nat) (cs : List Cel) (zs : List Value) (ks : List Int) (kf : Nat) (x3 i3 : Int) (tx3 ti3 : Tok) (nj : Nat)
    (ag : Agree [(Str.ofString "free_nets", .ref fl), (Str.ofString "made", .ref x)] m) (hvc : vc.length = i) (hcs : cs.length = i) (hks : IntsAre zs ks) (hkb : ∀ k ∈ ks, 2 ≤ k ∧ k < 14) (hz1 : 10 ≤ zs.length + i) (hz2 : zs.length ≤ 12) (hx3 : 0 ≤ x3 ∧ x3 < 10 ^ 60) (hi3 : 0 ≤ i3 ∧ i3 ≤ 10 + 10 * (i : Int))
    (mk : Mk b₀ ts pv (encPort (Str.ofString "a", (List.range wd).map fun i : Nat => (2 : Int) + (i : Int)))) (mkc : MkAll b₀ ts vc (cs.map encCel)) (ok : CelsOk cs)
    (hts : ∀ p ∈ ts, @Ne Nat p.1 fl ∧ @Ne Nat p.1 J ∧ @Ne Nat p.1 lcr ∧ @Ne Nat p.1 lor) :
    TurnInv b₀ J l x fl lcr lor n2 pv wd led i m ((fl, listOf (List.toArray zs) kf) :: (J, listOf #[.int x3 tx3, .int i3 ti3, .ref l] nj) :: (lcr, listOf (List.toArray vc) kc) :: (lor, listOf #[] n2) :: (led ++ ts))
def OffTurn (ts : List (Addr × Obj)) (I fl J lcr lor : Addr) : Prop := ∀ p ∈ ts, @Ne Nat p.1 I ∧ @Ne Nat p.1 fl ∧ @Ne Nat p.1 J ∧ @Ne Nat p.1 lcr ∧ @Ne Nat p.1 lor
theorem lt7 {v : Int} (h : 0 ≤ v ∧ v < 7) : v = 0 ∨ v = 1 ∨ v = 2 ∨ v = 3 ∨ v = 4 ∨ v = 5 ∨ v = 6 := by omega
theorem lt7N {v : Nat} (h : v < 7) : v = 0 ∨ v = 1 ∨ v = 2 ∨ v = 3 ∨ v = 4 ∨ v = 5 ∨ v = 6 := by omega
theorem lt3 {v : Int} (h : 0 ≤ v ∧ v < 3) : v = 0 ∨ v = 1 ∨ v = 2 := by omega
theorem nat_of {v : Int} (h : 0 ≤ v) : ∃ T : Nat, v = (T : Int) := ⟨v.toNat, by omega⟩
def kindS : Nat → Str
  | 0 => Str.ofString "and" | 1 => Str.ofString "not" | 2 => Str.ofString "mux" | 3 => Str.ofString "flop" | 4 => Str.ofString "latch" | 5 => Str.ofString "lut" | _ => Str.ofString "xor"
theorem size_val {T : Nat} {v : Value} {t1 t2 t3 t4 u1 u2 u3 u4 : Tok} (hT : T = 0 ∨ T = 1 ∨ T = 2 ∨ T = 3 ∨ T = 4 ∨ T = 5 ∨ T = 6)
    (h : Flat v ((PySem.Spec.lookup (PyData.str (kindS T)) (strData [(Value.str (Str.ofString "not") t1, Value.int 1 u1), (Value.str (Str.ofString "mux") t2, Value.int 3 u2), (Value.str (Str.ofString "flop") t3, Value.int 4 u3), (Value.str (Str.ofString "latch") t4, Value.int 4 u4)])).getD (PyData.int 2))) :
    ∃ (sz : Nat) (u : Tok), v = .int (sz : Int) u ∧ 1 ≤ sz ∧ sz ≤ 4 := by
  have key : ∀ {k : Nat}, Flat v (PyData.int (k : Int)) → 1 ≤ k → k ≤ 4 → ∃ (sz : Nat) (u : Tok), v = .int (sz : Int) u ∧ 1 ≤ sz ∧ sz ≤ 4 := fun {k} f a b => by
    obtain ⟨u, e⟩ := flat_int f
    exact ⟨k, u, e, a, b⟩
  rcases hT with rfl | rfl | rfl | rfl | rfl | rfl | rfl
  · exact key (k := 2) h (by decide) (by decide)
  · exact key (k := 1) h (by decide) (by decide)
  · exact key (k := 3) h (by decide) (by decide)
  · exact key (k := 4) h (by decide) (by decide)
  · exact key (k := 4) h (by decide) (by decide)
  · exact key (k := 2) h (by decide) (by decide)
  · exact key (k := 2) h (by decide) (by decide)
inductive TurnK (h₀ : Heap) (L J l x fl : Addr) (R : List (Addr × Obj)) (i : Nat) (b : Int) (s : Shared) : Shared → Prop
  | mk (h : Heap) (tk T : Nat) (kt tt : Tok) (x3 i3 : Int) (tx3 ti3 : Tok) (nj : Nat) (m : Str → Option Value)
    (ag : Agree [(Str.ofString "kind", .str (kindS T) kt), (Str.ofString "turn", .int (i : Int) tt), (Str.ofString "free_nets", .ref fl), (Str.ofString "made", .ref x)] m) (F : Fr h₀ L h m)
    (N : News h₀ L h ((J, listOf #[.int x3 tx3, .int i3 ti3, .ref l] nj) :: R)) (hT : T < 7) (hx3 : 0 ≤ x3 ∧ x3 < 10 ^ 60) (hi3 : 0 ≤ i3 ∧ i3 ≤ b + 1) : TurnK h₀ L J l x fl R i b s { s with heap := h, toks := tk }
inductive TurnS (h₀ : Heap) (L x fl : Addr) (R : List (Addr × Obj)) (T : Nat) (i : Nat) (s : Shared) : Shared → Prop
  | mk (h : Heap) (tk : Nat) (kt st tt : Tok) (sz : Nat) (m : Str → Option Value)
    (ag : Agree [(Str.ofString "size", .int (sz : Int) st), (Str.ofString "kind", .str (kindS T) kt), (Str.ofString "turn", .int (i : Int) tt), (Str.ofString "free_nets", .ref fl), (Str.ofString "made", .ref x)] m) (F : Fr h₀ L h m)
    (N : News h₀ L h R) (hsz : 1 ≤ sz ∧ sz ≤ 4) : TurnS h₀ L x fl R T i s { s with heap := h, toks := tk }
inductive TurnP (b₀ h₀ : Heap) (L J l x fl lcr lor I : Addr) (R ts : List (Addr × Obj)) (b : Int) (s : Shared) : Shared → Prop
  | mk (h : Heap) (tk : Nat) (kd : Str) (kt st : Tok) (sz : Nat) (pw : Value) (pd : PyData) (ts2 : List (Addr × Obj)) (x3 i3 : Int) (tx3 ti3 : Tok) (nj : Nat) (m : Str → Option Value)
    (ag : Agree [(Str.ofString "param", pw), (Str.ofString "size", .int (sz : Int) st), (Str.ofString "kind", .str kd kt), (Str.ofString "free_nets", .ref fl), (Str.ofString "made", .ref x)] m) (F : Fr h₀ L h m)
    (N : News h₀ L h ((J, listOf #[.int x3 tx3, .int i3 ti3, .ref l] nj) :: (R ++ (ts2 ++ ts))))
    (hsz : 1 ≤ sz ∧ sz ≤ 4) (hx3 : 0 ≤ x3 ∧ x3 < 10 ^ 60) (hi3 : 0 ≤ i3 ∧ i3 ≤ b + 1) (mkp : Mk b₀ ts2 pw pd)
    (hts2 : OffTurn ts2 I fl J lcr lor) (hl1 : (PyData.str kd).canLay0 = true) (hl2 : pd.canLay0 = true) (hl3 : pd.depth ≤ 10) :
    TurnP b₀ h₀ L J l x fl lcr lor I R ts b s { s with heap := h, toks := tk }
inductive TurnO (h₀ : Heap) (L J l x fl : Addr) (R : Obj → List (Addr × Obj)) (kd : Str) (sz : Nat) (pw : Value) (nz : Nat) (b : Int) (s : Shared) : Shared → Prop
  | mk (h : Heap) (tk : Nat) (kt st ot : Tok) (out : Int) (zs : List Value) (ks : List Int) (kf : Nat) (x3 i3 : Int) (tx3 ti3 : Tok) (nj : Nat) (m : Str → Option Value)
    (ag : Agree [(Str.ofString "out", .int out ot), (Str.ofString "param", pw), (Str.ofString "size", .int (sz : Int) st), (Str.ofString "kind", .str kd kt), (Str.ofString "free_nets", .ref fl), (Str.ofString "made", .ref x)] m) (F : Fr h₀ L h m)
    (N : News h₀ L h ((J, listOf #[.int x3 tx3, .int i3 ti3, .ref l] nj) :: R (listOf (List.toArray zs) kf)))
    (hout : 0 ≤ out ∧ out < 1000) (hks : IntsAre zs ks) (hkb : ∀ k ∈ ks, 2 ≤ k ∧ k < 14) (hz : zs.length + 1 = nz) (hx3 : 0 ≤ x3 ∧ x3 < 10 ^ 60) (hi3 : 0 ≤ i3 ∧ i3 ≤ b + 3) :
    TurnO h₀ L J l x fl R kd sz pw nz b s { s with heap := h, toks := tk }
def OutsOk (os : List (Str × List Int)) : Prop := ∀ c ∈ os, c.2.length ≤ 2 ∧ (PyData.str c.1).canLay0 = true
theorem made_ok {wd : Nat} {cs : List Cel} {os : List (Str × List Int)} (hwd : 1 ≤ wd ∧ wd ≤ 2) (ok : CelsOk cs) (ho : os.length ≤ 4) (ook : OutsOk os) :
    Nl.Ok ⟨Str.ofString "n", 14, [(Str.ofString "a", (List.range wd).map fun i : Nat => (2 : Int) + (i : Int))], os, cs⟩ ∧ Nl.Fit ⟨Str.ofString "n", 14, [(Str.ofString "a", (List.range wd).map fun i : Nat => (2 : Int) + (i : Int))], os, cs⟩ := by
  have hb : ∀ x ∈ netsOf [(Str.ofString "a", (List.range wd).map fun i : Nat => (2 : Int) + (i : Int))], 0 ≤ x ∧ x < 1000 := by
    intro x hx
    simp only [netsOf, List.flatMap_cons, List.flatMap_nil, List.append_nil, List.mem_map, List.mem_range] at hx
    obtain ⟨i, hi, rfl⟩ := hx
    omega
  have hn : ([0, 1] ++ netsOf [(Str.ofString "a", (List.range wd).map fun i : Nat => (2 : Int) + (i : Int))]).Nodup := by
    obtain rfl | rfl : wd = 1 ∨ wd = 2 := by omega
    · show [(0 : Int), 1, 2].Nodup; decide
    · show [(0 : Int), 1, 2, 3].Nodup; decide
  refine ⟨⟨Nat.le_of_ble_eq_true rfl, ho, by have := ok.1; show cs.length ≤ 20; omega, ?_, fun p hp => by have := (ook p hp).1; omega, fun c hc => by have := (ok.2 c hc).1; omega, fun c hc => (ok.2 c hc).2.1, hn, hb⟩, ⟨?_, fun p hp => (ook p hp).2, fun c hc => (ok.2 c hc).2.2⟩⟩
  · intro p hp
    rw [List.mem_singleton.mp hp, List.length_map, List.length_range]
    omega
  · intro p hp
    rw [List.mem_singleton.mp hp]
    show (PyData.str (Str.ofString "a")).canLay0 = true
    decide +kernel
inductive OutInv (b₀ : Heap) (J l x lcr lor : Addr) (vc : List Value) (kc : Nat) (cs : List Cel) (pv : Value) (wd : Nat) (led : List (Addr × Obj)) (b : Int) (i : Nat) : (Str → Option Value) → List (Addr × Obj) → Prop
  | mk (m : Str → Option Value) (ts : List (Addr × Obj)) (vo : List Value) (ko : Nat) (os : List (Str × List Int)) (x3 i3 : Int) (tx3 ti3 : Tok) (nj : Nat)
    (ag : Agree [(Str.ofString "made", .ref x)] m) (hvo : vo.length = i) (hos : os.length = i) (hx3 : 0 ≤ x3 ∧ x3 < 10 ^ 60) (hi3 : 0 ≤ i3 ∧ i3 ≤ b + 4 * (i : Int))
    (mk : Mk b₀ ts pv (encPort (Str.ofString "a", (List.range wd).map fun i : Nat => (2 : Int) + (i : Int)))) (mkc : MkAll b₀ ts vc (cs.map encCel)) (mko : MkAll b₀ ts vo (os.map encPort)) (ok : OutsOk os)
    (hts : ∀ p ∈ ts, @Ne Nat p.1 J ∧ @Ne Nat p.1 lcr ∧ @Ne Nat p.1 lor) :
    OutInv b₀ J l x lcr lor vc kc cs pv wd led b i m ((J, listOf #[.int x3 tx3, .int i3 ti3, .ref l] nj) :: (lcr, listOf (List.toArray vc) kc) :: (lor, listOf (List.toArray vo) ko) :: (led ++ ts))
def MadeBack (b₀ : Heap) (J : Addr) (s : Shared) (r : Result) (s' : Shared) : Prop :=
  Ex5 fun x ts h' tk N => r = .ok (.ret (.ref x)) ∧ s' = { s with heap := h', toks := tk } ∧ (∀ b o, s.heap.get? b = some o → b ≠ J → h'.get? b = some o) ∧ (∀ p ∈ ts, h'.get? p.1 = some p.2 ∧ s.heap.get? p.1 = none) ∧ MkNet b₀ ts x N ∧ N.Ok ∧ N.Fit
set_option maxHeartbeats 16000000 in
theorem made_code {w : World} {mg mb : Str → Option Value} {A : Around} {s : Shared} {J l : Addr} {n : Nat} {t0 t1 : Tok} {vs : List Value} {ns : List Int} (b₀ : Heap)
    (hhA : A.handled = none) (HA : Ar 8 A (hideAll s.heap [J])) (D : Gd w mg mb (hideAll s.heap [J])) (hJ : s.heap.get? J = some (listOf #[.int 0 t0, .int 0 t1, .ref l] n))
    (hl : (hideAll s.heap [J]).IsList l vs.toArray) (hi : IntsAre vs ns) (hn : 0 < ns.length ∧ ns.length ≤ 40) :
    codeAny (model PR w) A (.call (.ref 176) ⟨[.ref J], []⟩) (MadeBack b₀ J s) s := by
  refine' enter_cells (binds := [(Str.ofString "jar", .ref J)]) 7 [(J, listOf #[.int 0 t0, .int 0 t1, .ref l] n)] (by intro p hp; rcases List.mem_singleton.mp hp with rfl; exact hJ) HA D ?k6 ?k7 ?k9 ?kB ?kD ?_ ?c2 ?c3 ?c4
  case k6 => k_is
  case k7 => k_is
  case k9 => exact BindsTo.of_eq rfl
  case kB => exact rfl
  case kD => decide +kernel
  case c2 => exact rfl
  case c3 => exact rfl
  case c4 => exact rfl
  intro A' L' h₁ tk0 cells hL hh hfr HA' F N Y hk hlt
  have X := D.K
  have T := D.T
  have hh' : A'.handled = none := hh.trans hhA
  change Fr (hideAll s.heap [J]) L' h₁ (fun _ => none) at F
  change News (hideAll s.heap [J]) _ _ _ at N
  change Ar 7 A' (hideAll s.heap [J]) at HA'
  clear hfr
  k_cells Y
  simp only [List.cons_append, List.nil_append] at N
  have lJ := ltN (hlt _ (.head _))
  dsimp only at lJ
  with_reducible refine cut5 (MadeA b₀ (hideAll s.heap [J]) L' J l s) ?stA ?stB
  case stA =>
    with_reducible show wpAny _ _ _ _ _ _
    k_fold
    repeat' (first | (k_unfold; (try dsimp only)) | walk1 | (dsimp only; walk1) | (leave1; (try dsimp only)))
    rename_i o1 o2 o3 hd1 hd2 hd3
    replace hd1 : o1.data = .cell none := hd1
    replace hd2 : o2.data = .cell none := hd2
    replace hd3 : o3.data = .cell (some (.ref J)) := hd3
    refine Hold.intro (wpAny_call (codeAny_mono (new_code (mg := mg) (mb := mb) ((HA'.less 3 (by omega)).keeps F.keep) (Gd.keeps ⟨X, T⟩ F.keep)) ?_))
    rintro _ _ ⟨x, dxr, lir, lor, lcr, h₂, tk2, n0, n1, n2, n3, z1, z2, z3, z4, z5, u1, u2, u3, u4, u5, tc, rfl, rfl, k2, ⟨e0, e1, e2, e3, e4⟩, ex, edx, eli, elo, elc⟩
    have f0 := ltN (Heap.lt_size (N _ (.head _)).1)
    have f1 : @LE.le Nat _ h₁.objs.size dxr := e0
    have f2 := ltN e1
    have f3 := ltN e2
    have f4 := ltN e3
    have f5 := ltN e4
    dsimp only at f0
    have F1 : Fr (hideAll s.heap [J]) L' h₂ _ := F.keeps k2
    have N1 := News.cons (new_at F (by omega) eli) (News.cons (new_at F (by omega) ex) (News.cons (new_at F (by omega) edx) (News.cons (new_at F (by omega) elo) (News.cons (new_at F (by omega) elc) (News.up N k2)))))
    clear F N e0 e1 e2 e3 e4 ex edx eli elo elc
    dsimp only
    walk1
    repeat' (first | (k_unfold; (try dsimp only)) | walk1 | (dsimp only; walk1) | (leave1; (try dsimp only)))
    rename Fr _ _ _ _ => F2
    rename News _ _ _ _ => N2
    have v0 : Dis x J := by (show @Ne Nat x J; omega)
    have v1 : Dis dxr J := by (show @Ne Nat dxr J; omega)
    have v2 : Dis lir J := by (show @Ne Nat lir J; omega)
    have v3 : Dis lor J := by (show @Ne Nat lor J; omega)
    have v4 : Dis lcr J := by (show @Ne Nat lcr J; omega)
    have v5 : Dis (L' + 1) J := by (show @Ne Nat (L' + 1) J; omega)
    have v6 : Dis (L' + 1 + 1) J := by (show @Ne Nat (L' + 1 + 1) J; omega)
    have v7 : Dis (L' + 1 + 1 + 1) J := by (show @Ne Nat (L' + 1 + 1 + 1) J; omega)
    refine Hold.intro (draw_step (HA'.less 1 (by omega)) D F2 N2 (by k_updF) hl hi hn (by decide) (by decide) (by decide) ?_)
    intro v tv h3 tk3 x3 tx3 i3 ti3 nj hv hx3 hi3 F3 N3
    clear F2 N2
    obtain ⟨wd, hwd⟩ : ∃ wd : Nat, 1 + v = (wd : Int) := ⟨(1 + v).toNat, by omega⟩
    dsimp only
    repeat' (first | (k_unfold; (try dsimp only)) | walk1 | (dsimp only; walk1) | (leave1; (try dsimp only)))
    rw [hwd]
    rename Fr _ _ _ _ => F2
    rename News _ _ _ _ => N2
    have nx1 : Dis x dxr := by (show @Ne Nat _ _; omega)
    have nx2 : Dis x lir := by (show @Ne Nat _ _; omega)
    have nx3 : Dis dxr lir := by (show @Ne Nat _ _; omega)
    have gg1 := (N2 (x, _) (.tail _ (.head _))).1
    have gg2 := (N2 (dxr, _) (.tail _ (.tail _ (.head _)))).1
    have gg3 := (N2 (lir, _) (.head _)).1
    have kk0 := hide_leds (as := [x, dxr, lir]) F2 N2 (by
      intro a ha
      simp only [List.mem_cons, List.not_mem_nil, or_false] at ha
      rcases ha with rfl | rfl | rfl
      · exact ⟨_, .tail _ (.head _)⟩
      · exact ⟨_, .tail _ (.tail _ (.head _))⟩
      · exact ⟨_, .head _⟩)
    have HA3 := (HA'.less 3 (by omega)).keeps kk0
    have D3 := D.keeps kk0
    have hwz : wd ≤ 20 := by omega
    have AI := addin_code (s := { s with heap := h3, toks := tk3 + 1}) (mg := mg) (mb := mb) (wd := wd) (pi := []) (nmI := Str.ofString "a") (tI := tk) (tw := tk3) hh' HA3 D3 gg1 nx1 nx2 nx3 gg2 gg3 (by decide) hwz (by decide) b₀
    refine Hold.intro ?_
    refine wpAny_call ?_
    refine codeAny_mono AI ?_
    clear AI
    intro r s' H
    obtain ⟨gl, gn, ys, u6, pv, kp, ts, h4, tk4, e1, e2, k4, e4, e5, ng, eg, hys, hts, mk⟩ := H
    subst e1
    subst e2
    replace ng : h3.get? gl = none := ng
    replace k4 : ∀ b o, h3.get? b = some o → b ≠ dxr → b ≠ lir → h4.get? b = some o := k4
    replace hts : ∀ p ∈ ts, h4.get? p.1 = some p.2 ∧ h3.get? p.1 = none ∧ p.1 ≠ gl := hts
    have fr : ∀ {b : Addr} {o : Obj}, h3.get? b = some o → @Ne Nat gl b := fun e q => by rw [show gl = _ from q, e] at ng; cases ng
    have frt : ∀ {b : Addr} {o : Obj}, h3.get? b = some o → ∀ p ∈ ts, p.1 ≠ b := fun e p hp q => by have := (hts p hp).2.1; rw [q, e] at this; cases this
    obtain ⟨F3, o3⟩ := news_but2 F2 N2 (D1 := dxr) (D2 := lir) (.tail _ (.tail _ (.head _))) (.head _) k4
    have l0 : @LT.lt Nat _ L' dxr := by omega
    have N3 := News.cons (b := lir) ⟨e5, (N2 _ (.head _)).2⟩ (News.cons (o3 x _ (.tail _ (.head _)) (by omega) (by omega)) (News.cons (b := dxr) ⟨e4, (N2 _ (.tail _ (.tail _ (.head _)))).2⟩ (News.cons (o3 lor _ (.tail _ (.tail _ (.tail _ (.head _)))) (by omega) (by omega)) (News.cons (o3 lcr _ (.tail _ (.tail _ (.tail _ (.tail _ (.head _))))) (by omega) (by omega))
      (News.cons (o3 (L' + 1 + 1 + 1) _ (.tail _ (.tail _ (.tail _ (.tail _ (.tail _ (.head _)))))) (by omega) (by omega)) (News.cons (o3 (L' + 1 + 1) _ (.tail _ (.tail _ (.tail _ (.tail _ (.tail _ (.tail _ (.head _))))))) (by omega) (by omega)) (News.cons (o3 (L' + 1) _ (.tail _ (.tail _ (.tail _ (.tail _ (.tail _ (.tail _ (.tail _ (.head _)))))))) (by omega) (by omega))
        (News.cons (o3 J _ (.tail _ (.tail _ (.tail _ (.tail _ (.tail _ (.tail _ (.tail _ (.tail _ (.head _))))))))) (by omega) (by omega)) (News.add F2 (ts := (gl, listOf (List.toArray ys) gn) :: ts) PyProof.Rows.News.nil (List.forall_mem_cons.mpr ⟨⟨eg, ng⟩, fun p hp => ⟨(hts p hp).1, (hts p hp).2.1⟩⟩))))))))))
    simp only [List.append_nil, List.nil_append] at N3
    have gx : Dis gl x := fr (N2 _ (.tail _ (.head _))).1
    have gd : Dis gl dxr := fr (N2 _ (.tail _ (.tail _ (.head _)))).1
    have gi : Dis gl lir := fr (N2 _ (.head _)).1
    have go : Dis gl lor := fr (N2 _ (.tail _ (.tail _ (.tail _ (.head _))))).1
    have gc : Dis gl lcr := fr (N2 _ (.tail _ (.tail _ (.tail _ (.tail _ (.head _)))))).1
    have g3 : Dis gl (L' + 1 + 1 + 1) := fr (N2 _ (.tail _ (.tail _ (.tail _ (.tail _ (.tail _ (.head _))))))).1
    have g2 : Dis gl (L' + 1 + 1) := fr (N2 _ (.tail _ (.tail _ (.tail _ (.tail _ (.tail _ (.tail _ (.head _)))))))).1
    have g1 : Dis gl (L' + 1) := fr (N2 _ (.tail _ (.tail _ (.tail _ (.tail _ (.tail _ (.tail _ (.tail _ (.head _))))))))).1
    have gJ : Dis gl J := fr (N2 _ (.tail _ (.tail _ (.tail _ (.tail _ (.tail _ (.tail _ (.tail _ (.tail _ (.head _)))))))))).1
    have td : ∀ p ∈ ts, p.1 ≠ dxr := frt (N2 _ (.tail _ (.tail _ (.head _)))).1
    have ti : ∀ p ∈ ts, p.1 ≠ lir := frt (N2 _ (.head _)).1
    have to : ∀ p ∈ ts, p.1 ≠ lor := frt (N2 _ (.tail _ (.tail _ (.tail _ (.head _))))).1
    have tc : ∀ p ∈ ts, p.1 ≠ lcr := frt (N2 _ (.tail _ (.tail _ (.tail _ (.tail _ (.head _)))))).1
    have t3 : ∀ p ∈ ts, p.1 ≠ L' + 1 + 1 + 1 := frt (N2 _ (.tail _ (.tail _ (.tail _ (.tail _ (.tail _ (.head _))))))).1
    have t2 : ∀ p ∈ ts, p.1 ≠ L' + 1 + 1 := frt (N2 _ (.tail _ (.tail _ (.tail _ (.tail _ (.tail _ (.tail _ (.head _)))))))).1
    have tJ : ∀ p ∈ ts, p.1 ≠ J := frt (N2 _ (.tail _ (.tail _ (.tail _ (.tail _ (.tail _ (.tail _ (.tail _ (.tail _ (.head _)))))))))).1
    clear gg1 gg2 gg3 F2 N2 o3 fr frt k4 hts e4 e5 ng eg kk0 HA3 D3
    dsimp only
    repeat' (first | (k_unfold; (try dsimp only)) | walk1 | (dsimp only; walk1) | (leave1; (try dsimp only)))
    rename Fr _ _ _ _ => F2
    rename News _ _ _ _ => N2
    rename_i _ og dg _ oq dq
    replace dg : og.data = .cell (some (.ref gl)) := dg
    obtain ⟨tq, dq⟩ : ∃ tq, oq.data = .cell (some (.int 14 tq)) := ⟨_, dq⟩
    refine Hold.intro (LCt.Assign_ListComp_T (F₀ := F2) (by rfl) (by with_unfolding_all rfl) (by with_unfolding_all rfl) (by decide) (by rfl) (by decide) (by rfl) (by rfl) (by rfl) ?_)
    repeat' (first | (k_unfold; (try dsimp only)) | walk1 | (dsimp only; walk1) | (leave1; (try dsimp only)))
    rename Fr _ _ _ _ => F3
    rename News _ _ _ _ => N3
    rename IsRange _ _ _ _ _ _ _ _ => R3
    let jInv1 := fun (j : Nat) (zs : List Value) (news' : List (Addr × Obj)) => news' = (lir, listOf #[pv] kp) :: (x, instObj 127 dxr) :: (dxr, dictOf (netD z1 z2 z3 z4 z5 u1 u2 u3 u4 u5 (.str (Str.ofString "n") tk0) (.int (2 + (wd : Int)) u6) lir lor lcr) n0) :: (lor, listOf #[] n2) :: (lcr, listOf #[] n3) :: (L' + 1 + 1 + 1, oq) :: (L' + 1 + 1, og) :: (L' + 1, o3) :: (J, listOf #[.int x3 tx3, .int i3 ti3, .ref l] nj) :: (gl, listOf ys.toArray gn) :: ts ∧ ∃ ks, IntsAre zs ks ∧ (∀ k ∈ ks, 2 ≤ k ∧ k < 2 + (j : Int)) ∧ zs.length ≤ j ∧ j ≤ zs.length + wd
    refine Hold.intro (LCt.CompSrcT.range (n := 12) hh' F3 N3 R3 (by decide) (by rfl) (by rw [sizeLine_eq]; omega) fun g => compT_inv jInv1 ⟨rfl, [], .nil, fun k hk => (nomatch hk), Nat.le_refl _, Nat.zero_le _⟩ ?_ ?_)
    · rintro j zs news v I2 oI2 C2 oC2 D2 m₂ hq tkq E2 hj ⟨rfl, ks, hks, hkb, hz1, hz2⟩ ⟨tv2, rfl⟩ hC2 hm2 F4 N4 off ⟨q1, q2, q3⟩
      have off2 := off
      clear F3 N3
      with_reducible show wpAny _ _ _ _ _ _
      k_fold
      repeat' (first | (k_unfold; (try dsimp only)) | walk1 | (dsimp only; walk1) | (leave1; (try dsimp only)))
      · rename_i hne
        refine Hold.intro (LCg.CompEnd.intro F4 N4 _ (fun _ q => q) off2 trivial ⟨rfl, ks, hks, ?_, ?_, ?_⟩)
        · intro k hk; have := hkb k hk; omega
        · omega
        · simp only [List.any_eq_true, List.mem_map, List.mem_range, beq_iff_eq] at hne
          obtain ⟨y, ⟨i, h1, rfl⟩, h2⟩ := hne
          omega
      · rename_i hne
        refine Hold.intro (LCg.CompEnd.intro F4 N4 _ (fun _ q => q) off2 trivial ⟨rfl, ks ++ [2 + (j : Int)], hks.append (.cons _ _ .nil), ?_, ?_, ?_⟩)
        · intro k hk
          rcases List.mem_append.mp hk with h | h
          · have := hkb k h; omega
          · have := List.mem_singleton.mp h; omega
        · rw [List.length_append, List.length_singleton]; omega
        · rw [List.length_append, List.length_singleton]; omega
    · rintro zs news ⟨rfl, ks, hks, hkb, hz1, hz2⟩
      clear F3 N3
      repeat' (first | (k_unfold; (try dsimp only)) | walk1 | (dsimp only; walk1) | (leave1; (try dsimp only)))
      rename Fr _ _ _ _ => F2
      rename News _ _ _ _ => N2
      rename _ ∧ _ ∧ _ ∧ _ ∧ _ ∧ _ ∧ _ ∧ _ ∧ _ ∧ _ ∧ LCg.Off1 _ _ => o1
      rename_i D9 _ _
      obtain ⟨(e1 : Dis lir D9), (e2 : Dis x D9), (e3 : Dis dxr D9), (e4 : Dis lor D9), (e5 : Dis lcr D9), (e6 : Dis (L' + 1 + 1 + 1) D9), (e7 : Dis (L' + 1 + 1) D9), (e8 : Dis (L' + 1) D9), (e9 : Dis J D9), (e10 : Dis gl D9), e11⟩ := o1
      refine' set_dict (es' := netD z1 z2 z3 z4 z5 u1 u2 u3 u4 u5 (.str (Str.ofString "n") tk0) (.int 14 tq) lir lor lcr) (n' := n0) ?k1 ?k2 ?k3 ?k4 ?k5 ?k6 ?k7 ?k8 ?k9 ?k10 ?k11 ?k12 ?k13 ?_
      case k1 => exact F2
      case k2 => exact X
      case k3 => exact N2
      case k4 => exact InstAt.of_news N2 (by k_mem) (by k_mem)
      case k5 => exact rfl
      case k6 => k_is
      case k7 => k_is
      case k8 => k_is
      case k9 => k_is
      case k10 => exact rfl
      case k11 => exact rfl
      case k12 => k_upd
      case k13 => exact Nat.le_of_ble_eq_true rfl
      intro h5 F5 N5
      clear F2 N2
      repeat' (first | (k_unfold; (try dsimp only)) | walk1 | (dsimp only; walk1) | (leave1; (try dsimp only)))
      have tf := off1_mem e11
      refine ⟨h5, _, x, dxr, lir, lor, lcr, gl, _, oq, og, o3, ts, tk0, tq, z1, z2, z3, z4, z5, u1, u2, u3, u4, u5, n0, n2, n3, nj, kp, gn, zs.length, pv, ys, zs, ks, wd, x3, i3, tx3, ti3, F5, fun p hp => N5 p (by revert p; k_allIn), dq, dg, hd3, by omega, hys, hks, hkb, by omega, by omega, hx3, by omega, mk, ⟨lJ, by omega, f2, f3, f4, f5⟩, ⟨gJ, g1, g2, g3, gd, gx, gi, go, gc⟩, ⟨e9.symm, e8.symm, e7.symm, e6.symm, e3.symm, e2.symm, e1.symm, e4.symm, e5.symm⟩, e10.symm, fun p hp => ⟨tf p hp, tJ p hp, tc p hp, to p hp⟩⟩
  case stB =>
    rintro _ ⟨h, tk, x, dxr, lir, lor, lcr, gl, fl, oq, og, o3, ts, tn, tq, z1, z2, z3, z4, z5, u1, u2, u3, u4, u5, n0, n2, n3, nj, kp, gn, kf, pv, ys, zs, ks, wd, x3, i3, tx3, ti3, Fz, Nz, dq, dg, d3, hwd, hys, hks, hkb, hz1, hz2, hx3, hi3, mk, far, hgl, hfl, hfg, htf⟩
    clear hJ F N hk hlt
    with_reducible refine cut1 (MadeB b₀ (hideAll s.heap [J]) L' J l s x lcr lor n2 pv wd [(x, instObj 127 dxr), (dxr, dictOf (netD z1 z2 z3 z4 z5 u1 u2 u3 u4 u5 (.str (Str.ofString "n") tn) (.int 14 tq) lir lor lcr) n0), (lir, listOf #[pv] kp), (L' + 1 + 1 + 1, oq), (L' + 1 + 1, og), (L' + 1, o3), (gl, listOf (List.toArray ys) gn)]) ?lp1 ?lp2
    case lp1 =>
      have hfJ : ∀ p ∈ ts, p.1 ≠ J := fun p hp => (htf p hp).2.1
      obtain ⟨lJ, l1, l2, l3, l4, l5⟩ := far
      obtain ⟨gJ, g1, g2, g3, gd, gx, gi, go, gc⟩ := hgl
      obtain ⟨fJ, f1, f2, f3, fd, fx, fi, fo, fc⟩ := hfl
      have v0 : Dis x J := by (show @Ne Nat x J; omega)
      have v1 : Dis dxr J := by (show @Ne Nat dxr J; omega)
      have v2 : Dis lir J := by (show @Ne Nat lir J; omega)
      have v3 : Dis lor J := by (show @Ne Nat lor J; omega)
      have v4 : Dis lcr J := by (show @Ne Nat lcr J; omega)
      have v5 : Dis (L' + 1) J := by (show @Ne Nat (L' + 1) J; omega)
      have v6 : Dis (L' + 1 + 1) J := by (show @Ne Nat (L' + 1 + 1) J; omega)
      have v7 : Dis (L' + 1 + 1 + 1) J := by (show @Ne Nat (L' + 1 + 1 + 1) J; omega)
      have v8 : Dis x lcr := by (show @Ne Nat x lcr; omega)
      have v9 : Dis dxr lcr := by (show @Ne Nat dxr lcr; omega)
      have v10 : Dis lir lcr := by (show @Ne Nat lir lcr; omega)
      have v11 : Dis lor lcr := by (show @Ne Nat lor lcr; omega)
      have v12 : Dis (L' + 1) lcr := by (show @Ne Nat (L' + 1) lcr; omega)
      have v13 : Dis (L' + 1 + 1) lcr := by (show @Ne Nat (L' + 1 + 1) lcr; omega)
      have v14 : Dis (L' + 1 + 1 + 1) lcr := by (show @Ne Nat (L' + 1 + 1 + 1) lcr; omega)
      with_reducible show wpAny _ _ _ _ _ _
      k_fold
      repeat' (first | (k_unfold; (try dsimp only)) | walk1 | (dsimp only; walk1) | (leave1; (try dsimp only)))
      rename Fr _ _ _ _ => F2
      rename News _ _ _ _ => N2
      refine Hold.intro (draw_step (HA'.less 1 (by omega)) D F2 N2 (by k_updF) hl hi hn hx3 (by omega) (by decide) ?_)
      intro v tv h3 tk3 x4 tx4 i4 ti4 nj2 hv hx4 hi4 F3 N3
      clear F2 N2
      obtain ⟨T, hT⟩ : ∃ T : Nat, v = (T : Int) := ⟨v.toNat, by omega⟩
      subst hT
      dsimp only
      repeat' (first | (k_unfold; (try dsimp only)) | walk1 | (dsimp only; walk1) | (leave1; (try dsimp only)))
      rename Fr _ _ _ _ => F2
      rename News _ _ _ _ => N2
      rename IsRange _ _ _ _ _ _ _ _ => R2
      have led0 : TurnInv b₀ J l x fl lcr lor n2 pv wd [(x, instObj 127 dxr), (dxr, dictOf (netD z1 z2 z3 z4 z5 u1 u2 u3 u4 u5 (.str (Str.ofString "n") tn) (.int 14 tq) lir lor lcr) n0), (lir, listOf #[pv] kp), (L' + 1 + 1 + 1, oq), (L' + 1 + 1, og), (L' + 1, o3), (gl, listOf (List.toArray ys) gn)] 0 _ _ :=
        .mk (bnd [(Str.ofString "free_nets", .ref fl), (Str.ofString "made", .ref x)] fun _ => none) ts [] n3 [] zs ks kf x4 i4 tx4 ti4 nj2 ⟨rfl, rfl, trivial⟩ rfl rfl hks hkb (by omega) hz2 hx4 (by omega) mk (MkAll.nil _ _) ⟨by decide, fun c hc => nomatch hc⟩ htf
      refine turns_upto (TurnInv b₀ J l x fl lcr lor n2 pv wd [(x, instObj 127 dxr), (dxr, dictOf (netD z1 z2 z3 z4 z5 u1 u2 u3 u4 u5 (.str (Str.ofString "n") tn) (.int 14 tq) lir lor lcr) n0), (lir, listOf #[pv] kp), (L' + 1 + 1 + 1, oq), (L' + 1 + 1, og), (L' + 1, o3), (gl, listOf (List.toArray ys) gn)]) hh' rfl (n := T) (by omega) R2 F2 N2 led0 ?_ ?_
      · clear led0 R2 F2 N2 mk hx3 hi3 hx4 hi4 hks hkb hz1 hz2 htf hfJ
        rintro i tt m₁ _ h tk It io hiT ho ⟨ts, vc, kc, cs, zs, ks, kf, x3, i3, tx3, ti3, nj, ag, hvc, hcs, hks, hkb, hz1, hz2, hx3, hi3, mk, mkc, ok, hts⟩ F Nw
        rw [bnd_of ag] at F
        change Fr (hideAll s.heap [J]) L' _ _ at F
        change News (hideAll s.heap [J]) L' _ _ at Nw
        clear ag
        have htI : ∀ p ∈ ts, p.1 ≠ It := fun p hp => ho p (.tail _ (.tail _ (.tail _ (.tail _ (List.mem_append_right _ hp)))))
        simp only [List.cons_append, List.nil_append, List.forall_mem_cons] at Nw ho
        obtain ⟨(qf : Dis fl It), (qJ : Dis J It), (qc : Dis lcr It), (qo : Dis lor It), (qx : Dis x It), (qd : Dis dxr It), (qi : Dis lir It), (q3 : Dis (L' + 1 + 1 + 1) It), (q2 : Dis (L' + 1 + 1) It), (q1 : Dis (L' + 1) It), (qg : Dis gl It), -⟩ := ho
        with_reducible show wpAny _ _ _ _ _ _
        k_fold
        walk1
        walk1
        (k_unfold; (try dsimp only))
        with_reducible refine cut3 (TurnP b₀ (hideAll s.heap [J]) L' J l x fl lcr lor It [(It, io), (fl, listOf (List.toArray zs) kf), (lcr, listOf (List.toArray vc) kc), (lor, listOf #[] n2), (x, instObj 127 dxr), (dxr, dictOf (netD z1 z2 z3 z4 z5 u1 u2 u3 u4 u5 (.str (Str.ofString "n") tn) (.int 14 tq) lir lor lcr) n0), (lir, listOf #[pv] kp), (L' + 1 + 1 + 1, oq), (L' + 1 + 1, og), (L' + 1, o3), (gl, listOf (List.toArray ys) gn)] ts i3 s) ?tp1 ?tp2
        case tp1 =>
          have hfJ : ∀ p ∈ ts, p.1 ≠ J := fun p hp => (hts p hp).2.1
          with_reducible refine cut1 (TurnK (hideAll s.heap [J]) L' J l x fl ((It, io) :: (fl, listOf (List.toArray zs) kf) :: (lcr, listOf (List.toArray vc) kc) :: (lor, listOf #[] n2) :: (x, instObj 127 dxr) :: (dxr, dictOf (netD z1 z2 z3 z4 z5 u1 u2 u3 u4 u5 (.str (Str.ofString "n") tn) (.int 14 tq) lir lor lcr) n0) :: (lir, listOf #[pv] kp) :: (L' + 1 + 1 + 1, oq) :: (L' + 1 + 1, og) :: (L' + 1, o3) :: (gl, listOf (List.toArray ys) gn) :: ts) i i3 s) ?ka ?kb
          case ka =>
            repeat' (first | (k_unfold; (try dsimp only)) | walk1 | (dsimp only; walk1) | (leave1; (try dsimp only)))
            rename Fr _ _ _ _ => F2
            rename News _ _ _ _ => N2
            refine Hold.intro (draw_step (HA'.less 1 (by omega)) D F2 N2 (by k_updF) hl hi hn hx3 (by omega) (by decide) ?_)
            intro v tv h3 tk3 x4 tx4 i4 ti4 nj2 hv hx4 hi4 F3 N3
            clear F2 N2
            have hvc : v = 0 ∨ v = 1 ∨ v = 2 ∨ v = 3 ∨ v = 4 ∨ v = 5 ∨ v = 6 := lt7 hv
            clear hv
            dsimp only
            repeat' (first | (k_unfold; (try dsimp only)) | walk1 | (dsimp only; walk1) | (leave1; (try dsimp only)))
            rcases hvc with rfl | rfl | rfl | rfl | rfl | rfl | rfl
            · repeat' (first | (k_unfold; (try dsimp only)) | walk1 | (dsimp only; walk1) | (leave1; (try dsimp only)))
              rename Fr _ _ _ _ => F5
              rename News _ _ _ _ => N5
              exact TurnK.mk _ _ 0 _ _ x4 i4 tx4 ti4 nj2 _ ⟨rfl, rfl, rfl, rfl, trivial⟩ F5 (fun p hp => N5 p (by revert p; k_allIn)) (by decide) hx4 hi4
            · repeat' (first | (k_unfold; (try dsimp only)) | walk1 | (dsimp only; walk1) | (leave1; (try dsimp only)))
              rename Fr _ _ _ _ => F5
              rename News _ _ _ _ => N5
              exact TurnK.mk _ _ 1 _ _ x4 i4 tx4 ti4 nj2 _ ⟨rfl, rfl, rfl, rfl, trivial⟩ F5 (fun p hp => N5 p (by revert p; k_allIn)) (by decide) hx4 hi4
            · repeat' (first | (k_unfold; (try dsimp only)) | walk1 | (dsimp only; walk1) | (leave1; (try dsimp only)))
              rename Fr _ _ _ _ => F5
              rename News _ _ _ _ => N5
              exact TurnK.mk _ _ 2 _ _ x4 i4 tx4 ti4 nj2 _ ⟨rfl, rfl, rfl, rfl, trivial⟩ F5 (fun p hp => N5 p (by revert p; k_allIn)) (by decide) hx4 hi4
            · repeat' (first | (k_unfold; (try dsimp only)) | walk1 | (dsimp only; walk1) | (leave1; (try dsimp only)))
              rename Fr _ _ _ _ => F5
              rename News _ _ _ _ => N5
              exact TurnK.mk _ _ 3 _ _ x4 i4 tx4 ti4 nj2 _ ⟨rfl, rfl, rfl, rfl, trivial⟩ F5 (fun p hp => N5 p (by revert p; k_allIn)) (by decide) hx4 hi4
            · repeat' (first | (k_unfold; (try dsimp only)) | walk1 | (dsimp only; walk1) | (leave1; (try dsimp only)))
              rename Fr _ _ _ _ => F5
              rename News _ _ _ _ => N5
              exact TurnK.mk _ _ 4 _ _ x4 i4 tx4 ti4 nj2 _ ⟨rfl, rfl, rfl, rfl, trivial⟩ F5 (fun p hp => N5 p (by revert p; k_allIn)) (by decide) hx4 hi4
            · repeat' (first | (k_unfold; (try dsimp only)) | walk1 | (dsimp only; walk1) | (leave1; (try dsimp only)))
              rename Fr _ _ _ _ => F5
              rename News _ _ _ _ => N5
              exact TurnK.mk _ _ 5 _ _ x4 i4 tx4 ti4 nj2 _ ⟨rfl, rfl, rfl, rfl, trivial⟩ F5 (fun p hp => N5 p (by revert p; k_allIn)) (by decide) hx4 hi4
            · repeat' (first | (k_unfold; (try dsimp only)) | walk1 | (dsimp only; walk1) | (leave1; (try dsimp only)))
              rename Fr _ _ _ _ => F5
              rename News _ _ _ _ => N5
              exact TurnK.mk _ _ 6 _ _ x4 i4 tx4 ti4 nj2 _ ⟨rfl, rfl, rfl, rfl, trivial⟩ F5 (fun p hp => N5 p (by revert p; k_allIn)) (by decide) hx4 hi4
          case kb =>
            rintro _ ⟨h2, tk2, T, kt, tt2, x4, i4, tx4, ti4, nj2, m2, ag, F2, N2, hT7, hx4, hi4⟩
            rw [bnd_of ag] at F2
            clear ag
            have hTc : T = 0 ∨ T = 1 ∨ T = 2 ∨ T = 3 ∨ T = 4 ∨ T = 5 ∨ T = 6 := lt7N hT7
            clear hT7
            with_reducible refine cut1 (TurnS (hideAll s.heap [J]) L' x fl ((J, listOf #[.int x4 tx4, .int i4 ti4, .ref l] nj2) :: (It, io) :: (fl, listOf (List.toArray zs) kf) :: (lcr, listOf (List.toArray vc) kc) :: (lor, listOf #[] n2) :: (x, instObj 127 dxr) :: (dxr, dictOf (netD z1 z2 z3 z4 z5 u1 u2 u3 u4 u5 (.str (Str.ofString "n") tn) (.int 14 tq) lir lor lcr) n0) :: (lir, listOf #[pv] kp) :: (L' + 1 + 1 + 1, oq) :: (L' + 1 + 1, og) :: (L' + 1, o3) :: (gl, listOf (List.toArray ys) gn) :: ts) T i s) ?sa ?sb
            case sa =>
              repeat' (first | (k_unfold; (try dsimp only)) | walk1 | (dsimp only; walk1) | (leave1; (try dsimp only)))
              rename Fr _ _ _ _ => F3
              rename News _ _ _ _ => N3
              rename Flat _ _ => hv
              obtain ⟨sz, u, e, s1, s2⟩ := size_val hTc hv
              subst e
              exact TurnS.mk _ _ _ _ _ sz _ ⟨rfl, rfl, rfl, rfl, rfl, trivial⟩ F3 (fun p hp => N3 p (by revert p; k_allIn)) ⟨s1, s2⟩
            case sb =>
              rintro _ ⟨h3, tk3, kt, st, tt3, sz, m3, ag, F3, N3, hsz⟩
              rw [bnd_of ag] at F3
              clear ag F2 N2
              repeat' (first | (k_unfold; (try dsimp only)) | walk1 | (dsimp only; walk1) | (leave1; (try dsimp only)))
              rcases hTc with rfl | rfl | rfl | rfl | rfl | rfl | rfl
              · dsimp only [kindS]
                repeat' (first | (k_unfold; (try dsimp only)) | walk1 | (dsimp only; walk1) | (leave1; (try dsimp only)))
                rename Fr _ _ _ _ => F5
                rename News _ _ _ _ => N5
                dsimp only
                refine' TurnP.mk _ _ (kindS 0) kt st sz _ .none [] x4 i4 tx4 ti4 nj2 _ ⟨rfl, rfl, rfl, rfl, rfl, trivial⟩ F5 ?N hsz hx4 hi4 mk_none ?O (by decide +kernel) (by decide +kernel) (by decide +kernel)
                case N =>
                  intro p hp
                  simp only [List.cons_append, List.nil_append] at hp
                  exact N5 p (by revert p; k_allIn)
                case O => exact fun p hp => nomatch hp
              · dsimp only [kindS]
                repeat' (first | (k_unfold; (try dsimp only)) | walk1 | (dsimp only; walk1) | (leave1; (try dsimp only)))
                rename Fr _ _ _ _ => F5
                rename News _ _ _ _ => N5
                dsimp only
                refine' TurnP.mk _ _ (kindS 1) kt st sz _ .none [] x4 i4 tx4 ti4 nj2 _ ⟨rfl, rfl, rfl, rfl, rfl, trivial⟩ F5 ?N hsz hx4 hi4 mk_none ?O (by decide +kernel) (by decide +kernel) (by decide +kernel)
                case N =>
                  intro p hp
                  simp only [List.cons_append, List.nil_append] at hp
                  exact N5 p (by revert p; k_allIn)
                case O => exact fun p hp => nomatch hp
              · dsimp only [kindS]
                repeat' (first | (k_unfold; (try dsimp only)) | walk1 | (dsimp only; walk1) | (leave1; (try dsimp only)))
                rename Fr _ _ _ _ => F5
                rename News _ _ _ _ => N5
                dsimp only
                refine' TurnP.mk _ _ (kindS 2) kt st sz _ .none [] x4 i4 tx4 ti4 nj2 _ ⟨rfl, rfl, rfl, rfl, rfl, trivial⟩ F5 ?N hsz hx4 hi4 mk_none ?O (by decide +kernel) (by decide +kernel) (by decide +kernel)
                case N =>
                  intro p hp
                  simp only [List.cons_append, List.nil_append] at hp
                  exact N5 p (by revert p; k_allIn)
                case O => exact fun p hp => nomatch hp
              · dsimp only [kindS]
                repeat' (first | (k_unfold; (try dsimp only)) | walk1 | (dsimp only; walk1) | (leave1; (try dsimp only)))
                rename Fr _ _ _ _ => F5
                rename News _ _ _ _ => N5
                dsimp only
                refine' TurnP.mk _ _ (kindS 3) kt st sz _ (.tuple [.int 1, .str (Str.ofString "s" ++ Str.ofString (toString (i : Int))), .int 0]) [(_, _)] x4 i4 tx4 ti4 nj2 _ ⟨rfl, rfl, rfl, rfl, rfl, trivial⟩ F5 ?N hsz hx4 hi4 mk_flop ?O (by decide +kernel) (lay_flop (by omega)) dep_flop
                case N =>
                  intro p hp
                  simp only [List.cons_append, List.nil_append] at hp
                  exact N5 p (by revert p; k_allIn)
                case O => exact (fun p hp => by rcases List.mem_singleton.mp hp with rfl; exact ⟨by k_ne, by k_ne, by k_ne, by k_ne, by k_ne⟩)
              · dsimp only [kindS]
                repeat' (first | (k_unfold; (try dsimp only)) | walk1 | (dsimp only; walk1) | (leave1; (try dsimp only)))
                rename Fr _ _ _ _ => F5
                rename News _ _ _ _ => N5
                dsimp only
                refine' TurnP.mk _ _ (kindS 4) kt st sz _ (.tuple [.str (Str.ofString "s" ++ Str.ofString (toString (i : Int))), .int 0]) [(_, _)] x4 i4 tx4 ti4 nj2 _ ⟨rfl, rfl, rfl, rfl, rfl, trivial⟩ F5 ?N hsz hx4 hi4 mk_latch ?O (by decide +kernel) (lay_latch (by omega)) dep_latch
                case N =>
                  intro p hp
                  simp only [List.cons_append, List.nil_append] at hp
                  exact N5 p (by revert p; k_allIn)
                case O => exact (fun p hp => by rcases List.mem_singleton.mp hp with rfl; exact ⟨by k_ne, by k_ne, by k_ne, by k_ne, by k_ne⟩)
              · dsimp only [kindS]
                repeat' (first | (k_unfold; (try dsimp only)) | walk1 | (dsimp only; walk1) | (leave1; (try dsimp only)))
                rename Fr _ _ _ _ => F5
                rename News _ _ _ _ => N5
                dsimp only
                refine' TurnP.mk _ _ (kindS 5) kt st sz _ (.int 6) [] x4 i4 tx4 ti4 nj2 _ ⟨rfl, rfl, rfl, rfl, rfl, trivial⟩ F5 ?N hsz hx4 hi4 mk_int ?O (by decide +kernel) (by decide +kernel) (by decide +kernel)
                case N =>
                  intro p hp
                  simp only [List.cons_append, List.nil_append] at hp
                  exact N5 p (by revert p; k_allIn)
                case O => exact fun p hp => nomatch hp
              · dsimp only [kindS]
                repeat' (first | (k_unfold; (try dsimp only)) | walk1 | (dsimp only; walk1) | (leave1; (try dsimp only)))
                rename Fr _ _ _ _ => F5
                rename News _ _ _ _ => N5
                dsimp only
                refine' TurnP.mk _ _ (kindS 6) kt st sz _ .none [] x4 i4 tx4 ti4 nj2 _ ⟨rfl, rfl, rfl, rfl, rfl, trivial⟩ F5 ?N hsz hx4 hi4 mk_none ?O (by decide +kernel) (by decide +kernel) (by decide +kernel)
                case N =>
                  intro p hp
                  simp only [List.cons_append, List.nil_append] at hp
                  exact N5 p (by revert p; k_allIn)
                case O => exact fun p hp => nomatch hp
        case tp2 =>
          rintro _ ⟨h2, tk2, kd, kt, st, sz, pw, pd, ts2, x4, i4, tx4, ti4, nj2, m2, ag, F2, N2, hsz, hx4, hi4, mkp, hts2, hl1, hl2, hl3⟩
          rw [bnd_of ag] at F2
          clear ag
          obtain ⟨tt, htt⟩ : ∃ tt, tt = ts2 ++ ts := ⟨_, rfl⟩
          simp only [List.cons_append, List.nil_append] at N2
          rw [← htt] at N2
          have mkt : Mk b₀ tt pv (encPort (Str.ofString "a", (List.range wd).map fun i : Nat => (2 : Int) + (i : Int))) := htt ▸ mk.more
          have mkct : MkAll b₀ tt vc (cs.map encCel) := htt ▸ mkc.more
          have mkpt : Mk b₀ tt pw pd := htt ▸ mkp.fore
          have hT : OffTurn tt It fl J lcr lor := by
            rw [htt]
            intro p hp
            rcases List.mem_append.mp hp with hp | hp
            · exact hts2 p hp
            · exact ⟨htI p hp, hts p hp⟩
          have hTJ : ∀ p ∈ tt, p.1 ≠ J := fun p hp => (hT p hp).2.2.1
          have hTf : ∀ p ∈ tt, p.1 ≠ fl := fun p hp => (hT p hp).2.1
          have hTc : ∀ p ∈ tt, p.1 ≠ lcr := fun p hp => (hT p hp).2.2.2.1
          clear mk mkc mkp hts2 hts htI htt
          with_reducible refine cut2 (TurnO (hideAll s.heap [J]) L' J l x fl (fun o => (It, io) :: (fl, o) :: (lcr, listOf (List.toArray vc) kc) :: (lor, listOf #[] n2) :: (x, instObj 127 dxr) :: (dxr, dictOf (netD z1 z2 z3 z4 z5 u1 u2 u3 u4 u5 (.str (Str.ofString "n") tn) (.int 14 tq) lir lor lcr) n0) :: (lir, listOf #[pv] kp) :: (L' + 1 + 1 + 1, oq) :: (L' + 1 + 1, og) :: (L' + 1, o3) :: (gl, listOf (List.toArray ys) gn) :: tt) kd sz pw zs.length i4 s) ?tq1 ?tq2
          case tq1 =>
            repeat' (first | (k_unfold; (try dsimp only)) | walk1 | (dsimp only; walk1) | (leave1; (try dsimp only)))
            rename Fr _ _ _ _ => F3
            rename News _ _ _ _ => N3
            have hzs : 0 < (zs.length : Int) ∧ (zs.length : Int) ≤ 1000 := ⟨by omega, by omega⟩
            refine Hold.intro (draw_step (HA'.less 1 (by omega)) D F3 N3 (by k_updF) hl hi hn hx4 (by omega) hzs ?_)
            intro v tv h3 tk3 x5 tx5 i5 ti5 nj3 hv hx5 hi5 F4 N4
            clear F3 N3
            dsimp only
            repeat' (first | (k_unfold; (try dsimp only)) | walk1 | (dsimp only; walk1) | (leave1; (try dsimp only)))
            rename Fr _ _ _ _ => F3
            rename News _ _ _ _ => N3
            refine Hold.intro (pop_step F3 N3 (by k_updF) hks hv (by omega) ?_)
            intro out ot zs2 ks2 h4 hc hks2 hkk hzl F5 N5
            have hob := hkb out hc
            clear F3 N3 hv
            dsimp only
            repeat' (first | (k_unfold; (try dsimp only)) | walk1 | (dsimp only; walk1) | (leave1; (try dsimp only)))
            rename Fr _ _ _ _ => F3
            rename News _ _ _ _ => N3
            refine Hold.intro (draw_step (HA'.less 1 (by omega)) D F3 N3 (by k_updF) hl hi hn hx5 (by omega) (by decide) ?_)
            intro v tv h3 tk3 x6 tx6 i6 ti6 nj4 hv hx6 hi6 F4 N4
            clear F3 N3 hv
            dsimp only
            repeat' (first | (k_unfold; (try dsimp only)) | walk1 | (dsimp only; walk1) | (leave1; (try dsimp only)))
            · rename Fr _ _ _ _ => F5
              rename News _ _ _ _ => N5
              refine Hold.intro (draw_step (HA'.less 1 (by omega)) D F5 N5 (by k_updF) hl hi hn hx6 (by omega) (by decide) ?_)
              intro v tv h3 tk3 x7 tx7 i7 ti7 nj5 hv hx7 hi7 F6 N6
              clear F5 N5
              have hvc : v = 0 ∨ v = 1 ∨ v = 2 := lt3 hv
              have hg2 : (List.map (fun i : Nat => (2 : Int) + (i : Int)) (List.range wd)).getD (Int.toNat 0) 0 = 2 := by
                obtain rfl | rfl : wd = 1 ∨ wd = 2 := by omega
                · rfl
                · rfl
              clear hv
              dsimp only
              rcases hvc with rfl | rfl | rfl
              · repeat' (first | (k_unfold; (try dsimp only)) | walk1 | (dsimp only; walk1) | (leave1; (try dsimp only)))
                rename Fr _ _ _ _ => F5
                rename News _ _ _ _ => N5
                exact TurnO.mk _ _ _ _ _ _ zs2 ks2 _ x7 i7 tx7 ti7 nj5 _ ⟨rfl, rfl, rfl, rfl, rfl, rfl, trivial⟩ F5 (fun p hp => N5 p (by revert p; k_allIn)) (by decide) hks2 (fun k hk => hkb k (hkk k hk)) hzl hx7 ⟨by omega, by omega⟩
              · repeat' (first | (k_unfold; (try dsimp only)) | walk1 | (dsimp only; walk1) | (leave1; (try dsimp only)))
                rename Fr _ _ _ _ => F5
                rename News _ _ _ _ => N5
                exact TurnO.mk _ _ _ _ _ _ zs2 ks2 _ x7 i7 tx7 ti7 nj5 _ ⟨rfl, rfl, rfl, rfl, rfl, rfl, trivial⟩ F5 (fun p hp => N5 p (by revert p; k_allIn)) (by rw [hg2]; decide) hks2 (fun k hk => hkb k (hkk k hk)) hzl hx7 ⟨by omega, by omega⟩
              · repeat' (first | (k_unfold; (try dsimp only)) | walk1 | (dsimp only; walk1) | (leave1; (try dsimp only)))
                rename Fr _ _ _ _ => F5
                rename News _ _ _ _ => N5
                exact TurnO.mk _ _ _ _ _ _ zs2 ks2 _ x7 i7 tx7 ti7 nj5 _ ⟨rfl, rfl, rfl, rfl, rfl, rfl, trivial⟩ F5 (fun p hp => N5 p (by revert p; k_allIn)) (by decide) hks2 (fun k hk => hkb k (hkk k hk)) hzl hx7 ⟨by omega, by omega⟩
            · rename Fr _ _ _ _ => F5
              rename News _ _ _ _ => N5
              exact TurnO.mk _ _ _ _ ot out zs2 ks2 _ x6 i6 tx6 ti6 nj4 _ ⟨rfl, rfl, rfl, rfl, rfl, rfl, trivial⟩ F5 (fun p hp => N5 p (by revert p; k_allIn)) ⟨by omega, by omega⟩ hks2 (fun k hk => hkb k (hkk k hk)) hzl hx6 ⟨by omega, by omega⟩
          case tq2 =>
            rintro _ ⟨h3, tk3, kt, st, ot, out, zs2, ks2, kf2, x5, i5, tx5, ti5, nj3, m3, ag, F3, N3, hout, hks2, hkb2, hzl, hx5, hi5⟩
            rw [bnd_of ag] at F3
            clear ag F2 N2 hks hkb hx4
            repeat' (first | (k_unfold; (try dsimp only)) | walk1 | (dsimp only; walk1) | (leave1; (try dsimp only)))
            refine Hold.intro ?_
            refine LCg.ListComp_U (F₀ := by assumption) (by with_unfolding_all rfl) (by decide) (by rfl) (by decide) (by rfl) ?_
            repeat' (first | (k_unfold; (try dsimp only)) | walk1 | (dsimp only; walk1) | (leave1; (try dsimp only)))
            rename Fr _ _ _ _ => F4
            rename News _ _ _ _ => N4
            rename IsRange _ _ _ _ _ _ _ _ => R4
            let jInv2 := fun (j : Nat) (ys2 : List Value) (news' : List (Addr × Obj)) => Ex6 fun x6 i6 tx6 ti6 nj4 ns2 => news' = (J, listOf #[.int x6 tx6, .int i6 ti6, .ref l] nj4) :: (It, io) :: (fl, listOf (List.toArray zs2) kf2) :: (lcr, listOf (List.toArray vc) kc) :: (lor, listOf #[] n2) :: (x, instObj 127 dxr) :: (dxr, dictOf (netD z1 z2 z3 z4 z5 u1 u2 u3 u4 u5 (.str (Str.ofString "n") tn) (.int 14 tq) lir lor lcr) n0) :: (lir, listOf #[pv] kp) :: (L' + 1 + 1 + 1, oq) :: (L' + 1 + 1, og) :: (L' + 1, o3) :: (gl, listOf (List.toArray ys) gn) :: tt ∧ IntsAre ys2 ns2 ∧ ys2.length = j ∧ (0 ≤ x6 ∧ x6 < 10 ^ 60) ∧ (0 ≤ i6 ∧ i6 ≤ i5 + (j : Int))
            refine Hold.intro (LCg.CompSrc.range (n := sz) hh' F4 N4 R4 (small_one (by omega) (by omega) (by omega) (by omega)) (by rw [rangeSize_nat]; congr 1) (by rw [sizeLine_eq]; omega) fun g => comp_inv jInv2 ⟨x5, i5, tx5, ti5, nj3, [], rfl, .nil, rfl, hx5, by omega⟩ ?_ ?_)
            · rintro j ys2 news v I2 oI2 C2 oC2 D2 m₂ hq tkq E2 hj ⟨x6, i6, tx6, ti6, nj4, ns2, rfl, hns, hyl, hx6, hi6⟩ ⟨tv2, rfl⟩ hC2 hm2 F5 N5 off ⟨q1, q2, q3⟩
              obtain ⟨w1, w2, w3⟩ := off3_dis off
              clear F4 N4 q1 q2 q3
              with_reducible show wpAny _ _ _ _ _ _
              k_fold
              repeat' (first | (k_unfold; (try dsimp only)) | walk1 | (dsimp only; walk1) | (leave1; (try dsimp only)))
              rename Fr _ _ _ _ => F6
              rename News _ _ _ _ => N6
              refine Hold.intro (draw_step (HA'.less 1 (by omega)) D F6 N6 (by k_updF) hl hi hn hx6 (by omega) (by decide) ?_)
              intro v tv h4 tk4 x7 tx7 i7 ti7 nj5 hv hx7 hi7 F7 N7
              clear F6 N6
              dsimp only
              refine LCg.CompEnd.intro F7 N7 _ (fun _ q => q) off trivial ⟨x7, i7, tx7, ti7, nj5, _, rfl, hns.append (.cons _ _ .nil), by rw [List.length_append, hyl]; rfl, hx7, by omega⟩
            · rintro ys2 news ⟨x6, i6, tx6, ti6, nj4, ns2, rfl, hns, hyl, hx6, hi6⟩
              clear F4 N4
              repeat' (first | (k_unfold; (try dsimp only)) | walk1 | (dsimp only; walk1) | (leave1; (try dsimp only)))
              rename Fr _ _ _ _ => F5
              rename News _ _ _ _ => N5
              rename _ ∧ _ ∧ _ ∧ _ ∧ _ ∧ _ ∧ _ ∧ _ ∧ _ ∧ _ ∧ _ ∧ _ ∧ LCg.Off1 _ _ => o1
              rename_i D2 _ _
              obtain ⟨(eJ : Dis J D2), (eI : Dis It D2), (ef : Dis fl D2), (ec : Dis lcr D2), (eo : Dis lor D2), (ex : Dis x D2), (ed : Dis dxr D2), (ei : Dis lir D2), (e3 : Dis (L' + 1 + 1 + 1) D2), (e2 : Dis (L' + 1 + 1) D2), (e1 : Dis (L' + 1) D2), (eg : Dis gl D2), et⟩ := o1
              have kk5 := hide_led F5 N5 (D := lcr) (.tail _ (.tail _ (.tail _ (.tail _ (.head _)))))
              have nxc : x ≠ lcr := by k_ne
              have ndc : dxr ≠ lcr := by k_ne
              refine Hold.intro (wpAny_call (codeAny_mono (drive_code (mg := mg) (mb := mb) (lc := lcr) (cs := vc) (us := ys2) (b₀ := b₀) (ts₀ := tt) (pd := pd) ((HA'.less 1 (by omega)).keeps kk5) (D.keeps kk5)
                ⟨led_hide N5 (.tail _ (.tail _ (.tail _ (.tail _ (.tail _ (.tail _ (.head _))))))) nxc, rfl, rfl, led_hide N5 (.tail _ (.tail _ (.tail _ (.tail _ (.tail _ (.tail _ (.tail _ (.head _)))))))) ndc⟩
                (N5 _ (.tail _ (.tail _ (.tail _ (.tail _ (.head _)))))).1 ⟨_, led_hide N5 (.head _) (by k_ne), rfl, _, rfl⟩ hns (by omega) (by omega) mkpt) ?_))
              rintro _ _ ⟨v2, h4, tk4, k4, ts3, rfl, rfl, kk4, e4, t2, mk3⟩
              obtain ⟨F6, N6, off6⟩ := grown_led F5 N5 (by k_updF) kk4 e4 t2
              clear F5 N5
              dsimp only
              repeat' (first | (k_unfold; (try dsimp only)) | walk1 | (dsimp only; walk1) | (leave1; (try dsimp only)))
              have c1 : CelsOk (cs ++ [⟨kd, out, ns2, pd⟩]) := ⟨by rw [List.length_append, List.length_singleton]; omega, fun c hc => by
                rcases List.mem_append.mp hc with hc | hc
                · exact ok.2 c hc
                · rw [List.mem_singleton.mp hc]
                  exact ⟨by rw [← hns.length]; omega, hout, hl1, hl2, hl3⟩⟩
              have t3 : ∀ p ∈ ts3 ++ tt, @Ne Nat p.1 fl ∧ @Ne Nat p.1 J ∧ @Ne Nat p.1 lcr ∧ @Ne Nat p.1 lor := by
                intro p hp
                rcases List.mem_append.mp hp with hp | hp
                · exact ⟨off6 _ _ (.tail _ (.tail _ (.tail _ (.head _)))) p hp, off6 _ _ (.tail _ (.head _)) p hp, off6 _ _ (.tail _ (.tail _ (.tail _ (.tail _ (.head _))))) p hp, off6 _ _ (.tail _ (.tail _ (.tail _ (.tail _ (.tail _ (.head _)))))) p hp⟩
                · exact (hT p hp).2
              have tI : ∀ p ∈ ts3 ++ tt, p.1 ≠ It := by
                intro p hp
                rcases List.mem_append.mp hp with hp | hp
                · exact off6 _ _ (.tail _ (.tail _ (.head _))) p hp
                · exact (hT p hp).1
              refine' turn_next (led' := (fl, listOf (List.toArray zs2) kf2) :: (J, listOf #[.int x6 tx6, .int i6 ti6, .ref l] nj4) :: (lcr, listOf (List.toArray (vc ++ [v2])) k4) :: (lor, listOf #[] n2) :: (x, instObj 127 dxr) :: (dxr, dictOf (netD z1 z2 z3 z4 z5 u1 u2 u3 u4 u5 (.str (Str.ofString "n") tn) (.int 14 tq) lir lor lcr) n0) :: (lir, listOf #[pv] kp) :: (L' + 1 + 1 + 1, oq) :: (L' + 1 + 1, og) :: (L' + 1, o3) :: (gl, listOf (List.toArray ys) gn) :: (ts3 ++ tt)) F6 N6 ?hs ?ho ?hj
              case hs => exact hs_app (ts2 := ts3) (ts := tt) [_, _, _, _, _, _, _, _, _, _, _, _] (by k_allIn) (by intro p hp; repeat (first | exact hp | refine List.Mem.tail _ ?_))
              case ho =>
                simp only [List.forall_mem_cons]
                exact ⟨qf, qJ, qc, qo, qx, qd, qi, q3, q2, q1, qg, tI⟩
              case hj =>
                exact .mk _ (ts3 ++ tt) (vc ++ [v2]) k4 (cs ++ [⟨kd, out, ns2, pd⟩]) zs2 ks2 kf2 x6 i6 tx6 ti6 nj4 ⟨rfl, rfl, trivial⟩ (by rw [List.length_append, hvc]; rfl) (by rw [List.length_append, hcs]; rfl) hks2 hkb2 (by omega) (by omega) hx6 (by omega) mkt.more (by rw [List.map_append]; exact mkct.more.snoc_same mk3) c1 t3
      · clear led0 R2 F2 N2 mk hx3 hi3 hx4 hi4 hks hkb hz1 hz2 htf hfJ
        rintro m₁ _ h tt ⟨ts, vc, kc, cs, zs, ks, kf, x3, i3, tx3, ti3, nj, ag, hvc, hcs, hks, hkb, hz1, hz2, hx3, hi3, mk, mkc, ok, hts⟩ F Nw
        change Fr (hideAll s.heap [J]) L' _ _ at F
        change News (hideAll s.heap [J]) L' _ _ at Nw
        dsimp only
        repeat' (first | (k_unfold; (try dsimp only)) | walk1 | (dsimp only; walk1) | (leave1; (try dsimp only)))
        exact .mk h tt m₁ ts vc kc cs x3 i3 tx3 ti3 nj ⟨ag.2.1, trivial⟩ F (fun p hp => Nw p (.tail _ hp)) (by omega) hx3 (by omega) mk mkc ok (fun p hp => (hts p hp).2)
    case lp2 =>
      rintro _ ⟨h, tk, m, ts, vc, kc, cs, x3, i3, tx3, ti3, nj, ag, Fz, Nz, hvc, hx3, hi3, mk, mkc, ok, htf⟩
      rw [bnd_of ag] at Fz
      simp only [List.cons_append, List.nil_append] at Nz
      have hfJ : ∀ p ∈ ts, p.1 ≠ J := fun p hp => (htf p hp).1
      obtain ⟨lJ, l1, l2, l3, l4, l5⟩ := far
      obtain ⟨gJ, g1, g2, g3, gd, gx, gi, go, gc⟩ := hgl
      clear ag hfl hfg
      have v0 : Dis x J := by (show @Ne Nat x J; omega)
      have v1 : Dis dxr J := by (show @Ne Nat dxr J; omega)
      have v2 : Dis lir J := by (show @Ne Nat lir J; omega)
      have v3 : Dis lor J := by (show @Ne Nat lor J; omega)
      have v4 : Dis lcr J := by (show @Ne Nat lcr J; omega)
      have v5 : Dis (L' + 1) J := by (show @Ne Nat (L' + 1) J; omega)
      have v6 : Dis (L' + 1 + 1) J := by (show @Ne Nat (L' + 1 + 1) J; omega)
      have v7 : Dis (L' + 1 + 1 + 1) J := by (show @Ne Nat (L' + 1 + 1 + 1) J; omega)
      have v8 : Dis x lcr := by (show @Ne Nat x lcr; omega)
      have v9 : Dis dxr lcr := by (show @Ne Nat dxr lcr; omega)
      have v10 : Dis lir lcr := by (show @Ne Nat lir lcr; omega)
      have v11 : Dis lor lcr := by (show @Ne Nat lor lcr; omega)
      have v12 : Dis (L' + 1) lcr := by (show @Ne Nat (L' + 1) lcr; omega)
      have v13 : Dis (L' + 1 + 1) lcr := by (show @Ne Nat (L' + 1 + 1) lcr; omega)
      have v14 : Dis (L' + 1 + 1 + 1) lcr := by (show @Ne Nat (L' + 1 + 1 + 1) lcr; omega)
      have v15 : Dis x lor := by (show @Ne Nat x lor; omega)
      have v16 : Dis dxr lor := by (show @Ne Nat dxr lor; omega)
      have v17 : Dis lir lor := by (show @Ne Nat lir lor; omega)
      have v18 : Dis (L' + 1) lor := by (show @Ne Nat (L' + 1) lor; omega)
      have v19 : Dis (L' + 1 + 1) lor := by (show @Ne Nat (L' + 1 + 1) lor; omega)
      have v20 : Dis (L' + 1 + 1 + 1) lor := by (show @Ne Nat (L' + 1 + 1 + 1) lor; omega)
      with_reducible show wpAny _ _ _ _ _ _
      k_fold
      repeat' (first | (k_unfold; (try dsimp only)) | walk1 | (dsimp only; walk1) | (leave1; (try dsimp only)))
      rename Fr _ _ _ _ => F2
      rename News _ _ _ _ => N2
      refine Hold.intro (draw_step (HA'.less 1 (by omega)) D F2 N2 (by k_updF) hl hi hn hx3 (by omega) (by decide) ?_)
      intro v tv h3 tk3 x4 tx4 i4 ti4 nj2 hv hx4 hi4 F3 N3
      clear F2 N2
      obtain ⟨T, hT⟩ : ∃ T : Nat, v = (T : Int) := ⟨v.toNat, by omega⟩
      subst hT
      dsimp only
      repeat' (first | (k_unfold; (try dsimp only)) | walk1 | (dsimp only; walk1) | (leave1; (try dsimp only)))
      rename Fr _ _ _ _ => F2
      rename News _ _ _ _ => N2
      rename IsRange _ _ _ _ _ _ _ _ => R2
      have led0 : OutInv b₀ J l x lcr lor vc kc cs pv wd [(x, instObj 127 dxr), (dxr, dictOf (netD z1 z2 z3 z4 z5 u1 u2 u3 u4 u5 (.str (Str.ofString "n") tn) (.int 14 tq) lir lor lcr) n0), (lir, listOf #[pv] kp), (L' + 1 + 1 + 1, oq), (L' + 1 + 1, og), (L' + 1, o3), (gl, listOf (List.toArray ys) gn)] i4 0 _ _ := .mk (bnd [(Str.ofString "made", .ref x)] m) ts [] n2 [] x4 i4 tx4 ti4 nj2 ⟨rfl, trivial⟩ rfl rfl hx4 (by omega) mk mkc (MkAll.nil _ _) (fun c hc => nomatch hc) htf
      refine turns_upto (OutInv b₀ J l x lcr lor vc kc cs pv wd [(x, instObj 127 dxr), (dxr, dictOf (netD z1 z2 z3 z4 z5 u1 u2 u3 u4 u5 (.str (Str.ofString "n") tn) (.int 14 tq) lir lor lcr) n0), (lir, listOf #[pv] kp), (L' + 1 + 1 + 1, oq), (L' + 1 + 1, og), (L' + 1, o3), (gl, listOf (List.toArray ys) gn)] i4) hh' rfl (n := T) (by omega) R2 F2 N2 led0 ?_ ?_
      · clear led0 R2 F2 N2 mk mkc hx3 hx4 htf hfJ
        rintro i tt m₁ _ h tk It io hiT ho ⟨ts, vo, ko, os, x3, i3', tx3, ti3, nj, ag, hvo, hos, hx3, hi3', mk, mkc, mko, ook, hts⟩ F Nw
        rw [bnd_of ag] at F
        change Fr (hideAll s.heap [J]) L' _ _ at F
        change News (hideAll s.heap [J]) L' _ _ at Nw
        clear ag
        have htI : ∀ p ∈ ts, p.1 ≠ It := fun p hp => ho p (.tail _ (.tail _ (.tail _ (List.mem_append_right _ hp))))
        have hfJ : ∀ p ∈ ts, p.1 ≠ J := fun p hp => (hts p hp).1
        have hfo : ∀ p ∈ ts, p.1 ≠ lor := fun p hp => (hts p hp).2.2
        simp only [List.cons_append, List.nil_append, List.forall_mem_cons] at Nw ho
        obtain ⟨(qJ : Dis J It), (qc : Dis lcr It), (qo : Dis lor It), (qx : Dis x It), (qd : Dis dxr It), (qi : Dis lir It), (q3 : Dis (L' + 1 + 1 + 1) It), (q2 : Dis (L' + 1 + 1) It), (q1 : Dis (L' + 1) It), (qg : Dis gl It), -⟩ := ho
        with_reducible show wpAny _ _ _ _ _ _
        k_fold
        repeat' (first | (k_unfold; (try dsimp only)) | walk1 | (dsimp only; walk1) | (leave1; (try dsimp only)))
        refine Hold.intro ?_
        refine LCg.ListComp_U (F₀ := by assumption) (by with_unfolding_all rfl) (by decide) (by rfl) (by decide) (by rfl) ?_
        repeat' (first | (k_unfold; (try dsimp only)) | walk1 | (dsimp only; walk1) | (leave1; (try dsimp only)))
        rename Fr _ _ _ _ => F3
        rename News _ _ _ _ => N3
        refine Hold.intro (draw_step (HA'.less 1 (by omega)) D F3 N3 (by k_updF) hl hi hn hx3 (by omega) (by decide) ?_)
        intro v tv h4 tk4 x5 tx5 i5 ti5 nj3 hv2 hx5 hi5 F4 N4
        clear F3 N3
        obtain ⟨sz, hsz⟩ : ∃ sz : Nat, 1 + v = (sz : Int) := ⟨(1 + v).toNat, by omega⟩
        dsimp only
        repeat' (first | (k_unfold; (try dsimp only)) | walk1 | (dsimp only; walk1) | (leave1; (try dsimp only)))
        rename Fr _ _ _ _ => F4
        rename News _ _ _ _ => N4
        rename IsRange _ _ _ _ _ _ _ _ => R4
        rw [hsz] at R4
        let jInv3 := fun (j : Nat) (ys2 : List Value) (news' : List (Addr × Obj)) => Ex6 fun x6 i6 tx6 ti6 nj4 ns2 => news' = (It, io) :: (J, listOf #[.int x6 tx6, .int i6 ti6, .ref l] nj4) :: (lcr, listOf (List.toArray vc) kc) :: (lor, listOf (List.toArray vo) ko) :: (x, instObj 127 dxr) :: (dxr, dictOf (netD z1 z2 z3 z4 z5 u1 u2 u3 u4 u5 (.str (Str.ofString "n") tn) (.int 14 tq) lir lor lcr) n0) :: (lir, listOf #[pv] kp) :: (L' + 1 + 1 + 1, oq) :: (L' + 1 + 1, og) :: (L' + 1, o3) :: (gl, listOf (List.toArray ys) gn) :: ts ∧ IntsAre ys2 ns2 ∧ ys2.length = j ∧ (0 ≤ x6 ∧ x6 < 10 ^ 60) ∧ (0 ≤ i6 ∧ i6 ≤ i5 + (j : Int))
        refine Hold.intro (LCg.CompSrc.range (n := sz) hh' F4 N4 R4 (small_one (by omega) (by omega) (by omega) (by omega)) (by rw [rangeSize_nat]; congr 1) (by rw [sizeLine_eq]; omega) fun g => comp_inv jInv3 ⟨x5, i5, tx5, ti5, nj3, [], rfl, .nil, rfl, hx5, by omega⟩ ?_ ?_)
        · rintro j ys2 news v I2 oI2 C2 oC2 D2 m₂ hq tkq E2 hj ⟨x6, i6, tx6, ti6, nj4, ns2, rfl, hns, hyl, hx6, hi6⟩ ⟨tv2, rfl⟩ hC2 hm2 F5 N5 off ⟨q1, q2, q3⟩
          obtain ⟨w1, w2, w3⟩ := off3_dis off.2
          clear F4 N4 q1 q2 q3
          with_reducible show wpAny _ _ _ _ _ _
          k_fold
          repeat' (first | (k_unfold; (try dsimp only)) | walk1 | (dsimp only; walk1) | (leave1; (try dsimp only)))
          rename Fr _ _ _ _ => F6
          rename News _ _ _ _ => N6
          refine Hold.intro (draw_step (HA'.less 1 (by omega)) D F6 N6 (by k_updF) hl hi hn hx6 (by omega) (by decide) ?_)
          intro v tv h4 tk4 x7 tx7 i7 ti7 nj5 hv hx7 hi7 F7 N7
          clear F6 N6
          dsimp only
          refine LCg.CompEnd.intro F7 N7 _ (fun _ q => q) off trivial ⟨x7, i7, tx7, ti7, nj5, _, rfl, hns.append (.cons _ _ .nil), by rw [List.length_append, hyl]; rfl, hx7, by omega⟩
        · rintro ys2 news ⟨x6, i6, tx6, ti6, nj4, ns2, rfl, hns, hyl, hx6, hi6⟩
          clear F4 N4
          repeat' (first | (k_unfold; (try dsimp only)) | walk1 | (dsimp only; walk1) | (leave1; (try dsimp only)))
          rename Fr _ _ _ _ => F5
          rename News _ _ _ _ => N5
          rename _ ∧ _ ∧ _ ∧ _ ∧ _ ∧ _ ∧ _ ∧ _ ∧ _ ∧ _ ∧ _ ∧ LCg.Off1 _ _ => o1
          rename_i D2 _ _
          obtain ⟨(eI : Dis It D2), (eJ : Dis J D2), (ec : Dis lcr D2), (eo : Dis lor D2), (ex : Dis x D2), (ed : Dis dxr D2), (ei : Dis lir D2), (e3 : Dis (L' + 1 + 1 + 1) D2), (e2 : Dis (L' + 1 + 1) D2), (e1 : Dis (L' + 1) D2), (eg : Dis gl D2), et⟩ := o1
          have kk5 := hide_led F5 N5 (D := lor) (.tail _ (.tail _ (.tail _ (.tail _ (.head _)))))
          have nxc : x ≠ lor := by k_ne
          have ndc : dxr ≠ lor := by k_ne
          refine Hold.intro (wpAny_call (codeAny_mono (addout_code (mg := mg) (mb := mb) (lo := lor) (cs := vo) (us := ys2) ((HA'.less 1 (by omega)).keeps kk5) (D.keeps kk5)
            ⟨led_hide N5 (.tail _ (.tail _ (.tail _ (.tail _ (.tail _ (.head _)))))) nxc, rfl, rfl, led_hide N5 (.tail _ (.tail _ (.tail _ (.tail _ (.tail _ (.tail _ (.head _))))))) ndc⟩
            (N5 _ (.tail _ (.tail _ (.tail _ (.tail _ (.head _)))))).1 ⟨_, led_hide N5 (.head _) (by k_ne), rfl, _, rfl⟩ hns (by omega) (by omega) b₀) ?_))
          rintro _ _ ⟨v2, h4, tk4, k4, ts3, rfl, rfl, kk4, e4, t2, mk3⟩
          rw [List.append_nil] at mk3
          obtain ⟨F6, N6, off6⟩ := grown_led F5 N5 (by k_updF) kk4 e4 t2
          clear F5 N5
          dsimp only
          repeat' (first | (k_unfold; (try dsimp only)) | walk1 | (dsimp only; walk1) | (leave1; (try dsimp only)))
          have c1 : OutsOk (os ++ [(Str.ofString "y" ++ Str.ofString (toString (i : Int)), ns2)]) := fun c hc => by
            rcases List.mem_append.mp hc with hc | hc
            · exact ook c hc
            · rw [List.mem_singleton.mp hc]
              exact ⟨by rw [← hns.length]; omega, lay_y (by omega)⟩
          have t3 : ∀ p ∈ ts3 ++ ts, @Ne Nat p.1 J ∧ @Ne Nat p.1 lcr ∧ @Ne Nat p.1 lor := by
            intro p hp
            rcases List.mem_append.mp hp with hp | hp
            · exact ⟨off6 _ _ (.tail _ (.tail _ (.head _))) p hp, off6 _ _ (.tail _ (.tail _ (.tail _ (.head _)))) p hp, off6 _ _ (.tail _ (.tail _ (.tail _ (.tail _ (.head _))))) p hp⟩
            · exact hts p hp
          have tI : ∀ p ∈ ts3 ++ ts, p.1 ≠ It := by
            intro p hp
            rcases List.mem_append.mp hp with hp | hp
            · exact off6 _ _ (.tail _ (.head _)) p hp
            · exact htI p hp
          refine' turn_next (led' := (J, listOf #[.int x6 tx6, .int i6 ti6, .ref l] nj4) :: (lcr, listOf (List.toArray vc) kc) :: (lor, listOf (List.toArray (vo ++ [v2])) k4) :: (x, instObj 127 dxr) :: (dxr, dictOf (netD z1 z2 z3 z4 z5 u1 u2 u3 u4 u5 (.str (Str.ofString "n") tn) (.int 14 tq) lir lor lcr) n0) :: (lir, listOf #[pv] kp) :: (L' + 1 + 1 + 1, oq) :: (L' + 1 + 1, og) :: (L' + 1, o3) :: (gl, listOf (List.toArray ys) gn) :: (ts3 ++ ts)) F6 N6 ?hs ?ho ?hj
          case hs => exact hs_app (ts2 := ts3) (ts := ts) [_, _, _, _, _, _, _, _, _, _, _] (by k_allIn) (by intro p hp; repeat (first | exact hp | refine List.Mem.tail _ ?_))
          case ho =>
            simp only [List.forall_mem_cons]
            exact ⟨qJ, qc, qo, qx, qd, qi, q3, q2, q1, qg, tI⟩
          case hj =>
            exact .mk _ (ts3 ++ ts) (vo ++ [v2]) k4 (os ++ [(Str.ofString "y" ++ Str.ofString (toString (i : Int)), ns2)]) x6 i6 tx6 ti6 nj4 ⟨rfl, trivial⟩ (by rw [List.length_append, hvo]; rfl) (by rw [List.length_append, hos]; rfl) hx6 (by omega) mk.more mkc.more (by rw [List.map_append]; exact mko.snoc mk3) c1 t3
      · clear led0 R2 F2 N2 mk mkc hx3 hx4 htf hfJ
        rintro m₁ _ h tt ⟨ts, vo, ko, os, x3, i3', tx3, ti3, nj, ag, hvo, hos, hx3, hi3', mk, mkc, mko, ook, hts⟩ F Nw
        rw [bnd_of ag] at F
        change Fr (hideAll s.heap [J]) L' _ _ at F
        change News (hideAll s.heap [J]) L' _ _ at Nw
        dsimp only
        repeat' (first | (k_unfold; (try dsimp only)) | walk1 | (dsimp only; walk1) | (leave1; (try dsimp only)))
        dsimp only
        k_unfold
        dsimp only
        obtain ⟨OK, FIT⟩ := made_ok hwd ok (show os.length ≤ 4 by omega) ook
        have hm1 : ∀ p ∈ [(x, instObj 127 dxr), (dxr, dictOf (netD z1 z2 z3 z4 z5 u1 u2 u3 u4 u5 (.str (Str.ofString "n") tn) (.int 14 tq) lir lor lcr) n0), (lir, listOf #[pv] kp)], p ∈ (J, listOf #[.int x3 tx3, .int i3' ti3, .ref l] nj) :: (lcr, listOf (List.toArray vc) kc) :: (lor, listOf (List.toArray vo) ko) :: ([(x, instObj 127 dxr), (dxr, dictOf (netD z1 z2 z3 z4 z5 u1 u2 u3 u4 u5 (.str (Str.ofString "n") tn) (.int 14 tq) lir lor lcr) n0), (lir, listOf #[pv] kp), (L' + 1 + 1 + 1, oq), (L' + 1 + 1, og), (L' + 1, o3), (gl, listOf (List.toArray ys) gn)] ++ ts) := by
          intro p hp
          refine .tail _ (.tail _ (.tail _ (List.mem_append_left _ ?_)))
          simp only [List.mem_cons, List.not_mem_nil, or_false] at hp ⊢
          rcases hp with h | h | h <;> simp [h]
        have far2 : ∀ p ∈ [(x, instObj 127 dxr), (dxr, dictOf (netD z1 z2 z3 z4 z5 u1 u2 u3 u4 u5 (.str (Str.ofString "n") tn) (.int 14 tq) lir lor lcr) n0), (lir, listOf #[pv] kp)], @Ne Nat p.1 J := by
          intro p hp
          simp only [List.mem_cons, List.not_mem_nil, or_false] at hp
          rcases hp with h | h | h
          · rw [h]; show @Ne Nat x J; omega
          · rw [h]; show @Ne Nat dxr J; omega
          · rw [h]; show @Ne Nat lir J; omega
        refine ⟨x, (x, instObj 127 dxr) :: (dxr, dictOf (netD z1 z2 z3 z4 z5 u1 u2 u3 u4 u5 (.str (Str.ofString "n") tn) (.int 14 tq) lir lor lcr) n0) :: (lir, listOf (List.toArray [pv]) kp) :: (lor, listOf (List.toArray vo) ko) :: (lcr, listOf (List.toArray vc) kc) :: ts, h, _, _, rfl, rfl, fun b o e ne => F.keep b o (hideAll_get [J] e (by simpa using ne)), ?_, mknet_of (ins := [(Str.ofString "a", (List.range wd).map fun i : Nat => (2 : Int) + (i : Int))]) ((MkAll.nil b₀ ts).snoc_same mk) mko mkc, OK, FIT⟩
        intro p hp
        rcases List.mem_cons.mp hp with q | hp
        · have y := Nw p (hm1 p (by rw [q]; exact .head _))
          exact ⟨y.1, hide_none y.2.2 (far2 p (by rw [q]; exact .head _))⟩
        rcases List.mem_cons.mp hp with q | hp
        · have y := Nw p (hm1 p (by rw [q]; exact .tail _ (.head _)))
          exact ⟨y.1, hide_none y.2.2 (far2 p (by rw [q]; exact .tail _ (.head _)))⟩
        rcases List.mem_cons.mp hp with q | hp
        · have y := Nw p (hm1 p (by rw [q]; exact .tail _ (.tail _ (.head _))))
          exact ⟨y.1, hide_none y.2.2 (far2 p (by rw [q]; exact .tail _ (.tail _ (.head _))))⟩
        rcases List.mem_cons.mp hp with q | hp
        · have y := Nw p (by rw [q]; exact .tail _ (.tail _ (.head _)))
          exact ⟨y.1, hide_none y.2.2 (by rw [q]; show @Ne Nat lor J; omega)⟩
        rcases List.mem_cons.mp hp with q | hp
        · have y := Nw p (by rw [q]; exact .tail _ (.head _))
          exact ⟨y.1, hide_none y.2.2 (by rw [q]; show @Ne Nat lcr J; omega)⟩
        · have y := Nw p (.tail _ (.tail _ (.tail _ (List.mem_append_right _ hp))))
          exact ⟨y.1, hide_none y.2.2 (hts p hp).1⟩
end
section
open PySem PySem.W PySem.Calls PyProof.Rows PyProof.V
set_option maxRecDepth 100000
theorem fr_but {h₀ h h' : Heap} {L J : Addr} {o : Obj} {m : Str → Option Value} {news : List (Addr × Obj)} (F : Fr h₀ L h m) (N : News h₀ L h news) (hm : (J, o) ∈ news) (k : ∀ b o, h.get? b = some o → b ≠ J → h'.get? b = some o) : Fr h₀ L h' m :=
  (news_but2 F N hm hm (fun b o e n _ => k b o e n)).1
theorem none_L {h₀ h : Heap} {L : Addr} {m : Str → Option Value} (F : Fr h₀ L h m) : h₀.get? L = none := by
  cases q : h₀.get? L with
  | none => rfl
  | some o => exact absurd (Nat.lt_of_lt_of_le (Heap.lt_size q) F.above) (Nat.lt_irrefl _)
theorem base_of {h₀ h : Heap} {L : Addr} {m : Str → Option Value} (F : Fr h₀ L h m) : ∀ b o, h₀.get? b = some o → (hideAll h [L]).get? b = some o := fun b o e =>
  hideAll_get _ (F.keep b o e) fun q => by rw [List.mem_singleton.mp q, none_L F] at e; cases e
theorem base_stays {h : Heap} {L : Addr} : (hideAll h [L]).StaysIn h := fun b o e => of_hideAll _ e
theorem base_frames {h₀ h : Heap} {L : Addr} {m : Str → Option Value} {env : Env} (F : Fr h₀ L h m) (hef : env.frame = some L) (hek : env.scope.kind ≠ .module) : h.FunFrames (hideAll h [L]) [env] :=
  .cons hek hef F.ns (hideAll_none _ (.head _)) trivial
theorem take_ne (ns : List Int) : 0 < (List.take 40 (ns ++ [0])).length ∧ (List.take 40 (ns ++ [0])).length ≤ 40 := by
  rw [List.length_take, List.length_append, List.length_singleton]
  omega
theorem caller_ar {h : Heap} : Ar 10 callerA h := ⟨.inl rfl, by decide +kernel, by decide +kernel⟩
end
section
open PySem PySem.W PySem.Calls PyProof.Rows PyProof.V
set_option maxRecDepth 100000
theorem Mk.sub {b : Heap} {ts ts' : List (Addr × Obj)} {v : Value} {d : PyData} (H : Mk b ts v d) (k : ∀ p ∈ ts, p ∈ ts') : Mk b ts' v d := fun h k1 k2 => H h k1 fun p hp => k2 p (k p hp)
theorem MkAll.sub {b : Heap} {ts ts' : List (Addr × Obj)} {v : List Value} {d : List PyData} (H : MkAll b ts v d) (k : ∀ p ∈ ts, p ∈ ts') : MkAll b ts' v d := fun h k1 k2 => H h k1 fun p hp => k2 p (k p hp)
abbrev NLd (y dx li lo lc : Addr) (z1 z2 z3 z4 z5 : Int) (u1 u2 u3 u4 u5 : Tok) (nm : Value) (n0 : Nat) (ct : Value) (pi : List Value) (ki : Nat) (po : List Value) (ko : Nat) (pc : List Value) (kc : Nat) (R : List (Addr × Obj)) : List (Addr × Obj) :=
  (y, instObj 127 dx) :: (dx, dictOf (netD z1 z2 z3 z4 z5 u1 u2 u3 u4 u5 nm ct li lo lc) n0) :: (li, listOf (List.toArray pi) ki) :: (lo, listOf (List.toArray po) ko) :: (lc, listOf (List.toArray pc) kc) :: R
def OffN (R : List (Addr × Obj)) (y dx li lo lc : Addr) : Prop := ∀ p ∈ R, @Ne Nat p.1 y ∧ @Ne Nat p.1 dx ∧ @Ne Nat p.1 li ∧ @Ne Nat p.1 lo ∧ @Ne Nat p.1 lc
def InLed (R : List (Addr × Obj)) (l : Addr) (us : List Value) : Prop := (∃ n, (l, listOf us.toArray n) ∈ R) ∨ (l, tupObj us) ∈ R
def NFar (y dx li lo lc : Addr) : Prop := @LT.lt Nat _ dx y ∧ @LT.lt Nat _ y li ∧ @LT.lt Nat _ li lo ∧ @LT.lt Nat _ lo lc
section
variable {w : World} {mg mb : Str → Option Value} {A : Around} {E : Value → Shared → Prop} {Q : Value → Shared → Prop} {s : Shared} {b₀ h₀ : Heap} {L y dx li lo lc l : Addr} {m : Str → Option Value} {g : Addr × Obj} {R : List (Addr × Obj)}
  {z1 z2 z3 z4 z5 : Int} {u1 u2 u3 u4 u5 tc : Tok} {nm : Value} {n0 ki ko kc : Nat} {ct : Int} {pi po pc us args : List Value} {ins outs : List (Str × List Int)} {cells : List Cel} {kd : Str} {kt : Tok} {pv : Value} {pd : PyData} {ns : List Int}
theorem cell_led (HA : Ar 2 A h₀) (D : Gd w mg mb h₀) (F : Fr h₀ L s.heap m) (N : News h₀ L s.heap (NLd y dx li lo lc z1 z2 z3 z4 z5 u1 u2 u3 u4 u5 nm n0 (.int ct tc) pi ki po ko pc kc (g :: R))) (far : NFar y dx li lo lc) (off : OffN (g :: R) y dx li lo lc)
    (hc : 0 ≤ ct ∧ ct < 900) (hi : InLed (g :: R) l us) (hu : IntsAre us ns) (hz : us.length ≤ 100) (hcz : pc.length ≤ 1000) (hargs : args = [.ref y, .str kd kt, .ref l, pv] ∨ (args = [.ref y, .str kd kt, .ref l] ∧ pv = .none)) (hp : Mk b₀ (g :: R) pv pd)
    (mi : MkAll b₀ (g :: R) pi (ins.map encPort)) (mo : MkAll b₀ (g :: R) po (outs.map encPort)) (mc : MkAll b₀ (g :: R) pc (cells.map encCel))
    (h : ∀ u u' v kc' ts h' tk, Fr h₀ L h' m → News h₀ L h' (NLd y dx li lo lc z1 z2 z3 z4 z5 u1 u2 u3 u4 u5 nm n0 (.int (ct + 1) u') pi ki po ko (pc ++ [v]) kc' (g :: (ts ++ R))) → OffN (g :: (ts ++ R)) y dx li lo lc →
      MkAll b₀ (g :: (ts ++ R)) pi (ins.map encPort) → MkAll b₀ (g :: (ts ++ R)) po (outs.map encPort) → MkAll b₀ (g :: (ts ++ R)) (pc ++ [v]) ((cells ++ [Cel.mk kd ct ns pd]).map encCel) → Q (.int ct u) { s with heap := h', toks := tk }) :
    wpAny (model PR w) A (call (.ref 102) args) Q E s := by
  obtain ⟨f1, f2, f3, f4⟩ := far
  have nyd : @Ne Nat y dx := by omega
  have nyc : @Ne Nat y lc := by omega
  have ndc : @Ne Nat dx lc := by omega
  have kk := hide_leds (as := [y, dx, lc]) F N (by
    intro b hb
    simp only [List.mem_cons, List.not_mem_nil, or_false] at hb
    rcases hb with rfl | rfl | rfl
    · exact ⟨_, .head _⟩
    · exact ⟨_, .tail _ (.head _)⟩
    · exact ⟨_, .tail _ (.tail _ (.tail _ (.tail _ (.head _))))⟩)
  have hin : ∀ p ∈ g :: R, p ∈ NLd y dx li lo lc z1 z2 z3 z4 z5 u1 u2 u3 u4 u5 nm n0 (.int ct tc) pi ki po ko pc kc (g :: R) := fun p hp => .tail _ (.tail _ (.tail _ (.tail _ (.tail _ hp))))
  have hget : ∀ p ∈ g :: R, (hideAll s.heap [y, dx, lc]).get? p.1 = some p.2 := fun p hp => hideAll_get _ (N p (hin p hp)).1 fun q => by
    obtain ⟨a1, a2, a3, a4, a5⟩ := off p hp
    simp only [List.mem_cons, List.not_mem_nil, or_false] at q
    rcases q with q | q | q
    · exact a1 q
    · exact a2 q
    · exact a5 q
  obtain ⟨tsx, hia, hsub⟩ : ∃ tsx, InsAt (hideAll s.heap [y, dx, lc]) l us tsx ∧ ∀ p ∈ tsx, p ∈ g :: R := by
    rcases hi with ⟨n, hi⟩ | hi
    · exact ⟨[], .inl ⟨⟨_, hget _ hi, rfl, _, rfl⟩, rfl⟩, fun p hp => nomatch hp⟩
    · exact ⟨[(l, tupObj us)], .inr ⟨hget _ hi, rfl⟩, fun p hp => by rw [List.mem_singleton.mp hp]; exact hi⟩
  refine wpAny_call (codeAny_mono (addcell_code (b₀ := b₀) (ts₀ := g :: R) (HA.keeps kk) (D.keeps kk) (N _ (.head _)).1 nyd nyc ndc (N _ (.tail _ (.head _))).1 (N _ (.tail _ (.tail _ (.tail _ (.tail _ (.head _)))))).1 hc hia hu hz hcz hargs hp) ?_)
  rintro _ _ ⟨u, u', v, kc', ts, h', tk, rfl, rfl, k, ed, ec, ht, mk⟩
  obtain ⟨F', o'⟩ := news_but2 F N (D1 := dx) (D2 := lc) (.tail _ (.head _)) (.tail _ (.tail _ (.tail _ (.tail _ (.head _))))) k
  have frt : ∀ {b : Addr} {o : Obj}, (b, o) ∈ NLd y dx li lo lc z1 z2 z3 z4 z5 u1 u2 u3 u4 u5 nm n0 (.int ct tc) pi ki po ko pc kc (g :: R) → ∀ p ∈ ts, @Ne Nat p.1 b := fun e p hp q => by have := (ht p hp).2; rw [show p.1 = _ from q, (N _ e).1] at this; cases this
  have sub2 : ∀ p ∈ ts ++ (tsx ++ (g :: R)), p ∈ g :: (ts ++ R) := by
    intro p hp
    rcases List.mem_append.mp hp with hp | hp
    · exact .tail _ (List.mem_append_left _ hp)
    · have : p ∈ g :: R := (List.mem_append.mp hp).elim (hsub p) id
      rcases List.mem_cons.mp this with rfl | hp
      · exact .head _
      · exact .tail _ (List.mem_append_right _ hp)
  have sub1 : ∀ p ∈ g :: R, p ∈ g :: (ts ++ R) := fun p hp => sub2 p (List.mem_append_right _ (List.mem_append_right _ hp))
  refine h u u' v kc' ts h' tk F' ?_ ?_ (mi.sub sub1) (mo.sub sub1) (by rw [List.map_append]; exact (mc.sub sub1).snoc_same (mk.sub sub2))
  · refine News.cons (o' y _ (.head _) nyd nyc) (News.cons (b := dx) ⟨ed, (N _ (.tail _ (.head _))).2⟩ (News.cons (o' li _ (.tail _ (.tail _ (.head _))) (by omega) (by omega)) (News.cons (o' lo _ (.tail _ (.tail _ (.tail _ (.head _)))) (by omega) (by omega)) (News.cons (b := lc) ⟨ec, (N _ (.tail _ (.tail _ (.tail _ (.tail _ (.head _)))))).2⟩ ?_))))
    have NR : News h₀ L h' (g :: R) := fun p hp => o' p.1 p.2 (hin p hp) (off p hp).2.1 (off p hp).2.2.2.2
    refine News.cons (NR g (.head _)) (News.add F (fun p hp => NR p (.tail _ hp)) ht)
  · intro p hp
    rcases List.mem_cons.mp hp with rfl | hp
    · exact off _ (.head _)
    · rcases List.mem_append.mp hp with hp | hp
      · exact ⟨frt (.head _) p hp, frt (.tail _ (.head _)) p hp, frt (.tail _ (.tail _ (.head _))) p hp, frt (.tail _ (.tail _ (.tail _ (.head _)))) p hp, frt (.tail _ (.tail _ (.tail _ (.tail _ (.head _))))) p hp⟩
      · exact off _ (.tail _ hp)
theorem out_led (HA : Ar 1 A h₀) (D : Gd w mg mb h₀) (F : Fr h₀ L s.heap m) (N : News h₀ L s.heap (NLd y dx li lo lc z1 z2 z3 z4 z5 u1 u2 u3 u4 u5 nm n0 (.int ct tc) pi ki po ko pc kc (g :: R))) (far : NFar y dx li lo lc) (off : OffN (g :: R) y dx li lo lc)
    (hi : ∃ n, (l, listOf us.toArray n) ∈ g :: R) (hu : IntsAre us ns) (hz : us.length ≤ 100) (hcz : po.length ≤ 1000)
    (mi : MkAll b₀ (g :: R) pi (ins.map encPort)) (mo : MkAll b₀ (g :: R) po (outs.map encPort)) (mc : MkAll b₀ (g :: R) pc (cells.map encCel))
    (h : ∀ v ko' ts h' tk, Fr h₀ L h' m → News h₀ L h' (NLd y dx li lo lc z1 z2 z3 z4 z5 u1 u2 u3 u4 u5 nm n0 (.int ct tc) pi ki (po ++ [v]) ko' pc kc (g :: (ts ++ R))) →
      MkAll b₀ (g :: (ts ++ R)) pi (ins.map encPort) → MkAll b₀ (g :: (ts ++ R)) (po ++ [v]) ((outs ++ [(kd, ns)]).map encPort) → MkAll b₀ (g :: (ts ++ R)) pc (cells.map encCel) → Q .none { s with heap := h', toks := tk }) :
    wpAny (model PR w) A (call (.ref 94) [.ref y, .str kd kt, .ref l]) Q E s := by
  obtain ⟨f1, f2, f3, f4⟩ := far
  have kk := hide_led (D := lo) F N (.tail _ (.tail _ (.tail _ (.head _))))
  have hin : ∀ p ∈ g :: R, p ∈ NLd y dx li lo lc z1 z2 z3 z4 z5 u1 u2 u3 u4 u5 nm n0 (.int ct tc) pi ki po ko pc kc (g :: R) := fun p hp => .tail _ (.tail _ (.tail _ (.tail _ (.tail _ hp))))
  obtain ⟨n, hi⟩ := hi
  refine wpAny_call (codeAny_mono (addout_code (lo := lo) (HA.keeps kk) (D.keeps kk) ⟨led_hide N (.head _) (show @Ne Nat y lo by omega), rfl, rfl, led_hide N (.tail _ (.head _)) (show @Ne Nat dx lo by omega)⟩ (N _ (.tail _ (.tail _ (.tail _ (.head _))))).1 ⟨_, led_hide N (hin _ hi) (off _ hi).2.2.2.1, rfl, _, rfl⟩ hu hz hcz b₀) ?_)
  rintro _ _ ⟨v, h', tk, ko', ts, rfl, rfl, k, e, ht, mk⟩
  rw [List.append_nil] at mk
  obtain ⟨F', o'⟩ := news_but2 F N (D1 := lo) (D2 := lo) (.tail _ (.tail _ (.tail _ (.head _)))) (.tail _ (.tail _ (.tail _ (.head _)))) fun b o e n _ => k b o e n
  have sub2 : ∀ p ∈ ts, p ∈ g :: (ts ++ R) := fun p hp => .tail _ (List.mem_append_left _ hp)
  have sub1 : ∀ p ∈ g :: R, p ∈ g :: (ts ++ R) := fun p hp => by
    rcases List.mem_cons.mp hp with rfl | hp
    · exact .head _
    · exact .tail _ (List.mem_append_right _ hp)
  refine h v ko' ts h' tk F' ?_ (mi.sub sub1) (by rw [List.map_append]; exact (mo.sub sub1).snoc_same (mk.sub sub2)) (mc.sub sub1)
  refine News.cons (o' y _ (.head _) (by omega) (by omega)) (News.cons (o' dx _ (.tail _ (.head _)) (by omega) (by omega)) (News.cons (o' li _ (.tail _ (.tail _ (.head _))) (by omega) (by omega)) (News.cons (b := lo) ⟨e, (N _ (.tail _ (.tail _ (.tail _ (.head _))))).2⟩ (News.cons (o' lc _ (.tail _ (.tail _ (.tail _ (.tail _ (.head _))))) (by omega) (by omega)) ?_))))
  have NR : News h₀ L h' (g :: R) := fun p hp => o' p.1 p.2 (hin p hp) (off p hp).2.2.2.1 (off p hp).2.2.2.1
  refine News.cons (NR g (.head _)) (News.add F (fun p hp => NR p (.tail _ hp)) ht)
theorem in_led {wd : Nat} {tw : Tok} (hh : A.handled = none) (HA : Ar 3 A h₀) (D : Gd w mg mb h₀) (F : Fr h₀ L s.heap m) (N : News h₀ L s.heap (NLd y dx li lo lc z1 z2 z3 z4 z5 u1 u2 u3 u4 u5 nm n0 (.int ct tc) [] ki [] ko [] kc [])) (far : NFar y dx li lo lc)
    (hc : 0 ≤ ct ∧ ct < 900) (hw : wd ≤ 20)
    (h : ∀ gl ys gn u v ki' ts h' tk, Fr h₀ L h' m → News h₀ L h' (NLd y dx li lo lc z1 z2 z3 z4 z5 u1 u2 u3 u4 u5 nm n0 (.int (ct + (wd : Int)) u) [v] ki' [] ko [] kc ((gl, listOf (List.toArray ys) gn) :: ts)) → OffN ((gl, listOf (List.toArray ys) gn) :: ts) y dx li lo lc →
      IntsAre ys ((List.range wd).map fun i : Nat => ct + (i : Int)) → MkAll b₀ ((gl, listOf (List.toArray ys) gn) :: ts) [v] [encPort (kd, (List.range wd).map fun i : Nat => ct + (i : Int))] → Q (.ref gl) { s with heap := h', toks := tk }) :
    wpAny (model PR w) A (call (.ref 87) [.ref y, .str kd kt, .int (wd : Int) tw]) Q E s := by
  obtain ⟨f1, f2, f3, f4⟩ := far
  have kk := hide_leds (as := [y, dx, li]) F N (by
    intro b hb
    simp only [List.mem_cons, List.not_mem_nil, or_false] at hb
    rcases hb with rfl | rfl | rfl
    · exact ⟨_, .head _⟩
    · exact ⟨_, .tail _ (.head _)⟩
    · exact ⟨_, .tail _ (.tail _ (.head _))⟩)
  refine wpAny_call (codeAny_mono (addin_code (pi := []) hh (HA.keeps kk) (D.keeps kk) (N _ (.head _)).1 (show @Ne Nat y dx by omega) (show @Ne Nat y li by omega) (show @Ne Nat dx li by omega) (N _ (.tail _ (.head _))).1 (N _ (.tail _ (.tail _ (.head _)))).1 hc hw (by decide) b₀) ?_)
  rintro _ _ ⟨gl, gn, ys, u, v, ki', ts, h', tk, rfl, rfl, k, ed, el, ng, eg, hys, ht, mk⟩
  obtain ⟨F', o'⟩ := news_but2 F N (D1 := dx) (D2 := li) (.tail _ (.head _)) (.tail _ (.tail _ (.head _))) k
  have ht' : ∀ p ∈ (gl, listOf (List.toArray ys) gn) :: ts, h'.get? p.1 = some p.2 ∧ s.heap.get? p.1 = none := List.forall_mem_cons.mpr ⟨⟨eg, ng⟩, fun p hp => ⟨(ht p hp).1, (ht p hp).2.1⟩⟩
  have frt : ∀ {b : Addr} {o : Obj}, (b, o) ∈ NLd y dx li lo lc z1 z2 z3 z4 z5 u1 u2 u3 u4 u5 nm n0 (.int ct tc) [] ki [] ko [] kc [] → ∀ p ∈ (gl, listOf (List.toArray ys) gn) :: ts, @Ne Nat p.1 b := fun e p hp q => by have := (ht' p hp).2; rw [show p.1 = _ from q, (N _ e).1] at this; cases this
  refine h gl ys gn u v ki' ts h' tk F' ?_ (fun p hp => ⟨frt (.head _) p hp, frt (.tail _ (.head _)) p hp, frt (.tail _ (.tail _ (.head _))) p hp, frt (.tail _ (.tail _ (.tail _ (.head _)))) p hp, frt (.tail _ (.tail _ (.tail _ (.tail _ (.head _))))) p hp⟩) hys ((MkAll.nil b₀ _).snoc_same (mk.sub fun p hp => .tail _ hp))
  refine News.cons (o' y _ (.head _) (by omega) (by omega)) (News.cons (b := dx) ⟨ed, (N _ (.tail _ (.head _))).2⟩ (News.cons (b := li) ⟨el, (N _ (.tail _ (.tail _ (.head _)))).2⟩ (News.cons (o' lo _ (.tail _ (.tail _ (.tail _ (.head _)))) (by omega) (by omega)) (News.cons (o' lc _ (.tail _ (.tail _ (.tail _ (.tail _ (.head _))))) (by omega) (by omega)) ?_))))
  have := News.add F (ts := (gl, listOf (List.toArray ys) gn) :: ts) (PyProof.Rows.News.nil (h₀ := h₀) (L := L) (h := h')) ht'
  rwa [List.append_nil] at this
end
end
section
open PySem PySem.W PySem.Calls PyProof.Rows PyProof.V
set_option maxRecDepth 100000
abbrev cAnd : Cel := Cel.mk (Str.ofString "and") 4 [2, 3] .none
abbrev cOr : Cel := Cel.mk (Str.ofString "or") 5 [2, 3] .none
abbrev cFlop : Cel := Cel.mk (Str.ofString "flop") 6 [2, 4, 0, 0] (.tuple [.int 1, .str (Str.ofString "s"), .int 0])
def smallN : Nl := ⟨Str.ofString "s", 7, [(Str.ofString "a", [2, 3])], [(Str.ofString "y", [6])], [cAnd, cOr, cFlop]⟩
theorem small_cells {P : Cel → Prop} (h0 : P cAnd) (h1 : P cOr) (h2 : P cFlop) : ∀ c ∈ smallN.cells, P c := by
  intro c hc
  rcases List.mem_cons.mp hc with rfl | hc
  · exact h0
  rcases List.mem_cons.mp hc with rfl | hc
  · exact h1
  rw [List.mem_singleton.mp hc]; exact h2
theorem small_ok : smallN.Ok where
  nin := Nat.le_of_ble_eq_true rfl
  nout := Nat.le_of_ble_eq_true rfl
  ncell := Nat.le_of_ble_eq_true rfl
  pin := fun p hp => by rw [List.mem_singleton.mp hp]; exact Nat.le_of_ble_eq_true rfl
  pout := fun p hp => by rw [List.mem_singleton.mp hp]; exact Nat.le_of_ble_eq_true rfl
  cin := small_cells (Nat.le_of_ble_eq_true rfl) (Nat.le_of_ble_eq_true rfl) (Nat.le_of_ble_eq_true rfl)
  big := small_cells (by decide) (by decide) (by decide)
  nod := by show [(0 : Int), 1, 2, 3].Nodup; decide
  bigP := by
    show ∀ x ∈ [(2 : Int), 3], 0 ≤ x ∧ x < 1000
    decide
theorem small_fit : smallN.Fit where
  inS := fun p hp => by rw [List.mem_singleton.mp hp]; show (PyData.str (Str.ofString "a")).canLay0 = true; decide +kernel
  outS := fun p hp => by rw [List.mem_singleton.mp hp]; show (PyData.str (Str.ofString "y")).canLay0 = true; decide +kernel
  celS := small_cells ⟨by decide +kernel, by decide +kernel, by decide +kernel⟩ ⟨by decide +kernel, by decide +kernel, by decide +kernel⟩ ⟨by decide +kernel, by decide +kernel, by decide +kernel⟩
theorem small_at {k : Nat} {c : Cel} (h : smallN.cells[k]? = some c) : (k = 0 ∧ c = cAnd) ∨ (k = 1 ∧ c = cOr) ∨ (k = 2 ∧ c = cFlop) := by
  match k, h with
  | 0, h => exact .inl ⟨rfl, (Option.some.inj h).symm⟩
  | 1, h => exact .inr (.inl ⟨rfl, (Option.some.inj h).symm⟩)
  | 2, h => exact .inr (.inr ⟨rfl, (Option.some.inj h).symm⟩)
  | k + 3, h => cases h
theorem small_reach {k : Nat} (h : Reach smallN k) : k = 0 ∨ k = 2 := by
  induction h with
  | @out x k c hx hc e =>
    have hx : x = 6 := List.mem_singleton.mp hx
    rcases small_at hc with ⟨rfl, rfl⟩ | ⟨rfl, rfl⟩ | ⟨rfl, rfl⟩
    · exact .inl rfl
    · rw [hx] at e; exact absurd e (by decide)
    · exact .inr rfl
  | @step j k d c x hj hd hx hc e ih =>
    rcases small_at hc with ⟨rfl, rfl⟩ | ⟨rfl, rfl⟩ | ⟨rfl, rfl⟩
    · exact .inl rfl
    · rw [← e] at hx
      rcases small_at hd with ⟨rfl, rfl⟩ | ⟨rfl, rfl⟩ | ⟨rfl, rfl⟩
      · exact absurd hx (by decide)
      · exact absurd hx (by decide)
      · exact absurd hx (by decide)
    · exact .inr rfl
theorem small_r2 : Reach smallN 2 := .out (x := 6) (c := cFlop) (List.mem_singleton.mpr rfl) rfl rfl
theorem small_r0 : Reach smallN 0 := .step (j := 2) (d := cFlop) (x := 4) (c := cAnd) small_r2 rfl (by decide) rfl rfl
theorem small_told : Told smallN [0, 2] := by
  refine ⟨by decide, fun x => ⟨fun h => ?_, ?_⟩⟩
  · rcases List.mem_cons.mp h with rfl | h
    · exact ⟨0, rfl, small_r0⟩
    · rw [List.mem_singleton.mp h]; exact ⟨2, rfl, small_r2⟩
  · rintro ⟨k, rfl, hr⟩
    rcases small_reach hr with rfl | rfl
    · decide
    · decide
theorem small_dup : dupOf smallN = none := by decide +kernel
end
section
open PySem PySem.W PySem.Calls PyProof.Rows PyProof.V
set_option maxRecDepth 100000
example : ∀ w : World, ∀ h, (hd.heap_39 w.params).In h → PySem.Challenge.rw_on0094_01.Holds → True := by k_fill; intros; trivial
local macro_rules | `(tactic| walk_at "call builtin:sorted") => `(tactic| refine Hold.of ?_)
local macro_rules | `(tactic| walk_at "compareOp Eq ref ref") => `(tactic| refine Hold.of ?_)
local macro_rules | `(tactic| k_allIn) => `(tactic| first | exact List.forall_mem_nil _ | (refine' List.forall_mem_cons.mpr ⟨?ka, ?kb⟩; (case ka => k_mem); (case kb => k_allIn)) | (intro p hp; repeat (first | exact hp | refine List.Mem.tail _ ?_)))
local macro_rules | `(tactic| k_inst) => `(tactic| exact InstAt.of_news (by assumption) (by k_mem) (by k_mem))
inductive LawA (h₀ : Heap) (L : Addr) (s : Shared) : Shared → Prop
  | mk (h : Heap) (tk : Nat) (m : Str → Option Value) (F : Fr h₀ L h m) : LawA h₀ L s { s with heap := h, toks := tk }
set_option maxHeartbeats 16000000 in
theorem law_holds : PySem.Challenge.rw_on0094_01.Holds := hd (by
  clear law_holds
  k_go0
  all_goals try k_fold
  with_reducible rename (hd.heap_39 _).In _ => KX
  with_reducible rename Top _ _ _ _ _ _ => T
  with_reducible rename IntsAre _ _ => hI
  with_reducible rename Below _ _ _ _ => K0
  with_reducible rename Fr _ _ _ _ => F
  with_reducible rename News _ _ _ _ => N
  with_reducible rename Heap.IsList _ _ _ => hL
  with_reducible rename World => w
  have D0 := Gd.mk KX (topRead_of T)
  with_reducible generalize hA : Around.deeper callerA _ = A
  have hh : A.handled = none := by rw [← hA]; rfl
  with_reducible rename Shared => s1
  have HA0 : Ar 9 A s1.heap := hA ▸ caller_ar.deeper
  obtain ⟨env, hfr, hef, hek⟩ : ∃ env : Env, A.frames = some [env] ∧ env.frame = some s1.heap.objs.size ∧ env.scope.kind ≠ .module := by rw [← hA]; exact ⟨_, rfl, rfl, fun q => by cases q⟩
  clear hA K0
  generalize s1.heap.objs.size = L at *
  with_reducible refine cut2 (LawA s1.heap L s1) ?la ?lb
  case la =>
    with_reducible show wpAny _ _ _ _ _ _
    k_fold
    repeat' (first | (k_unfold; (try dsimp only)) | walk1 | (dsimp only; walk1) | (leave1; (try dsimp only)))
    with_reducible rename Fr _ _ _ _ => F1
    with_reducible rename News _ _ _ _ => N1
    with_reducible rename IntsAre _ (List.take 40 _) => hI2
    have kk1 := hide_led F1 N1 (.head _)
    refine Hold.intro (wpAny_call (codeAny_mono (made_code s1.heap hh ((HA0.less 8 (by omega)).keeps kk1) (D0.keeps kk1) (N1 _ (.head _)).1 ⟨_, led_hide N1 (.tail _ (.head _)) (by k_ne), rfl, _, rfl⟩ hI2 (take_ne _)) ?_))
    rintro _ _ ⟨x, ts, h2, tk2, NL, rfl, rfl, k2, t2, mkn, OK, FIT⟩
    have F2 := fr_but F1 N1 (.head _) k2
    have N2 : News s1.heap L h2 ts := by
      have := News.add F1 (h' := h2) (ts := ts) PyProof.Rows.News.nil t2
      rwa [List.append_nil] at this
    clear F1 N1 kk1 hI2
    dsimp only
    repeat' (first | (k_unfold; (try dsimp only)) | walk1 | (dsimp only; walk1) | (leave1; (try dsimp only)))
    obtain ⟨oF, _, _, hoF, _⟩ := F2.ns
    have kb := base_of F2
    have NA : NetAt (hideAll h2 [L]) x NL := mkn _ kb (fun p hp => hideAll_get _ (N2 p hp).1 (fun q => (N2 p hp).2.1 (List.mem_singleton.mp q)))
    refine Hold.intro (wpAny_call (codeAny_mono (right_code hh ((HA0.less 8 (by omega)).keeps kb) (D0.keeps kb) NA OK FIT hfr hef base_stays (base_frames F2 hef hek) hoF (hideAll_none _ (.head _))) ?_))
    rintro _ _ ⟨h3, tk3, rfl, rfl, st3, u3⟩
    have F3 := F2.of_stays (fun b o e => st3 b o (kb b o e)) u3
    clear F2 N2 NA kb hoF mkn OK FIT t2 k2 u3 st3
    dsimp only
    repeat' (first | (k_unfold; (try dsimp only)) | walk1 | (dsimp only; walk1) | (leave1; (try dsimp only)))
    exact .mk _ _ _ F3
  case lb =>
    rintro _ ⟨h3, tk3, m3, F3⟩
    clear F N hI hL
    have N3 : News s1.heap L h3 [] := PyProof.Rows.News.nil
    with_reducible show wpAny _ _ _ _ _ _
    k_fold
    repeat' (first | (k_unfold; (try dsimp only)) | walk1 | (dsimp only; walk1) | (leave1; (try dsimp only)))
    refine Hold.intro (wpAny_call (codeAny_mono (new_code ((HA0.less 3 (by omega)).keeps F3.keep) (D0.keeps F3.keep)) ?_))
    rintro _ _ ⟨y, dx, li, lo, lc, h4, tk4, n0, n1, n2, n3, z1, z2, z3, z4, z5, u1, u2, u3, u4, u5, tc, rfl, rfl, k4, ⟨e0, e1, e2, e3, e4⟩, ey, edx, eli, elo, elc⟩
    have f0 : @LE.le Nat _ h3.objs.size dx := e0
    have far : NFar y dx li lo lc := ⟨ltN e1, ltN e2, ltN e3, ltN e4⟩
    obtain ⟨f1, f2, f3, f4⟩ := id far
    have F4 := F3.keeps k4
    have N4 : News s1.heap L h4 (NLd y dx li lo lc z1 z2 z3 z4 z5 u1 u2 u3 u4 u5 (.str (Str.ofString "s") tk3) n0 (.int 2 tc) [] n1 [] n2 [] n3 []) :=
      News.cons (new_at F3 (by omega) ey) (News.cons (new_at F3 (by omega) edx) (News.cons (new_at F3 (by omega) eli) (News.cons (new_at F3 (by omega) elo) (News.cons (new_at F3 (by omega) elc) PyProof.Rows.News.nil))))
    clear F3 N3 e0 e1 e2 e3 e4 ey edx eli elo elc k4
    dsimp only
    walk1
    repeat' (first | (k_unfold; (try dsimp only)) | walk1 | (dsimp only; walk1) | (leave1; (try dsimp only)))
    rename Fr _ _ _ _ => F5
    rename News _ _ _ _ => N5
    refine Hold.intro (in_led (b₀ := s1.heap) (wd := 2) hh (HA0.less 3 (by omega)) D0 F5 N5 far (by decide) (by decide) ?_)
    intro gl ys gn c1 v1 ki1 ts h5 tk5 F6 N6 off6 hys mi6
    clear F5 N5
    replace hys : IntsAre ys [2, 3] := hys
    replace mi6 : MkAll s1.heap ((gl, listOf (List.toArray ys) gn) :: ts) [v1] ([(Str.ofString "a", [2, 3])].map encPort) := mi6
    have hyl : ys.length = 2 := by rw [hys.length]; rfl
    replace N6 : News s1.heap L h5 (NLd y dx li lo lc z1 z2 z3 z4 z5 u1 u2 u3 u4 u5 (.str (Str.ofString "s") tk3) n0 (.int 4 c1) [v1] ki1 [] n2 [] n3 ((gl, listOf (List.toArray ys) gn) :: ts)) := N6
    dsimp only
    repeat' (first | (k_unfold; (try dsimp only)) | walk1 | (dsimp only; walk1) | (leave1; (try dsimp only)))
    rename Fr _ _ _ _ => F7
    rename News _ _ _ _ => N7
    refine Hold.intro (cell_led (b₀ := s1.heap) (cells := []) (outs := []) (ns := [2, 3]) (pd := .none) (pv := .none) (HA0.less 2 (by omega)) D0 F7 N7 far off6 (by decide) (.inl ⟨_, .head _⟩) hys (by omega) (Nat.le_of_ble_eq_true rfl) (.inr ⟨rfl, rfl⟩) mk_none mi6 (MkAll.nil _ _) (MkAll.nil _ _) ?_)
    intro c2 c2' v2 kc2 ts2 h6 tk6 F8 N8 off8 mi8 mo8 mc8
    clear F7 N7 off6 mi6
    simp only [List.nil_append, show (4 : Int) + 1 = 5 from rfl] at N8 mc8
    obtain ⟨R8, hR8⟩ : ∃ R, R = ts2 ++ ts := ⟨_, rfl⟩
    rw [← hR8] at N8 off8 mi8 mo8 mc8
    clear hR8
    dsimp only
    repeat' (first | (k_unfold; (try dsimp only)) | walk1 | (dsimp only; walk1) | (leave1; (try dsimp only)))
    rename Fr _ _ _ _ => F7
    rename News _ _ _ _ => N7
    refine Hold.intro (cell_led (b₀ := s1.heap) (cells := [Cel.mk (Str.ofString "and") 4 [2, 3] .none]) (outs := []) (ns := [2, 3]) (pd := .none) (pv := .none) (HA0.less 2 (by omega)) D0 F7 N7 far off8 (by decide) (.inl ⟨_, .head _⟩) hys (by omega) (Nat.le_of_ble_eq_true rfl) (.inr ⟨rfl, rfl⟩) mk_none mi8 mo8 mc8 ?_)
    intro c3 c3' v3 kc3 ts3 h7 tk7 F9 N9 off9 mi9 mo9 mc9
    clear F7 N7 off8 mi8 mo8 mc8
    simp only [List.cons_append, List.nil_append, show (5 : Int) + 1 = 6 from rfl] at N9 mc9
    obtain ⟨R9, hR9⟩ : ∃ R, R = ts3 ++ R8 := ⟨_, rfl⟩
    rw [← hR9] at N9 off9 mi9 mo9 mc9
    clear hR9
    dsimp only
    repeat' (first | (k_unfold; (try dsimp only)) | walk1 | (dsimp only; walk1) | (leave1; (try dsimp only)))
    rename Fr _ _ _ _ => F7
    rename News _ _ _ _ => N7
    rename_i tg D1 _ m1 D2 _ m2
    rw [show ([2, 3] : List Int).getD (Int.toNat 0) 0 = 2 from rfl] at N7
    have N7' : News s1.heap L _ (NLd y dx li lo lc z1 z2 z3 z4 z5 u1 u2 u3 u4 u5 (.str (Str.ofString "s") tk3) n0 (.int 6 c3') [v1] ki1 [] n2 [v2, v3] kc3 ((gl, listOf (List.toArray ys) gn) :: (D1, { cls := .type "tuple", data := .seq #[.int 2 tg, .int 4 c2, .int 0 (tk7 + 1 + 1), .int 0 (tk7 + 1 + 1 + 1)] }) :: (D2, { cls := .type "tuple", data := .seq #[.int 1 (tk7 + 1 + 1 + 1 + 1), .str (Str.ofString "s") (tk7 + 1 + 1 + 1 + 1 + 1), .int 0 (tk7 + 1 + 1 + 1 + 1 + 1 + 1)] }) :: R9)) := fun p hp => N7 p (by revert p; k_allIn)
    have sub9 : ∀ p ∈ (gl, listOf (List.toArray ys) gn) :: R9, p ∈ (gl, listOf (List.toArray ys) gn) :: (D1, ({ cls := .type "tuple", data := .seq #[.int 2 tg, .int 4 c2, .int 0 (tk7 + 1 + 1), .int 0 (tk7 + 1 + 1 + 1)] } : Obj)) :: (D2, { cls := .type "tuple", data := .seq #[.int 1 (tk7 + 1 + 1 + 1 + 1), .str (Str.ofString "s") (tk7 + 1 + 1 + 1 + 1 + 1), .int 0 (tk7 + 1 + 1 + 1 + 1 + 1 + 1)] }) :: R9 := by
      intro p hp
      rcases List.mem_cons.mp hp with rfl | hp
      · exact .head _
      · exact .tail _ (.tail _ (.tail _ hp))
    have off7 : OffN ((gl, listOf (List.toArray ys) gn) :: (D1, ({ cls := .type "tuple", data := .seq #[.int 2 tg, .int 4 c2, .int 0 (tk7 + 1 + 1), .int 0 (tk7 + 1 + 1 + 1)] } : Obj)) :: (D2, { cls := .type "tuple", data := .seq #[.int 1 (tk7 + 1 + 1 + 1 + 1), .str (Str.ofString "s") (tk7 + 1 + 1 + 1 + 1 + 1), .int 0 (tk7 + 1 + 1 + 1 + 1 + 1 + 1)] }) :: R9) y dx li lo lc := by
      obtain ⟨a1, a2, a3, a4, a5, -⟩ := m1
      obtain ⟨-, b1, b2, b3, b4, b5, -⟩ := m2
      intro p hp
      rcases List.mem_cons.mp hp with rfl | hp
      · exact off9 _ (.head _)
      rcases List.mem_cons.mp hp with rfl | hp
      · exact ⟨(Nat.ne_of_lt a1).symm, (Nat.ne_of_lt a2).symm, (Nat.ne_of_lt a3).symm, (Nat.ne_of_lt a4).symm, (Nat.ne_of_lt a5).symm⟩
      rcases List.mem_cons.mp hp with rfl | hp
      · exact ⟨(Nat.ne_of_lt b1).symm, (Nat.ne_of_lt b2).symm, (Nat.ne_of_lt b3).symm, (Nat.ne_of_lt b4).symm, (Nat.ne_of_lt b5).symm⟩
      · exact off9 _ (.tail _ hp)
    have hin : InLed ((gl, listOf (List.toArray ys) gn) :: (D1, ({ cls := .type "tuple", data := .seq #[.int 2 tg, .int 4 c2, .int 0 (tk7 + 1 + 1), .int 0 (tk7 + 1 + 1 + 1)] } : Obj)) :: (D2, { cls := .type "tuple", data := .seq #[.int 1 (tk7 + 1 + 1 + 1 + 1), .str (Str.ofString "s") (tk7 + 1 + 1 + 1 + 1 + 1), .int 0 (tk7 + 1 + 1 + 1 + 1 + 1 + 1)] }) :: R9) D1 [.int 2 tg, .int 4 c2, .int 0 (tk7 + 1 + 1), .int 0 (tk7 + 1 + 1 + 1)] := Or.inr (List.Mem.tail _ (List.Mem.head _))
    have mkp : Mk s1.heap [(D2, ({ cls := .type "tuple", data := .seq #[.int 1 (tk7 + 1 + 1 + 1 + 1), .str (Str.ofString "s") (tk7 + 1 + 1 + 1 + 1 + 1), .int 0 (tk7 + 1 + 1 + 1 + 1 + 1 + 1)] } : Obj))] (.ref D2) (.tuple [.int 1, .str (Str.ofString "s"), .int 0]) := mk_flop
    refine Hold.intro (cell_led (b₀ := s1.heap) (us := [.int 2 tg, .int 4 c2, .int 0 (tk7 + 1 + 1), .int 0 (tk7 + 1 + 1 + 1)]) (cells := [Cel.mk (Str.ofString "and") 4 [2, 3] .none, Cel.mk (Str.ofString "or") 5 [2, 3] .none]) (outs := []) (ns := [2, 4, 0, 0]) (pd := .tuple [.int 1, .str (Str.ofString "s"), .int 0]) (HA0.less 2 (by omega)) D0 F7 N7' far off7 (by decide) hin (.cons _ _ (.cons _ _ (.cons _ _ (.cons _ _ .nil)))) (Nat.le_of_ble_eq_true rfl) (Nat.le_of_ble_eq_true rfl) (.inl rfl) (mkp.sub (fun p hp => by rw [List.mem_singleton.mp hp]; exact .tail _ (.tail _ (.head _)))) (mi9.sub sub9) (mo9.sub sub9) (mc9.sub sub9) ?_)
    intro c4 c4' v4 kc4 ts4 h8 tk8 F10 N10 off10 mi10 mo10 mc10
    clear F7 N7 N7' off9 mi9 mo9 mc9 off7 sub9 m1 m2
    simp only [List.cons_append, List.nil_append, show (6 : Int) + 1 = 7 from rfl] at N10 mc10
    obtain ⟨R10, hR10⟩ : ∃ R, R = ts4 ++ ((D1, ({ cls := .type "tuple", data := .seq #[.int 2 tg, .int 4 c2, .int 0 (tk7 + 1 + 1), .int 0 (tk7 + 1 + 1 + 1)] } : Obj)) :: (D2, { cls := .type "tuple", data := .seq #[.int 1 (tk7 + 1 + 1 + 1 + 1), .str (Str.ofString "s") (tk7 + 1 + 1 + 1 + 1 + 1), .int 0 (tk7 + 1 + 1 + 1 + 1 + 1 + 1)] }) :: R9) := ⟨_, rfl⟩
    rw [← hR10] at N10 off10 mi10 mo10 mc10
    clear hR10
    dsimp only
    repeat' (first | (k_unfold; (try dsimp only)) | walk1 | (dsimp only; walk1) | (leave1; (try dsimp only)))
    rename Fr _ _ _ _ => F7
    rename News _ _ _ _ => N7
    rename_i l3 _ m1
    have N7' : News s1.heap L _ (NLd y dx li lo lc z1 z2 z3 z4 z5 u1 u2 u3 u4 u5 (.str (Str.ofString "s") tk3) n0 (.int 7 c4') [v1] ki1 [] n2 [v2, v3, v4] kc4 ((gl, listOf (List.toArray ys) gn) :: (l3, listOf #[.int 6 c4] 0) :: R10)) := fun p hp => N7 p (by revert p; k_allIn)
    have sub10 : ∀ p ∈ (gl, listOf (List.toArray ys) gn) :: R10, p ∈ (gl, listOf (List.toArray ys) gn) :: (l3, listOf #[.int 6 c4] 0) :: R10 := by
      intro p hp
      rcases List.mem_cons.mp hp with rfl | hp
      · exact .head _
      · exact .tail _ (.tail _ hp)
    have off7 : OffN ((gl, listOf (List.toArray ys) gn) :: (l3, listOf #[.int 6 c4] 0) :: R10) y dx li lo lc := by
      obtain ⟨a1, a2, a3, a4, a5, -⟩ := m1
      intro p hp
      rcases List.mem_cons.mp hp with rfl | hp
      · exact off10 _ (.head _)
      rcases List.mem_cons.mp hp with rfl | hp
      · exact ⟨(Nat.ne_of_lt a1).symm, (Nat.ne_of_lt a2).symm, (Nat.ne_of_lt a3).symm, (Nat.ne_of_lt a4).symm, (Nat.ne_of_lt a5).symm⟩
      · exact off10 _ (.tail _ hp)
    have hin : ∃ n, (l3, listOf (List.toArray [.int 6 c4]) n) ∈ (gl, listOf (List.toArray ys) gn) :: (l3, listOf #[.int 6 c4] 0) :: R10 := ⟨0, List.Mem.tail _ (List.Mem.head _)⟩
    refine Hold.intro (out_led (b₀ := s1.heap) (cells := [cAnd, cOr, cFlop]) (outs := []) (ns := [6]) (HA0.less 1 (by omega)) D0 F7 N7' far off7 hin (.cons _ _ .nil) (Nat.le_of_ble_eq_true rfl) (Nat.le_of_ble_eq_true rfl) (mi10.sub sub10) (mo10.sub sub10) (mc10.sub sub10) ?_)
    intro v5 ko5 ts5 h9 tk9 F11 N11 mi11 mo11 mc11
    clear F7 N7 N7' off10 mi10 mo10 mc10 off7 sub10 m1 hin
    simp only [List.nil_append] at N11 mo11
    have mkn := mknet_of (x := y) (dxr := dx) (lir := li) (lor := lo) (lcr := lc) (n0 := n0) (kp := ki1) (ko := ko5) (kc := kc4) (z1 := z1) (z2 := z2) (z3 := z3) (z4 := z4) (z5 := z5) (u1 := u1) (u2 := u2) (u3 := u3) (u4 := u4) (u5 := u5) (tn := tk3) (tq := c4') (nm := Str.ofString "s") (ct := 7) mi11 mo11 mc11
    replace mkn : MkNet s1.heap _ y smallN := mkn
    dsimp only
    repeat' (first | (k_unfold; (try dsimp only)) | walk1 | (dsimp only; walk1) | (leave1; (try dsimp only)))
    obtain ⟨oF, _, _, hoF, _⟩ := F11.ns
    have kb := base_of F11
    have NA : NetAt (hideAll h9 [L]) y smallN := mkn _ kb (fun p hp => hideAll_get _ (N11 p hp).1 (fun q => (N11 p hp).2.1 (List.mem_singleton.mp q)))
    refine Hold.intro (wpAny_call (codeAny_mono (right_code hh ((HA0.less 8 (by omega)).keeps kb) (D0.keeps kb) NA small_ok small_fit hfr hef base_stays (base_frames F11 hef hek) hoF (hideAll_none _ (.head _))) ?_))
    rintro _ _ ⟨h10, tk10, rfl, rfl, st, u6⟩
    have F12 := F11.of_stays (fun b o e => st b o (kb b o e)) u6
    have N12 : News s1.heap L h10 [] := PyProof.Rows.News.nil
    replace NA : NetAt h10 y smallN := NA.keeps st
    clear F11 N11 kb hoF mkn mi11 mo11 mc11 st u6
    dsimp only
    repeat' (first | (k_unfold; (try dsimp only)) | walk1 | (dsimp only; walk1) | (leave1; (try dsimp only)))
    refine Hold.intro (wpAny_call (codeAny_mono (used_code (base := hideAll h10 [L]) hh ((HA0.less 5 (by omega)).keeps F12.keep) (D0.keeps F12.keep) NA small_ok hfr base_stays (base_frames F12 hef hek)) ?_))
    rintro _ _ (⟨hdup, dU, h11, tk11, rfl, rfl, k11, nD, oU, kvU, DU, K, hDD, loU, isU, fU, hLU, hlU, hKr⟩ | ⟨x, e, h11, tk11, hdup, rfl, rfl, FL⟩)
    · have F13 := F12.keeps k11
      have N13 : News s1.heap L h11 [(dU, oU)] := News.cons (b := dU) (o := oU) ⟨hDD, (fun q => by
        obtain ⟨o, _, _, ho, _⟩ := F12.ns
        change h10.get? dU = none at nD
        rw [q, ho] at nD
        cases nD), fresh_pre F12.keep nD⟩ PyProof.Rows.News.nil
      clear hDD F12 N12 k11
      dsimp only
      repeat' (first | (k_unfold; (try dsimp only)) | walk1 | (dsimp only; walk1) | (leave1; (try dsimp only)))
      refine Hold.intro (sorted_dict hh F13 N13 (.head _) loU isU (by have := fU.length; omega) fun lT h12 tk12 vs ns eT F14 N14 l2 hvs hperm hsrt => ?_)
      have hTold : Told smallN ns := Told.of (dict_len isU) hperm hsrt fun x => (mem_keys fU x).trans ((hLU x).trans (hKr x))
      obtain rfl : ns = [0, 2] := hTold.unique small_told
      clear F13 N13 hperm hsrt hTold
      dsimp only
      repeat' (first | (k_unfold; (try dsimp only)) | walk1 | (dsimp only; walk1) | (leave1; (try dsimp only)))
      rename Fr _ _ _ _ => F15
      rename News _ _ _ _ => N15
      refine Hold.intro (eq_same (rd_ints (N15 _ (.tail _ (.head _))).1 hvs) (rd_ints (vs := [.int 0 _, .int 2 _]) (N15 _ (.head _)).1 (.cons _ _ (.cons _ _ .nil))) (shaped_ints _) (by have := HA0.hu; omega) ?_)
      repeat' (first | (k_unfold; (try dsimp only)) | walk1 | (dsimp only; walk1) | (leave1; (try dsimp only)))
      kc_close
    · rw [small_dup] at hdup
      cases hdup
  )
end
end
end Mine
open PySem PySem.W PyProof.Rows
theorem PySem.Challenge.cw_on0094_01_holds : PySem.Challenge.rw_on0094_01.Holds := by
  exact Mine.law_holds
