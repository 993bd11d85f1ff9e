import PyProof.Rows.All
import Wide.All
import OpenK.AllK
import Wide.FinOn
import PySem.Challenge.RW_xw0303_01
set_option Elab.async false
set_option maxRecDepth 100000
set_option maxHeartbeats 8000000
section
open PySem PySem.W PyProof.Rows
namespace Mine
/-- the top's run over a tree of objects -/
def topRunT (tb : String → Option Builtin) (p : Program) (w : World) (n₀ : Nat) (ann : Option Value) : Nat → SharedT → Thread → Option SharedT
  | 0, _, _ => none
  | n + 1, s, t => match through t with
    | true => some s
    | false => match stepOk n₀ ann t with
      | false => none
      | true => match stepT (denote tb) p w s t with
        | some (s', t') => topRunT tb p w n₀ ann n s' t'
        | none => none
theorem topRun_of {tb : String → Option Builtin} {p : Program} {w : World} {n₀ : Nat} {ann : Option Value} : ∀ {n : Nat} {s s' : SharedT} {t : Thread}, topRunT tb p w n₀ ann n s t = some s' → topRun tb p w n₀ ann n s.abs t = some s'.abs
  | 0, _, _, _, h => by cases h
  | n + 1, s, s', t, h => by
    unfold topRunT at h
    unfold topRun
    cases he : through t with
    | true => rw [he] at h; cases h; rfl
    | false =>
      rw [he] at h
      cases hk : stepOk n₀ ann t with
      | false => rw [hk] at h; cases h
      | true =>
        rw [hk] at h
        cases hs : stepT (denote tb) p w s t with
        | none => rw [hs] at h; cases h
        | some r => obtain ⟨s₂, t₂⟩ := r; rw [hs] at h; rw [stepT_spec hs]; exact topRun_of h
def treeOf (l : List Obj) : BT := (l.foldl (fun (x : BT × Nat) o => (x.1.ins x.2 o, x.2 + 1)) (.nil, 0)).1
noncomputable def T0 (P : Params) (os : OsState) : SharedT := ⟨treeOf (boot_heap P).objs.toList, (boot_heap P).objs.size, (boot_heap P).life, Array.mk [], boot_drawn, boot_toks, os⟩
theorem T0_abs : ∀ (P : Params) (os : OsState), (T0 P os).abs = ⟨boot_heap P, Array.mk [], boot_drawn, boot_toks, os⟩ := fun P os => by kernel_rfl
/-- the same over the library's quick twins -/
noncomputable def topRunQ (p : Program) (w : World) (n₀ : Nat) (ann : Option Value) : Nat → SharedT → Thread → Option SharedT
  | 0, _, _ => none
  | n + 1, s, t => match through t with
    | true => some s
    | false => match Fast.tw6613529449190102663 n₀ ann t with
      | false => none
      | true => match Fast.tw10156331382660048174 (Fast.tw11892475500146522536 Fast.tw14364793385576792824) p w s t with
        | some (s', t') => topRunQ p w n₀ ann n s' t'
        | none => none
theorem topRunQ_eq {p : Program} {w : World} {n₀ : Nat} {ann : Option Value} : ∀ (n : Nat) (s : SharedT) (t : Thread), topRunQ p w n₀ ann n s t = topRunT treeTable p w n₀ ann n s t
  | 0, _, _ => rfl
  | n + 1, s, t => by
    unfold topRunQ topRunT
    rw [← Fast.te6613529449190102663, ← Fast.te10156331382660048174, ← Fast.te11892475500146522536, ← Fast.te14364793385576792824]
    cases through t with
    | true => rfl
    | false =>
      cases stepOk n₀ ann t with
      | false => rfl
      | true =>
        cases stepT (denote treeTable) p w s t with
        | none => rfl
        | some r => exact topRunQ_eq n r.1 r.2
/-- what a good top shows, over the quick twins -/
noncomputable def goodQ (q : Program) (loose : List Str) :=
  ((⟨(Fast.tw3399658132070893891 q).map fun d => some d.shape, true, [], true, true, true, 0⟩ : Seen), bltViewBooted, true, true, pinGoodD (Fast.tw3247288618530077131 q), (Fast.tw210736558901404530 q (Fast.tw821141287760084731 q loose)).map (fun c => some c.withCmp.plainShape), (Fast.tw4354255287344443571 q loose).map (fun c => (some (c.plainShape, true) : Option (PlainShape × Bool))), ((Fast.tw694669760492028198 q).map (fun d => some d.1.shape), true), (Fast.tw1571739515156823405 q loose).map fun c => (wclsGood c, (some (c.plainShape, true) : Option (PlainShape × Bool))))
theorem goodQ_eq (q : Program) (loose : List Str) : goodQ q loose = openGood q loose := by
  unfold goodQ
  rw [← Fast.te3399658132070893891, ← Fast.te3247288618530077131, ← Fast.te821141287760084731, ← Fast.te210736558901404530, ← Fast.te4354255287344443571, ← Fast.te694669760492028198, ← Fast.te1571739515156823405]
  rfl

theorem left_tree {p q : Program} {loose : List Str} {Xt : Shared → Bool} {α : Type} {Yf : Shared → α} {Ya : World → α} {N : Nat} {g0 : Bool} {m₀ : Nat} {ann : Option Value}
    (open_ : ∀ w : World, (fencedOpening treeTable p w N).map (fun s => (s.heap, s.gens, s.drawn, s.toks)) = some (boot_heap w.params, Array.mk [], boot_drawn, boot_toks))
    (size : ∀ P : Params, ((boot_heap P).isNs mainGlobals, (boot_heap P).objs.size, (boot_heap P).nsMap mainGlobals "__annotations__") = (true, m₀, ann))
    (run : ∀ (w : World) (os : OsState), (topRunQ p w m₀ ann N (T0 w.params os) (topStub p)).map (fun s => ((staticsOk (importedModules p.main.body) (boot_heap w.params) s.abs.heap && namesBound p s.abs.heap && gensDone s.abs && laidKept (boot_heap w.params) s.abs.heap),
        Fast.tw4187177175401517315 q loose (Fast.tw5923862056798008813 p.main.body) Xt g0 s.abs, Yf s.abs)) = some (true, goodQ q loose, Ya w)) : LeftO p q loose Xt Yf Ya N g0 := fun w => by
  obtain ⟨⟨h, gs, d, k, os⟩, e, e'⟩ := Option.map_eq_some_iff.mp (open_ w)
  obtain ⟨rfl, rfl, rfl, rfl⟩ : h = boot_heap w.params ∧ gs = Array.mk [] ∧ d = boot_drawn ∧ k = boot_toks := by simpa using e'
  obtain ⟨z1, z2, z3⟩ : _ ∧ _ ∧ _ := by simpa only [Prod.mk.injEq] using size w.params
  have run := run w os
  rw [goodQ_eq, topRunQ_eq, ← Fast.te4187177175401517315, ← Fast.te5923862056798008813] at run
  obtain ⟨sT, r, r2⟩ := Option.map_eq_some_iff.mp run
  obtain ⟨l1, l2, l3⟩ : _ ∧ _ ∧ _ := by simpa only [Prod.mk.injEq] using r2
  have r := topRun_of r
  rw [T0_abs] at r
  have t : topFrom treeTable p w N ⟨boot_heap w.params, Array.mk [], boot_drawn, boot_toks, os⟩ = some sT.abs := by
    unfold topFrom
    dsimp only
    rw [z1, z2, z3, r]
    show (match staticsOk (importedModules p.main.body) (boot_heap w.params) sT.abs.heap && namesBound p sT.abs.heap && gensDone sT.abs && laidKept (boot_heap w.params) sT.abs.heap with | true => _ | false => _) = _
    rw [l1]
  unfold openEnds
  rw [e]
  show (topFrom treeTable p w N _).map _ = _
  rw [t]
  exact congrArg some (Prod.ext l2 l3)
end Mine
namespace Mine
/-- the text's view: its statements but the three that bind nothing -/
def vw : Program := { PySem.Challenge.pw_xw0303_01 with main := { PySem.Challenge.pw_xw0303_01.main with body := (PySem.Challenge.pw_xw0303_01.main.body.zipIdx.filter fun x => !([0, 10, 25].contains x.2)).map (·.1) } }
end Mine
namespace Mine
set_option maxHeartbeats 0
local macro_rules | `(tactic| o_head $H:term) => `(tactic| (refine holds_open (q := Mine.vw) (loose := [PySem.Str.ofString "SnobolError"]) (Xt := fun s => xlAt Mine.vw [] s && recOk (RowW.records (OpenRow.toRowW PySem.Challenge.rw_xw0303_01.row)) s) (XP := XL Mine.vw []) (Yf := Hook.obs $H) (Ya := Hook.val $H) (YP := Hook.says $H) (N := 5374) ?hl (Hook.of $H) (Hook.keeps $H) (fun s e => xl_of s (Bool.and_eq_true_iff.mp e).1) XL.keeps (by rfl) (by rfl) (by rfl) (fun s e => recFacts_of (Bool.and_eq_true_iff.mp e).2) (by rfl) (by first | assumption | decide +kernel) (by decide +kernel) ⟨rfl, rfl, rfl, rfl, rfl, by decide +kernel⟩ ?hw ?hc; (case hl => exact Mine.left_tree (m₀ := 11) (ann := some (.ref 6)) (boot_open (by rfl) (by rfl) (fun s => by rfl)) (fun P => by kernel_rfl) (fun w os => by kernel_rfl))))
open_top hd for PySem.Challenge.rw_xw0303_01
end Mine
end
section
open PySem PySem.W PyProof.Rows PySem.Spec PySem.Calls
set_option maxHeartbeats 400000
namespace Mine

/-- a turn of the inner clause -/
theorem nc_turn1 (y x : Str) (py px pz pq : Pos) (it0 : PySem.Expr) (scope : Scope) (pos : Pos) (it acc : Value) (env : Env) :
    compTurn (.ListComp (.Name y pz) [⟨.Name x px, it0, [], 0⟩, ⟨.Name y py, .Name x pq, [], 0⟩] scope pos) 1 it acc env =
      (standAt (PySem.Expr.Name x pq).pos >>= fun _ => pyNext it >>= fun r => match r with
      | none => pure (.done .next)
      | some v => letOwnedTupleGo (.Name y py) it v >>= fun _ => assign (.Name y py) env v >>= fun _ =>
        (eval (.Name y pz) env >>= fun x => call (.builtin "list.append") [acc, x] >>= fun _ => pure ()) >>= fun _ =>
          again (.compLoop (.ListComp (.Name y pz) [⟨.Name x px, it0, [], 0⟩, ⟨.Name y py, .Name x pq, [], 0⟩] scope pos) 1 it acc env)) := by rfl

/-- a turn of the outer clause -/
theorem nc_turn0 (y x : Str) (py px pz pq : Pos) (it0 : PySem.Expr) (scope : Scope) (pos : Pos) (it acc : Value) (env : Env) :
    compTurn (.ListComp (.Name y pz) [⟨.Name x px, it0, [], 0⟩, ⟨.Name y py, .Name x pq, [], 0⟩] scope pos) 0 it acc env =
      (standAt it0.pos >>= fun _ => pyNext it >>= fun r => match r with
      | none => pure (.done .next)
      | some v => letOwnedTupleGo (.Name x px) it v >>= fun _ => assign (.Name x px) env v >>= fun _ =>
        (eval (.Name x pq) env >>= fun x' => standAt (PySem.Expr.Name x pq).pos >>= fun _ => holding [x'] (pyIter x') >>= fun i =>
          runOwn (.compStart (.ListComp (.Name y pz) [⟨.Name x px, it0, [], 0⟩, ⟨.Name y py, .Name x pq, [], 0⟩] scope pos) 1 i acc env) env >>= fun _ =>
          again (.compLoop (.ListComp (.Name y pz) [⟨.Name x px, it0, [], 0⟩, ⟨.Name y py, .Name x pq, [], 0⟩] scope pos) 0 it acc env))) := by rfl

section
variable {prog : Program} {w : World} {A : Around} {E : Value → Shared → Prop} {R : Result → Shared → Prop} {s : Shared}

theorem nc_inner {y x : Str} {py px pz pq : Pos} {it0 : PySem.Expr} {scope : Scope} {pos : Pos} {cenv : Env} {I r D : Addr} {vs acc : List Value} {m : Str → Option Value}
    (hh : A.handled = none) (hy : cenv.kindOf y = some .local) (hkind : cenv.scope.kind = .function) (hyd : (y == ("__debug__" : Str)) = false)
    (hrI : r ≠ I) (hID : I ≠ D) (hIC : I ≠ cenv.locals) (hDC : D ≠ cenv.locals) (hrD : r ≠ D) (hrC : r ≠ cenv.locals)
    (hI : s.heap.IsListIter I r 0) (hr : s.heap.IsList r vs.toArray) (hD : s.heap.get? D = some (LCg.lst acc)) (hC : s.heap.Ns cenv.locals m)
    (hsz : acc.length + vs.length ≤ sizeLine)
    (hR : ∀ h' tk m', h'.get? D = some (LCg.lst (acc ++ vs)) → h'.Ns cenv.locals m' → (∀ b o, b ≠ I → b ≠ D → b ≠ cenv.locals → s.heap.get? b = some o → h'.get? b = some o) → R (.ok .next) { s with heap := h', toks := tk }) :
    codeAny (model prog w) A (.compLoop (.ListComp (.Name y pz) [⟨.Name x px, it0, [], 0⟩, ⟨.Name y py, .Name x pq, [], 0⟩] scope pos) 1 (.ref I) (.ref D) cenv) R s := by
  have hp : (cenv.scope.kind == .class || (cenv.scope.kind == .module && cenv.locals != cenv.globals)) = false := by rw [hkind]; rfl
  have W := Walks.list (prog := prog) (w := w) hh I r hrI vs.toArray
  refine codeAny_loop rfl
    (fun k s' => ∃ h' tk i m', s' = { s with heap := h', toks := tk } ∧ i ≤ vs.length ∧ k = vs.length + 1 - i ∧ (h'.IsListIter I r i ∧ h'.IsList r vs.toArray) ∧ h'.get? D = some (LCg.lst (acc ++ vs.take i)) ∧ h'.Ns cenv.locals m' ∧
      (∀ b o, b ≠ I → b ≠ D → b ≠ cenv.locals → s.heap.get? b = some o → h'.get? b = some o)) ?_ (vs.length + 1)
    ⟨s.heap, s.toks, 0, m, rfl, Nat.zero_le _, rfl, ⟨hI, hr⟩, by simpa using hD, hC, fun _ _ _ _ _ e => e⟩
  rintro k s' ⟨h', tk, i, m', rfl, hi, rfl, hst, hD', hC', hk'⟩
  show wpAny _ A ((compTurn (.ListComp (.Name y pz) [⟨.Name x px, it0, [], 0⟩, ⟨.Name y py, .Name x pq, [], 0⟩] scope pos) 1 (.ref I) (.ref D) cenv).onRaise (fun x => do noteFrame x cenv; theTreesLotGoes x)) _ _ _
  refine wpAny_noted ?_
  rw [nc_turn1]
  refine wpAny_bind (wpAny_standAt (wpAny_bind ?_))
  by_cases hlt : i < vs.length
  · refine W.item i _ _ _ (by simpa using hlt) hst fun v h₂ tk₂ hv hst₂ hk₂ => ?_
    have hv' : vs[i]? = some v := by simpa using hv
    refine wpAny_bind (wpAny_of_eq (by rfl) ?_)
    refine wpAny_bind (wpAny_assign_Name (wpAny_storeName_local hy (hC'.at' fun o e => hk₂ _ o (by simpa using Ne.symm hIC) e) (fun h₃ hn₃ hs₃ => ?_) hp))
    refine wpAny_bind (wpAny_bind ?_)
    refine wpAny_Name (wpAny_loadName_local (v := v) hkind hy hn₃ (by simp) ?_) hyd
    refine wpAny_bind ?_
    have hD₃ : h₃.get? D = some (LCg.lst (acc ++ vs.take i)) := hs₃.extBut _ _ hDC (hk₂ _ _ (by simpa using Ne.symm hID) hD')
    refine append_at (hsz := by rw [List.size_toArray, List.length_append, List.length_take]; omega) hD₃ fun h₅ hs₅ hD₅ => ?_
    refine wpAny_pure (wpAny_pure ⟨rfl, vs.length + 1 - (i + 1), by omega, h₅, _, i + 1, _, rfl, hlt, rfl, ?_, ?_, hn₃.sameBut hs₅ (Ne.symm hDC), ?_⟩)
    · exact ⟨(hst₂.1.extBut hs₃.extBut hIC).extBut hs₅.extBut hID, (hst₂.2.extBut hs₃.extBut hrC).extBut hs₅.extBut hrD⟩
    · have e := hD₅.trans (congrArg some (LCg.lst_snoc (acc ++ vs.take i) v))
      rw [e, List.take_add_one, hv', List.append_assoc]
      rfl
    · intro b o h1 h2 h3 e
      exact hs₅.extBut b o h2 (hs₃.extBut b o h3 (hk₂ b o (by simpa using h1) (hk' b o h1 h2 h3 e)))
  · obtain rfl : i = vs.length := Nat.le_antisymm hi (Nat.not_lt.mp hlt)
    refine W.done _ _ _ (by simpa using hst) fun h₂ tk₂ hk₂ => ?_
    refine wpAny_pure ?_
    have e : vs.take vs.length = vs := List.take_length
    rw [e] at hD'
    exact hR h₂ tk₂ m' (hk₂ _ _ (by simpa using Ne.symm hID) hD') (hC'.at' fun o e => hk₂ _ o (by simpa using Ne.symm hIC) e)
      fun b o h1 h2 h3 e => hk₂ b o (by simpa using h1) (hk' b o h1 h2 h3 e)

theorem nc_outer {y x : Str} {py px pz pq : Pos} {it0 : PySem.Expr} {scope : Scope} {pos : Pos} {cenv : Env} {I ax D : Addr} {rs : List (Addr × List Value)} {m : Str → Option Value}
    (hh : A.handled = none) (hx : cenv.kindOf x = some .local) (hy : cenv.kindOf y = some .local) (hkind : cenv.scope.kind = .function) (hxd : (x == ("__debug__" : Str)) = false) (hyd : (y == ("__debug__" : Str)) = false)
    (haI : ax ≠ I) (hID : I ≠ D) (hIC : I ≠ cenv.locals) (hDC : D ≠ cenv.locals) (haD : ax ≠ D) (haC : ax ≠ cenv.locals)
    (hI : s.heap.IsListIter I ax 0) (ha : s.heap.IsList ax (rs.map fun q => Value.ref q.1).toArray) (hr : ∀ q ∈ rs, s.heap.IsList q.1 q.2.toArray ∧ q.1 ≠ I ∧ q.1 ≠ D ∧ q.1 ≠ cenv.locals) (hD : s.heap.get? D = some (LCg.lst [])) (hC : s.heap.Ns cenv.locals m)
    (hsz : (rs.flatMap Prod.snd).length ≤ sizeLine)
    (hR : ∀ h' tk m', h'.get? D = some (LCg.lst (rs.flatMap Prod.snd)) → h'.Ns cenv.locals m' → (∀ b o, b ≠ I → b ≠ D → b ≠ cenv.locals → s.heap.get? b = some o → h'.get? b = some o) → R (.ok .next) { s with heap := h', toks := tk }) :
    codeAny (model prog w) A (.compLoop (.ListComp (.Name y pz) [⟨.Name x px, it0, [], 0⟩, ⟨.Name y py, .Name x pq, [], 0⟩] scope pos) 0 (.ref I) (.ref D) cenv) R s := by
  have hp : (cenv.scope.kind == .class || (cenv.scope.kind == .module && cenv.locals != cenv.globals)) = false := by rw [hkind]; rfl
  have W := Walks.list (prog := prog) (w := w) hh I ax haI (rs.map fun q => Value.ref q.1).toArray
  refine codeAny_loop rfl
    (fun k s' => ∃ h' tk i m', s' = { s with heap := h', toks := tk } ∧ i ≤ rs.length ∧ k = rs.length + 1 - i ∧ (h'.IsListIter I ax i ∧ h'.IsList ax (rs.map fun q => Value.ref q.1).toArray) ∧ h'.get? D = some (LCg.lst ((rs.take i).flatMap Prod.snd)) ∧ h'.Ns cenv.locals m' ∧
      (∀ b o, b ≠ I → b ≠ D → b ≠ cenv.locals → s.heap.get? b = some o → h'.get? b = some o)) ?_ (rs.length + 1)
    ⟨s.heap, s.toks, 0, m, rfl, Nat.zero_le _, rfl, ⟨hI, ha⟩, by simpa using hD, hC, fun _ _ _ _ _ e => e⟩
  rintro k s' ⟨h', tk, i, m', rfl, hi, rfl, hst, hD', hC', hk'⟩
  show wpAny _ A ((compTurn (.ListComp (.Name y pz) [⟨.Name x px, it0, [], 0⟩, ⟨.Name y py, .Name x pq, [], 0⟩] scope pos) 0 (.ref I) (.ref D) cenv).onRaise (fun x => do noteFrame x cenv; theTreesLotGoes x)) _ _ _
  refine wpAny_noted ?_
  rw [nc_turn0]
  refine wpAny_bind (wpAny_standAt (wpAny_bind ?_))
  by_cases hlt : i < rs.length
  · refine W.item i _ _ _ (by simpa using hlt) hst fun v h₂ tk₂ hv hst₂ hk₂ => ?_
    obtain ⟨r, vs, hri, rfl⟩ : ∃ r vs, rs[i]? = some (r, vs) ∧ v = .ref r := by
      have hv' : (rs.map fun q => Value.ref q.1)[i]? = some v := by simpa using hv
      rw [List.getElem?_map] at hv'
      obtain ⟨⟨r, vs⟩, h1, h2⟩ := Option.map_eq_some_iff.mp hv'
      exact ⟨r, vs, h1, h2.symm⟩
    have hrm : (r, vs) ∈ rs := List.mem_of_getElem? hri
    obtain ⟨hrl, hrI, hrD, hrC⟩ := hr (r, vs) hrm
    dsimp only at hrl hrI hrD hrC
    refine wpAny_bind (wpAny_of_eq (by rfl) ?_)
    refine wpAny_bind (wpAny_assign_Name (wpAny_storeName_local hx (hC'.at' fun o e => hk₂ _ o (by simpa using Ne.symm hIC) e) (fun h₃ hn₃ hs₃ => ?_) hp))
    refine wpAny_bind (wpAny_Name (wpAny_loadName_local (v := .ref r) hkind hx hn₃ (by simp) ?_) hxd)
    refine wpAny_bind (wpAny_standAt (wpAny_bind (wpAny_holding ?_)))
    have keep₃ : ∀ b o, b ≠ I → b ≠ D → b ≠ cenv.locals → s.heap.get? b = some o → h₃.get? b = some o := fun b o h1 h2 h3 e => hs₃.extBut b o h3 (hk₂ b o (by simpa using h1) (hk' b o h1 h2 h3 e))
    have hrl₃ : h₃.IsList r vs.toArray := hrl.at fun o e => keep₃ r o hrI hrD hrC e
    have hD₃ : h₃.get? D = some (LCg.lst ((rs.take i).flatMap Prod.snd)) := hs₃.extBut _ _ hDC (hk₂ _ _ (by simpa using Ne.symm hID) hD')
    refine wpAny_pyIter_list hrl₃ ?_
    have lt : ∀ b o, h₃.get? b = some o → b ≠ h₃.objs.size := fun b o e => Nat.ne_of_lt (Heap.lt_size e)
    have ltr : r ≠ h₃.objs.size := by obtain ⟨o, e, _⟩ := hrl₃; exact lt r o e
    have ltC : cenv.locals ≠ h₃.objs.size := by obtain ⟨o, _, _, e, _⟩ := hn₃; exact lt _ o e
    have ltI : I ≠ h₃.objs.size := by obtain ⟨o, e, _⟩ := hst₂.1.extBut hs₃.extBut hIC; exact lt _ o e
    have lta : ax ≠ h₃.objs.size := by obtain ⟨o, e, _⟩ := hst₂.2.extBut hs₃.extBut haC; exact lt _ o e
    have up : ∀ b o, h₃.get? b = some o → (h₃.push { cls := .type "list_iterator", data := .fields #[.ref r, .int 0 0] }).get? b = some o := fun b o e => Heap.get?_push_of_some _ e
    have hlen : (((rs.take i).flatMap Prod.snd).length + vs.length ≤ sizeLine) := by
      refine Nat.le_trans ?_ hsz
      have e : rs = rs.take i ++ (r, vs) :: rs.drop (i + 1) := by
        have hd : rs.drop i = (r, vs) :: rs.drop (i + 1) := by
          rw [List.drop_eq_getElem_cons hlt]
          congr 1
          exact Option.some.inj ((List.getElem?_eq_getElem hlt).symm.trans hri)
        rw [← hd, List.take_append_drop]
      rw [show (rs.flatMap Prod.snd).length = ((rs.take i ++ (r, vs) :: rs.drop (i + 1)).flatMap Prod.snd).length from by rw [← e]]
      simp only [List.flatMap_append, List.flatMap_cons, List.length_append]
      omega
    have inner : ∀ (A' : Around), A'.handled = none → ∀ s₄ : Shared, (∃ tk₄, s₄ = { s with heap := h₃.push { cls := .type "list_iterator", data := .fields #[.ref r, .int 0 0] }, toks := tk₄ }) →
        ∀ R' : Result → Shared → Prop,
        (∀ h₅ tk₅ m₅, h₅.get? D = some (LCg.lst ((rs.take i).flatMap Prod.snd ++ vs)) → h₅.Ns cenv.locals m₅ → (∀ b o, b ≠ h₃.objs.size → b ≠ D → b ≠ cenv.locals → h₃.get? b = some o → h₅.get? b = some o) → R' (.ok .next) { s with heap := h₅, toks := tk₅ }) →
        codeAny (model prog w) A' (.compLoop (.ListComp (.Name y pz) [⟨.Name x px, it0, [], 0⟩, ⟨.Name y py, .Name x pq, [], 0⟩] scope pos) 1 (.ref h₃.objs.size) (.ref D) cenv) R' s₄ := by
      rintro A' hh' s₄ ⟨tk₄, rfl⟩ R' hR'
      refine nc_inner (I := h₃.objs.size) (r := r) hh' hy hkind hyd ltr (fun e => lt _ _ hD₃ e.symm) (Ne.symm ltC) hDC hrD hrC ⟨_, Heap.get?_push_size _ rfl, rfl, rfl⟩ (hrl₃.at fun o e => up r o e) (up _ _ hD₃) (hn₃.at' fun o e => up _ o e) hlen ?_
      intro h₅ tk₅ m₅ e1 e2 e3
      exact hR' h₅ tk₅ m₅ e1 e2 fun b o h1 h2 h3 e => e3 b o h1 h2 h3 (up b o e)
    have fin : ∀ h₅ tk₅ m₅, h₅.get? D = some (LCg.lst ((rs.take i).flatMap Prod.snd ++ vs)) → h₅.Ns cenv.locals m₅ → (∀ b o, b ≠ h₃.objs.size → b ≠ D → b ≠ cenv.locals → h₃.get? b = some o → h₅.get? b = some o) →
        ∃ m, m < rs.length + 1 - i ∧ ∃ h' tk i' m', { s with heap := h₅, toks := tk₅ } = { s with heap := h', toks := tk } ∧ i' ≤ rs.length ∧ m = rs.length + 1 - i' ∧ (h'.IsListIter I ax i' ∧ h'.IsList ax (rs.map fun q => Value.ref q.1).toArray) ∧ h'.get? D = some (LCg.lst ((rs.take i').flatMap Prod.snd)) ∧ h'.Ns cenv.locals m' ∧
          (∀ b o, b ≠ I → b ≠ D → b ≠ cenv.locals → s.heap.get? b = some o → h'.get? b = some o) := by
      intro h₅ tk₅ m₅ e1 e2 e3
      refine ⟨rs.length + 1 - (i + 1), by omega, h₅, tk₅, i + 1, m₅, rfl, hlt, rfl, ⟨?_, ?_⟩, ?_, e2, ?_⟩
      · exact (hst₂.1.extBut hs₃.extBut hIC).at fun o e => e3 I o ltI hID hIC e
      · exact (hst₂.2.extBut hs₃.extBut haC).at fun o e => e3 ax o lta haD haC e
      · rw [e1, List.take_add_one, hri]
        simp
      · intro b o h1 h2 h3 e
        have e' := keep₃ b o h1 h2 h3 e
        exact e3 b o (lt b o e') h2 h3 e'
    refine wpAny_bind (wpAny_runOwn ?_)
    refine codeAny_of_tree ?_
    show wpAny _ (A.mark none) ((compStart (.ListComp (.Name y pz) [⟨.Name x px, it0, [], 0⟩, ⟨.Name y py, .Name x pq, [], 0⟩] scope pos) 1 (.ref h₃.objs.size) (.ref D) cenv).onRaise (fun x => do noteFrame x cenv; standAt theWindowsPlace)) _ _ _
    refine wpAny_notedAt ?_
    unfold compStart
    show wpAny _ _ (ask >>= _) _ _ _
    have hit : (h₃.push { cls := .type "list_iterator", data := .fields #[.ref r, .int 0 0] }).IsListIter h₃.objs.size r 0 := ⟨_, Heap.get?_push_size _ rfl, rfl, rfl⟩
    have next : ∀ (s₄ : Shared), (∃ tk₄, s₄ = { s with heap := h₃.push { cls := .type "list_iterator", data := .fields #[.ref r, .int 0 0] }, toks := tk₄ }) →
        codeAny (model prog w) (A.mark none) (.compLoop (.ListComp (.Name y pz) [⟨.Name x px, it0, [], 0⟩, ⟨.Name y py, .Name x pq, [], 0⟩] scope pos) 1 (.ref h₃.objs.size) (.ref D) cenv)
          (fun r s' => match r with | .ok f => (fun _ s'' => wpAny (model prog w) A (again (.compLoop (.ListComp (.Name y pz) [⟨.Name x px, it0, [], 0⟩, ⟨.Name y py, .Name x pq, [], 0⟩] scope pos) 0 (.ref I) (.ref D) cenv))
            (fun fin s' => match fin with
              | .done f => R (.ok f) s'
              | .again c' => c' = (.compLoop (.ListComp (.Name y pz) [⟨.Name x px, it0, [], 0⟩, ⟨.Name y py, .Name x pq, [], 0⟩] scope pos) 0 (.ref I) (.ref D) cenv) ∧ ∃ m, m < rs.length + 1 - i ∧ ∃ h' tk i' m', s' = { s with heap := h', toks := tk } ∧ i' ≤ rs.length ∧ m = rs.length + 1 - i' ∧ (h'.IsListIter I ax i' ∧ h'.IsList ax (rs.map fun q => Value.ref q.1).toArray) ∧ h'.get? D = some (LCg.lst ((rs.take i').flatMap Prod.snd)) ∧ h'.Ns cenv.locals m' ∧
                (∀ b o, b ≠ I → b ≠ D → b ≠ cenv.locals → s.heap.get? b = some o → h'.get? b = some o))
            (notedBy (model prog w) A cenv fun e s' => R (.error e) s') s'') f s' | .error e => cameBackBy (model prog w) A cenv (notedBy (model prog w) A cenv fun e s' => R (.error e) s') e s') s₄ := by
      intro s₄ h4
      refine inner _ (by show (none : Option Value).or A.handled = none; rw [hh]; rfl) s₄ h4 _ ?_
      intro h₅ tk₅ m₅ e1 e2 e3
      exact wpAny_pure ⟨rfl, fin h₅ tk₅ m₅ e1 e2 e3⟩
    refine wpAny_bind (wpAny_askSetting (wpAny_ite ?_))
    split
    · first
        | exact wpAny_bind (wpAny_pure (wpAny_pure (And.intro rfl (next _ ⟨_, rfl⟩))))
        | exact wpAny_pure (And.intro rfl (next _ ⟨_, rfl⟩))
    · refine wpAny_bind (wpAny_rule ?_)
      show wpAny _ _ (standAt (PySem.Expr.Name x pq).pos >>= _) _ _ _
      exact wpAny_bind (wpAny_standAt (wpAny_bind (wpAny_pyIter_listiter hit (wpAny_pure (And.intro rfl (next _ ⟨_, rfl⟩))))))
  · obtain rfl : i = rs.length := Nat.le_antisymm hi (Nat.not_lt.mp hlt)
    refine W.done _ _ _ (by simpa using hst) fun h₂ tk₂ hk₂ => ?_
    refine wpAny_pure ?_
    have e : rs.take rs.length = rs := List.take_length
    rw [e] at hD'
    exact hR h₂ tk₂ m' (hk₂ _ _ (by simpa using Ne.symm hID) hD') (hC'.at' fun o e => hk₂ _ o (by simpa using Ne.symm hIC) e)
      fun b o h1 h2 h3 e => hk₂ b o (by simpa using h1) (hk' b o h1 h2 h3 e)

inductive RowsAre (news : List (Addr × Obj)) : List Value → List Value → Prop
  | nil : RowsAre news [] []
  | cons {r : Addr} {vs l out : List Value} {n : Nat} : (r, listOf vs.toArray n) ∈ news → RowsAre news l out → RowsAre news (.ref r :: l) (vs ++ out)
theorem RowsAre.rows {news : List (Addr × Obj)} {l out : List Value} (x : RowsAre news l out) :
    ∃ rs : List (Addr × List Value), l = rs.map (fun q => Value.ref q.1) ∧ out = rs.flatMap Prod.snd ∧ ∀ q ∈ rs, ∃ n, (q.1, listOf q.2.toArray n) ∈ news := by
  induction x with
  | nil => exact ⟨[], rfl, rfl, fun _ h => nomatch h⟩
  | @cons r vs l out n hm _ ih =>
    obtain ⟨rs, e1, e2, e3⟩ := ih
    refine ⟨(r, vs) :: rs, by rw [e1]; rfl, by rw [e2]; rfl, fun q hq => ?_⟩
    rcases List.mem_cons.mp hq with rfl | hq
    · exact ⟨n, hm⟩
    · exact e3 q hq

def C2Src (A : Around) (h₀ : Heap) (L : Addr) (m : Str → Option Value) (Q : Value → Shared → Prop) (xv : Value) (s₁ : Shared) : Prop :=
  ∃ ax l out n news, xv = .ref ax ∧ A.handled = none ∧ Fr h₀ L s₁.heap m ∧ News h₀ L s₁.heap news ∧ (ax, listOf l.toArray n) ∈ news ∧ RowsAre news l out ∧ out.length ≤ sizeLine ∧
    ∀ D h tk, Fr h₀ L h m → News h₀ L h ((D, LCg.lst out) :: news) → (∀ p ∈ news, p.1 < D) → Q (.ref D) { s₁ with heap := h, toks := tk }
theorem C2Src.intro {A : Around} {h₀ : Heap} {L : Addr} {m : Str → Option Value} {Q : Value → Shared → Prop} {s₁ : Shared} {ax : Addr} {l out out' : List Value} {n : Nat} {news : List (Addr × Obj)}
    (hh : A.handled = none) (F : Fr h₀ L s₁.heap m) (N : News h₀ L s₁.heap news) (hm : (ax, listOf l.toArray n) ∈ news) (hr : RowsAre news l out) (e : out = out') (hsz : out'.length ≤ sizeLine)
    (h : ∀ D h tk, Fr h₀ L h m → News h₀ L h ((D, LCg.lst out') :: news) → (∀ p ∈ news, p.1 < D) → Q (.ref D) { s₁ with heap := h, toks := tk }) : C2Src A h₀ L m Q (.ref ax) s₁ := by
  subst e
  exact ⟨ax, l, out, n, news, rfl, hh, F, N, hm, hr, hsz, h⟩

theorem ListComp_2 {h₀ : Heap} {L : Addr} {m : Str → Option Value} {env : Env} {iter : PySem.Expr} {y x : Str} {py px pz pq : Pos} {scope : Scope} {cl : List (Str × Addr)} {pos : Pos} {Q : Value → Shared → Prop} (_F₀ : Fr h₀ L s.heap m)
    (hclos : closureFor scope env = pure cl) (hcell : ∀ y ∈ scope.names, y.2 ≠ .cell) (hkind : scope.kind = .function)
    (hnames : ∀ y ∈ scope.names, y.2 = .local → scope.names.lookup y.1 = some .local) (hx : scope.names.lookup x = some .local) (hy : scope.names.lookup y = some .local)
    (h : wpAny (model prog w) A (eval iter env) (C2Src A h₀ L m Q) E s)
    (hs : ∀ x, foldedSetIterable iter env x = pure x := by intro _; rfl) (hxd : (x == ("__debug__" : Str)) = false := by decide) (hyd : (y == ("__debug__" : Str)) = false := by decide) :
    wpAny (model prog w) A (eval (.ListComp (.Name y pz) [⟨.Name x px, iter, [], 0⟩, ⟨.Name y py, .Name x pq, [], 0⟩] scope pos) env) Q E s := by
  rw [eval_ListComp]
  refine wpAny_comprehension_free (use := none) rfl hs hclos hkind hnames (wpAny_mono h (fun xv s₁ h₁ => ?_) fun _ _ e => e)
  obtain ⟨ax, l, out, n, news, rfl, hh, F, N, hm, hr, hsz, k⟩ := h₁
  obtain ⟨rs, rfl, rfl, hrs⟩ := hr.rows
  have hl : s₁.heap.IsList ax (rs.map fun q => Value.ref q.1).toArray := ⟨_, (N _ hm).1, rfl, n, rfl⟩
  have hax := ltN (Heap.lt_size (N _ hm).1)
  dsimp only at hax
  refine wpAny_pyIter_list hl ?_
  refine wpAny_newObj_type (wpAny_newFunctionEnv hcell (by intro y hy; simp at hy) (fun h₁ hns₁ hsb₁ => ?_) hkind)
  dsimp only at hns₁ hsb₁ ⊢
  generalize hH1 : s₁.heap.push { cls := .type "list_iterator", data := .fields #[.ref ax, .int 0 0] } = H1 at hns₁ hsb₁ ⊢
  generalize hH2 : H1.push { cls := .type "list", dict := none, data := .seq ([] : List Value).toArray } = H2 at hns₁ hsb₁ ⊢
  have z1 : H1.objs.size = s₁.heap.objs.size + 1 := by rw [← hH1, Heap.size_push]
  have z2 : H2.objs.size = s₁.heap.objs.size + 2 := by rw [← hH2, Heap.size_push, z1]
  have up1 : ∀ b o, s₁.heap.get? b = some o → H1.get? b = some o := fun b o e => hH1 ▸ Heap.get?_push_of_some _ e
  have up2 : ∀ b o, H1.get? b = some o → H2.get? b = some o := fun b o e => hH2 ▸ Heap.get?_push_of_some _ e
  have lt0 : ∀ b o, s₁.heap.get? b = some o → b < s₁.heap.objs.size := fun b o e => Heap.lt_size e
  have up3 : ∀ b o, H2.get? b = some o → h₁.get? b = some o := fun b o e => hsb₁.extBut b o (Nat.ne_of_lt (Heap.lt_size e)) (Heap.get?_push_of_some _ e)
  have old : ∀ b o, s₁.heap.get? b = some o → h₁.get? b = some o := fun b o e => up3 b o (up2 b o (up1 b o e))
  have hI : h₁.IsListIter s₁.heap.objs.size ax 0 := ⟨_, up3 _ _ (up2 _ _ (hH1 ▸ Heap.get?_push_size _ rfl)), rfl, rfl⟩
  have hD : h₁.get? H1.objs.size = some (LCg.lst []) := up3 _ _ (hH2 ▸ Heap.get?_push_size _ rfl)
  have fresh₀ : ∀ a, s₁.heap.objs.size ≤ a → h₀.get? a = none := fun a ha => by
    cases e : h₀.get? a with
    | none => rfl
    | some o' => exact absurd (lt0 _ _ (F.keep a o' e)) (Nat.not_lt.mpr ha)
  have fresh₁ : ∀ a, s₁.heap.objs.size ≤ a → s₁.heap.get? a = none := fun a ha => by
    cases e : s₁.heap.get? a with
    | none => rfl
    | some o' => exact absurd (lt0 _ _ e) (Nat.not_lt.mpr ha)
  have hLlt := ltN F.ns.lt
  have kx : (compEnvC scope cl H2.objs.size env).kindOf x = some .local := lookup_relabel_local hx
  have ky : (compEnvC scope cl H2.objs.size env).kindOf y = some .local := lookup_relabel_local hy
  have body : ∀ s₃ : Shared, s₃ = { s₁ with heap := h₁, toks := s₁.toks + ([] : List (Str × Value)).length } →
      codeAny (model prog w) A (.compLoop (.ListComp (.Name y pz) [⟨.Name x px, iter, [], 0⟩, ⟨.Name y py, .Name x pq, [], 0⟩] scope pos) 0 (.ref s₁.heap.objs.size) (.ref H1.objs.size) (compEnvC scope cl H2.objs.size env))
        (compPost (model prog w) A E none Q (.ref H1.objs.size) H2.objs.size) s₃ := by
    rintro s₃ rfl
    refine nc_outer (I := s₁.heap.objs.size) (D := H1.objs.size) (ax := ax) (rs := rs) (cenv := compEnvC scope cl H2.objs.size env) hh kx ky (by simp [compEnvC, relabel, hkind]) hxd hyd (Nat.ne_of_lt hax) (by rw [z1]; exact Nat.ne_of_lt (Nat.lt_succ_self _))
      (by show s₁.heap.objs.size ≠ H2.objs.size; rw [z2]; refine neN ?_; omega) (by show H1.objs.size ≠ H2.objs.size; rw [z1, z2]; refine neN ?_; omega) (by rw [z1]; refine neN ?_; omega) (by show ax ≠ H2.objs.size; rw [z2]; refine neN ?_; omega) hI (hl.at fun o e => old _ o e) (fun q hq => ?_) hD hns₁ hsz ?_
    · obtain ⟨n', hq'⟩ := hrs q hq
      have hlt := ltN (Heap.lt_size (N _ hq').1)
      dsimp only at hlt
      refine ⟨⟨_, old _ _ (N _ hq').1, rfl, n', rfl⟩, Nat.ne_of_lt hlt, by rw [z1]; refine neN ?_; omega, ?_⟩
      show q.1 ≠ H2.objs.size
      rw [z2]; refine neN ?_; omega
    · intro h' tk m' e1 e2 e3
      refine ⟨m', e2, fun h'' hs'' => ?_⟩
      have keep : ∀ b o, s₁.heap.get? b = some o → h''.get? b = some o := fun b o e => by
        have hb := ltN (lt0 b o e)
        refine hs''.extBut b o (by rw [z2]; refine neN ?_; omega) (e3 b o (Nat.ne_of_lt hb) (by rw [z1]; refine neN ?_; omega) ?_ (old b o e))
        show b ≠ H2.objs.size
        rw [z2]; refine neN ?_; omega
      refine k H1.objs.size h'' tk ⟨F.ns.keeps keep, fun b o e => keep b o (F.keep b o e), F.above⟩ (fun p hp => ?_) (fun p hp => ?_)
      · rcases List.mem_cons.mp hp with rfl | hp
        · exact ⟨hs''.extBut _ _ (by rw [z1, z2]; refine neN ?_; omega) e1, by rw [z1]; refine neN ?_; omega, fresh₀ _ (by rw [z1]; exact Nat.le_succ _)⟩
        · exact ⟨keep _ _ (N p hp).1, (N p hp).2⟩
      · have := ltN (Heap.lt_size (N p hp).1)
        rw [z1]; exact Nat.lt_succ_of_lt this
  exact codeAny_compStart_list (body _ rfl) (wpAny_pyIter_listiter (l := ax) (i := 0) hI (body _ rfl))

theorem off1_mem {D : Addr} : ∀ {l : List (Addr × Obj)}, LCg.Off1 D l → ∀ {a : Addr} {o : Obj}, (a, o) ∈ l → @Ne Nat a D
  | [], _, _, _, h => nomatch h
  | _ :: _, x, _, _, h => by
    rcases List.mem_cons.mp h with h | h
    · have := x.1; rw [← h] at this; exact this
    · exact off1_mem x.2 h
theorem off1_ne {D a : Addr} {o : Obj} {l : List (Addr × Obj)} (x : LCg.Off1 D l) (h : (a, o) ∈ l) : @Ne Nat a D := off1_mem x h
theorem off1_ne' {D a : Addr} {o : Obj} {l : List (Addr × Obj)} (x : LCg.Off1 D l) (h : (a, o) ∈ l) : @Ne Nat D a := Ne.symm (off1_mem x h)
theorem off3_I {I C D a : Addr} {o : Obj} {l : List (Addr × Obj)} (x : LCg.Off3 I C D l) (h : (a, o) ∈ l) : @Ne Nat a I := (x.mem _ h).1
theorem off3_C {I C D a : Addr} {o : Obj} {l : List (Addr × Obj)} (x : LCg.Off3 I C D l) (h : (a, o) ∈ l) : @Ne Nat a C := (x.mem _ h).2.1
theorem off3_D {I C D a : Addr} {o : Obj} {l : List (Addr × Obj)} (x : LCg.Off3 I C D l) (h : (a, o) ∈ l) : @Ne Nat a D := (x.mem _ h).2.2
theorem add_lit {a b c : Int} {t u : Tok} {Q : Value → Shared → Prop} (e : a + b = c) (h : Q (.int c s.toks) { s with toks := s.toks + 1 }) : wpAny (model prog w) A (binaryOp .Add (.int a t) (.int b u)) Q E s := by
  subst e; exact PyProof.Rows.add_int h
theorem sub_lit {a b c : Int} {t u : Tok} {Q : Value → Shared → Prop} (e : a - b = c) (h : Q (.int c s.toks) { s with toks := s.toks + 1 }) : wpAny (model prog w) A (binaryOp .Sub (.int a t) (.int b u)) Q E s := by
  subst e; exact PyProof.Rows.sub_int h
theorem mul_lit {a b c : Int} {t u : Tok} {Q : Value → Shared → Prop} (e : a * b = c) (hm : IntMulOk a b) (h : Q (.int c s.toks) { s with toks := s.toks + 1 }) : wpAny (model prog w) A (binaryOp .Mult (.int a t) (.int b u)) Q E s := by
  subst e; exact PyProof.Rows.mul_int h hm
theorem mod_lit {a b c : Int} {t u : Tok} {Q : Value → Shared → Prop} (hb : b ≠ 0) (e : a.fmod b = c) (h : Q (.int c s.toks) { s with toks := s.toks + 1 }) : wpAny (model prog w) A (binaryOp .Mod (.int a t) (.int b u)) Q E s := by
  subst e; exact PyProof.Rows.mod_int' hb h
end
end Mine
namespace Mine
section
variable {prog : Program} {w : World} {A : Around} {E : Value → Shared → Prop} {s : Shared}
theorem tup_gt_tree {a b : Addr} {oa ob : Obj} {n k : Nat} {x y : Int} {e : Str} {p0 p1 p2 q0 q1 q2 : Tok} {P : PySem.Fin → Shared → Prop} (hoa : s.heap.get? a = some oa) (hda : oa.data = .seq [.int 0 p0, .int x p1, .str e p2].toArray n)
    (hob : s.heap.get? b = some ob) (hcb : ob.cls = .type "tuple") (hdb : ob.data = .seq [.int 0 q0, .int y q1, .str e q2].toArray k)
    (h : P (.done (.ret (.bool (decide (y < x))))) s) : wpAny (model prog w) A (Builtin.«tuple.__gt__» ⟨[.ref a, .ref b], []⟩) P E s := by
  have hTb : s.TypeIs (.ref b) "tuple" := ⟨ob, hob, hcb⟩
  show wpAny _ _ (isInstance (.ref b) (.type "tuple") >>= _) _ _ s
  refine wpAny_bind (wpAny_isInstance hTb isSubtype_tuple_tuple ?_)
  simp only [Bool.not_true, Bool.false_eq_true, if_false]
  refine wpAny_bind (wpAny_tupleItemsOf hoa hda ?_)
  refine wpAny_bind (wpAny_tupleItemsOf hob hdb ?_)
  refine wpAny_bind ?_
  simp only [List.zip_cons_cons, List.zip_nil_right, List.forIn_cons, List.forIn_nil]
  refine wpAny_bind (wpAny_bind (wpAny_eqBool_int ?_))
  rw [show ((0 : Int) == 0) = true from rfl]
  simp only [Bool.not_true, Bool.false_eq_true, if_false]
  refine wpAny_pure ?_
  dsimp only
  refine wpAny_bind (wpAny_bind (wpAny_eqBool_int ?_))
  by_cases hxy : x = y
  · subst hxy
    rw [show (x == x) = true from beq_self_eq_true x]
    simp only [Bool.not_true, Bool.false_eq_true, if_false]
    refine wpAny_pure ?_
    dsimp only
    refine wpAny_bind (wpAny_bind (eqBool_str ?_))
    rw [show (e == e) = true from beq_self_eq_true e]
    simp only [Bool.not_true, Bool.false_eq_true, if_false]
    refine wpAny_pure (wpAny_pure ?_)
    dsimp only
    have e1 : decide (x < x) = false := decide_eq_false (Int.lt_irrefl x)
    rw [e1] at h
    exact wpAny_pure h
  · rw [show (x == y) = false from beq_eq_false_iff_ne.mpr hxy]
    simp only [Bool.not_false, if_true]
    refine wpAny_bind (wpAny_rule (wpAny_bind (show wpAny (model prog w) A (compareOp .Gt (.int x p1) (.int y q1)) _ _ s from PyProof.Rows.gt_int ?_)))
    exact wpAny_bind (wpAny_pure (wpAny_pure (wpAny_pure (wpAny_pure h))))

theorem tup_gt {a b : Addr} {oa ob : Obj} {n k : Nat} {x y : Int} {e : Str} {p0 p1 p2 q0 q1 q2 : Tok} {Q : Value → Shared → Prop} (hoa : s.heap.get? a = some oa) (hca : oa.cls = .type "tuple") (hda : oa.data = .seq [.int 0 p0, .int x p1, .str e p2].toArray n)
    (hob : s.heap.get? b = some ob) (hcb : ob.cls = .type "tuple") (hdb : ob.data = .seq [.int 0 q0, .int y q1, .str e q2].toArray k) (hu : A.units < cLine)
    (h : Q (.bool (decide (y < x))) s) : wpAny (model prog w) A (compareOp .Gt (.ref a) (.ref b)) Q E s :=
  show wpAny (model prog w) A (richCompare .Gt (.ref a) (.ref b)) Q E s from
  wpAny_richCompare_same_room (T := "tuple") ⟨oa, hoa, hca⟩ ⟨ob, hob, hcb⟩ F.slot_tuple_gt
    (wpAny_call_entry F.slot_tuple_gt ⟨oa, hoa, hca⟩ F.entry_tuple_gt (tup_gt_tree hoa hda hob hcb hdb ⟨_, rfl, (fun z => nomatch z), h⟩) (F.args_tuple_gt_2 _ _)) hu

/-- an item of a list of the ledger at a written place -/
theorem item_lit {h₀ : Heap} {L : Addr} {news : List (Addr × Obj)} {value slice : PySem.Expr} {l : Addr} {vs : List Value} {n : Nat} {k : Int} {u : Tok} {v : Value} {Q : Value → Shared → Prop}
    (N : News h₀ L s.heap news) (hm : (l, listOf vs.toArray n) ∈ news) (h0 : 0 ≤ k) (hhi : k < 2 ^ 63) (hx : vs[k.toNat]? = some v) (h : Q v s)
    (hs : subscripted slice false (.ref l) (.int k u) = operate [.ref l, .int k u] (getItem (.ref l) (.int k u))) :
    wpAny (model prog w) A (subscriptTail value slice (.ref l) (.int k u)) Q E s :=
  have hl : s.heap.IsList l vs.toArray := ⟨_, (N _ hm).1, rfl, n, rfl⟩
  tail_any hl.typeIs slot_list_getitem.lookup (wpAny_getItem_list hl h0 hhi (by simpa using hx) h) hs
end
end Mine
namespace Mine

/-- what stood in `hs` stands in the callee's ground `g`, but for the handed objects `ex` -/
def KeepFrom (hs : Heap) (ex : List (Addr × Obj)) (g : Heap) : Prop := ∀ b o, hs.get? b = some o → b ∈ ex.map (·.1) ∨ g.get? b = some o
theorem KeepFrom.grown {hs g g' h' : Heap} {ex ex' : List (Addr × Obj)} {L' L'' : Addr} {m' : Str → Option Value} (K : KeepFrom hs ex g) (N₀ : ∀ p ∈ ex, hs.get? p.1 = some p.2) (F : Fr g L' h' m') (N' : News g' L'' h' ex') (sub : ∀ p ∈ ex, p ∈ ex') :
    ∀ b o, hs.get? b = some o → h'.get? b = some o := by
  intro b o e
  rcases K b o e with hb | hb
  · obtain ⟨p, hp, rfl⟩ := List.mem_map.mp hb
    have := N₀ p hp
    rw [e] at this
    cases this
    exact (N' _ (sub p hp)).1
  · exact F.keep b o hb
theorem KeepFrom.fresh {hs g h' : Heap} {ex ex' : List (Addr × Obj)} {L' B : Addr} {o : Obj} (K : KeepFrom hs ex g) (N' : News g L' h' ex') (hm : (B, o) ∈ ex') (hne : ∀ p ∈ ex, p.1 ≠ B) : hs.get? B = none := by
  cases e : hs.get? B with
  | none => rfl
  | some o' =>
    rcases K B o' e with hb | hb
    · obtain ⟨p, hp, rfl⟩ := List.mem_map.mp hb
      exact absurd rfl (hne p hp)
    · have := (N' _ hm).2.2
      rw [hb] at this; cases this

section
variable {prog : Program} {w : World} {A A₀ : Around} {s : Shared} {K : Frag} {L : Addr} {h₀ base : Heap} {m mg mb : Str → Option Value} {news : List (Addr × Obj)} {p : Program} {loose : List Str} {mean : ExcName → Option Value}
theorem code_defF {env : Env} {outer : List Env} {R : Result → Shared → Prop} {name qual : Str} {params : Arguments} {body : List Stmt} {scope : Scope} {dV kV doc pm cdv ct oc : Value} {an od : Option Addr} {osl : Array (Option Value)} {f : Addr} {args : Args} {binds : List (Str × Value)}
    (B : Below A₀ base outer h₀) (F : Fr h₀ L s.heap m) (X₀ : K.In h₀) (N : News h₀ L s.heap news) (T : Top p loose mean mg mb h₀) (hA : A.frames = some (env :: outer)) (hf : env.frame = some L) (hke : env.scope.kind = .function)
    (ho : K.lookup f = some ⟨oc, od, .func (fnOf name qual params body scope dV kV doc pm an cdv ct), osl⟩) (hcd : codeIn K cdv qual = true) (hroom : A.depth < recursionLimit)
    (hbind : BindsTo s (fnOf name qual params body scope dV kV doc pm an cdv ct) args binds) (hloc : ∀ y ∈ binds, scope.names.lookup y.1 = some .local)
    (h : ∀ g L' h₁ tk, Fr h₀ L g m → Fr g L' h₁ (fun y => binds.reverse.lookup y) → News g L' h₁ news → Below A base (env :: outer) g → K.In g → Top p loose mean mg mb g → KeepFrom s.heap news g →
      wpAny (model prog w) (A.deeper (envOf qual scope L' f cdv)) (execs body (envOf qual scope L' f cdv))
        (fun fl s' => LeaveK h₀ L m g R (match fl with | .ret v => v | _ => .none) s')
        (fun e s' => wpAny (model prog w) (A.deeper (envOf qual scope L' f cdv)) (leaving (envOf qual scope L' f cdv) e) (fun _ s'' => R (.error e) s'') (fun e' s'' => R (.error e') s'') s')
        { s with heap := h₁, toks := tk })
    (hco : scope.isCoroutine = false) (hgen : scope.isGenerator = false) (hk : scope.kind = .function)
    (hcell : ∀ x ∈ scope.names, x.2 ≠ .cell) : codeAny (model prog w) A (.call (.ref f) args) R s := by
  obtain ⟨FG, BG, st, lv⟩ := groundX (R := R) B F N hA hf hke
  refine codeAny_call_def (fd := fnOf name qual params body scope dV kV doc pm an cdv ct) (body := body) (binds := binds) hroom ((X₀.keeps F.keep) _ _ ho) rfl (T.nolimit.keeps F.keep) (codeRec_of (X₀.keeps F.keep) hcd) rfl hbind hcell hloc (fun h₁ hns hk₁ => ?_) hco hgen hk
  refine wpAny_mono (h _ s.heap.objs.size h₁ _ FG ⟨hns, fun b o e => hk₁ b o (of_hideAll _ e), Nat.le_of_eq (hideAll_size _ _)⟩
    (fun p hp => ⟨hk₁ _ _ (N p hp).1, Nat.ne_of_lt (Heap.lt_size (N p hp).1), hideAll_none _ (List.mem_map_of_mem hp)⟩) BG (X₀.keeps st) (T.keeps st) (fun b o e => ?_)) (fun fl s' hl => lv _ _ hl) fun _ _ y => y
  by_cases hb : b ∈ news.map (·.1)
  · exact .inl hb
  · exact .inr (hideAll_get _ e hb)
end
structure Lt (D : Addr) (l : List (Addr × Obj)) : Prop where
  out : ∀ p ∈ l, p.1 < D
theorem Lt.ne {D a : Addr} {o : Obj} {l : List (Addr × Obj)} (x : Lt D l) (h : (a, o) ∈ l) : @Ne Nat a D := Nat.ne_of_lt (x.out _ h)
theorem Lt.ne' {D a : Addr} {o : Obj} {l : List (Addr × Obj)} (x : Lt D l) (h : (a, o) ∈ l) : @Ne Nat D a := Ne.symm (Nat.ne_of_lt (x.out _ h))
theorem lt_ne {D a : Addr} {o : Obj} {l : List (Addr × Obj)} (x : ∀ p ∈ l, p.1 < D) (h : (a, o) ∈ l) : @Ne Nat a D := Nat.ne_of_lt (x _ h)
theorem lt_ne' {D a : Addr} {o : Obj} {l : List (Addr × Obj)} (x : ∀ p ∈ l, p.1 < D) (h : (a, o) ∈ l) : @Ne Nat D a := Ne.symm (Nat.ne_of_lt (x _ h))
def ins (x : Int) : List Int → List Int
  | [] => [x]
  | y :: r => if y ≤ x then y :: ins x r else x :: y :: r
def isort (l : List Int) : List Int := l.foldl (fun acc x => ins x acc) []
theorem ints_eq {vs : List Value} {ns ms : List Int} (h : IntsAre vs ms) (e : ns = ms) : IntsAre vs ns := e ▸ h
end Mine
namespace Mine
abbrev Q4 := Addr × Int × Tok × Nat
def refs (l : List Q4) : List Value := l.map fun q => .ref q.1
def keys (l : List Q4) : List Int := l.map fun q => q.2.1
def rowObj (q : Q4) : Obj := listOf [.int q.2.1 q.2.2.1].toArray q.2.2.2
theorem refs_length (l : List Q4) : (refs l).length = l.length := List.length_map ..
theorem keys_length (l : List Q4) : (keys l).length = l.length := List.length_map ..
theorem refs_get {l : List Q4} {j : Nat} {q : Q4} (h : l[j]? = some q) : (refs l)[j]? = some (.ref q.1) := by simp [refs, h]
theorem keys_get {l : List Q4} {j : Nat} {q : Q4} (h : l[j]? = some q) : (keys l)[j]? = some q.2.1 := by simp [keys, h]

theorem ins_mem (x y : Int) : ∀ (l : List Int), y ∈ ins x l → y = x ∨ y ∈ l
  | [], h => by simp [ins] at h; exact .inl h
  | z :: r, h => by
    unfold ins at h
    split at h
    · rcases List.mem_cons.mp h with h | h
      · exact .inr (h ▸ List.mem_cons_self ..)
      · rcases ins_mem x y r h with h | h
        · exact .inl h
        · exact .inr (List.mem_cons_of_mem _ h)
    · rcases List.mem_cons.mp h with h | h
      · exact .inl h
      · exact .inr h
theorem ins_sorted (x : Int) : ∀ (l : List Int), l.Pairwise (· ≤ ·) → (ins x l).Pairwise (· ≤ ·)
  | [], _ => by simp [ins]
  | z :: r, h => by
    unfold ins
    have h1 := List.pairwise_cons.mp h
    split
    · rename_i hz
      refine List.pairwise_cons.mpr ⟨fun y hy => ?_, ins_sorted x r h1.2⟩
      rcases ins_mem x y r hy with e | e
      · omega
      · exact h1.1 y e
    · rename_i hz
      refine List.pairwise_cons.mpr ⟨fun y hy => ?_, h⟩
      rcases List.mem_cons.mp hy with e | e
      · omega
      · have := h1.1 y e; omega
theorem ins_length (x : Int) : ∀ (l : List Int), (ins x l).length = l.length + 1
  | [] => rfl
  | z :: r => by
    unfold ins
    split
    · simp [ins_length x r]
    · simp
theorem fold_sorted : ∀ (l acc : List Int), acc.Pairwise (· ≤ ·) → (l.foldl (fun a x => ins x a) acc).Pairwise (· ≤ ·)
  | [], _, h => h
  | x :: r, acc, h => fold_sorted r _ (ins_sorted x acc h)
theorem isort_sorted (l : List Int) : (isort l).Pairwise (· ≤ ·) := fold_sorted l [] List.Pairwise.nil
theorem fold_length : ∀ (l acc : List Int), (l.foldl (fun a x => ins x a) acc).length = l.length + acc.length
  | [], _ => by simp
  | x :: r, acc => by
    rw [List.foldl_cons, fold_length r, ins_length]
    simp only [List.length_cons]; omega
theorem isort_length (l : List Int) : (isort l).length = l.length := by
  unfold isort; rw [fold_length]; simp
theorem isort_snoc (l : List Int) (x : Int) : isort (l ++ [x]) = ins x (isort l) := by simp [isort]

theorem ins_at (x : Int) : ∀ (l : List Int) (k : Nat), l.Pairwise (· ≤ ·) → k ≤ l.length → (∀ i y, k ≤ i → l[i]? = some y → x < y) → (∀ i y, i < k → l[i]? = some y → y ≤ x) → ins x l = l.take k ++ x :: l.drop k
  | [], k, _, _, _, _ => by simp [ins]
  | z :: r, 0, h, hk, hi, lo => by
    have := hi 0 z (Nat.le_refl _) rfl
    have e : ¬ z ≤ x := by omega
    simp [ins, e]
  | z :: r, k + 1, h, hk, hi, lo => by
    have e : z ≤ x := lo 0 z (Nat.succ_pos _) rfl
    have ih := ins_at x r k (List.pairwise_cons.mp h).2 (by simpa using hk) (fun i y a b => hi (i + 1) y (by omega) (by simpa using b)) (fun i y a b => lo (i + 1) y (by omega) (by simpa using b))
    simp [ins, e, ih]

/-- the place found from the right -/
theorem ins_place {x : Int} {l : List Int} {k : Nat} (hs : l.Pairwise (· ≤ ·)) (hk : k ≤ l.length) (hi : ∀ i y, k ≤ i → l[i]? = some y → x < y) (lo : k = 0 ∨ ∃ j y, k = j + 1 ∧ l[j]? = some y ∧ y ≤ x) : ins x l = l.take k ++ x :: l.drop k := by
  refine ins_at x l k hs hk hi fun i y a b => ?_
  rcases lo with rfl | ⟨j, y', rfl, e, hy⟩
  · omega
  · by_cases hij : i = j
    · subst hij; rw [e] at b; cases b; exact hy
    · obtain ⟨hi', bi⟩ := List.getElem?_eq_some_iff.mp b
      obtain ⟨hj', bj⟩ := List.getElem?_eq_some_iff.mp e
      have := List.pairwise_iff_getElem.mp hs i j hi' hj' (by omega)
      rw [bi, bj] at this
      omega

def insQ (q : Q4) (k : Nat) (ds : List Q4) : List Q4 := ds.take k ++ q :: ds.drop k
theorem keys_insQ {q : Q4} {k : Nat} {ds : List Q4} (hs : (keys ds).Pairwise (· ≤ ·)) (hk : k ≤ ds.length) (hi : ∀ i p, k ≤ i → ds[i]? = some p → q.2.1 < p.2.1) (lo : k = 0 ∨ ∃ j p, k = j + 1 ∧ ds[j]? = some p ∧ p.2.1 ≤ q.2.1) : keys (insQ q k ds) = ins q.2.1 (keys ds) := by
  have h1 : ∀ i y, k ≤ i → (keys ds)[i]? = some y → q.2.1 < y := by
    intro i y a b
    simp only [keys, List.getElem?_map, Option.map_eq_some_iff] at b
    obtain ⟨p, hp, rfl⟩ := b
    exact hi i p a hp
  have h2 : k = 0 ∨ ∃ j y, k = j + 1 ∧ (keys ds)[j]? = some y ∧ y ≤ q.2.1 := by
    rcases lo with h | ⟨j, p, h1, h2, h3⟩
    · exact .inl h
    · exact .inr ⟨j, p.2.1, h1, keys_get h2, h3⟩
  rw [ins_place (k := k) hs (by rw [keys_length]; exact hk) h1 h2]
  simp [keys, insQ]
theorem refs_insQ {q : Q4} {k : Nat} {ds : List Q4} (hk : k ≤ ds.length) : kl_ins (refs ds) (k : Int) (.ref q.1) = refs (insQ q k ds) := by
  unfold kl_ins
  rw [if_neg (by omega), refs_length, Int.toNat_natCast, Nat.min_eq_left hk]
  simp [refs, insQ]
theorem mem_insQ {q p : Q4} {k : Nat} {ds : List Q4} (h : p ∈ insQ q k ds) : p = q ∨ p ∈ ds := by
  unfold insQ at h
  rcases List.mem_append.mp h with h | h
  · exact .inr (List.mem_of_mem_take h)
  · rcases List.mem_cons.mp h with h | h
    · exact .inl h
    · exact .inr (List.mem_of_mem_drop h)

theorem fr_norm {stored : List Str} {m m₀ : Str → Option Value} (h : ∀ y, stored.contains y = false → m y = m₀ y) : m = fun y => if stored.contains y then m y else m₀ y := by
  funext y
  cases e : stored.contains y with
  | true => simp
  | false => simpa using h y e

def Stop (P : Prop) : Prop := P

section
variable {prog : Program} {w : World} {A : Around} {E : Value → Shared → Prop} {s : Shared} {env : Env} {h₀ : Heap} {x : Str} {body : List Stmt} {Q : Flow → Shared → Prop}

theorem len_led {L : Addr} {news : List (Addr × Obj)} {l : Addr} {vs : List Value} {n : Nat} {k : Int} {Q : Value → Shared → Prop} (N : News h₀ L s.heap news) (hm : (l, listOf vs.toArray n) ∈ news) (hk : (vs.length : Int) = k) (hz : k < 2 ^ 63)
    (h : Q (.int k (s.toks + 1)) { s with toks := s.toks + 1 + 1 }) : wpAny (model prog w) A (call (.builtin "len") [.ref l]) Q E s := by
  subst hk
  have hl : s.heap.IsList l vs.toArray := ⟨_, (N _ hm).1, rfl, n, rfl⟩
  refine len_list hl (by rw [List.size_toArray]; exact hz) ?_
  rw [List.size_toArray]; exact h

def SortStep (h₀ : Heap) (L I D : Addr) (it : Obj) (x : Str) (stored : List Str) (m₀ : Str → Option Value) (news : List (Addr × Obj)) (q : Q4) (ds : List Q4) (s₁ : Shared) (f : Flow) (s₂ : Shared) : Prop :=
  f = .next ∧ ∃ h' tk m' k nd, s₂ = { s₁ with heap := h', toks := tk } ∧ Fr h₀ L h' m' ∧ News h₀ L h' ((I, it) :: (D, listOf (refs (insQ q k ds)).toArray nd) :: news) ∧ (∀ y, y ≠ x → stored.contains y = false → m' y = m₀ y) ∧
    k ≤ ds.length ∧ (∀ i p, k ≤ i → ds[i]? = some p → q.2.1 < p.2.1) ∧ (k = 0 ∨ ∃ j p, k = j + 1 ∧ ds[j]? = some p ∧ p.2.1 ≤ q.2.1)

theorem rest_sort {D I : Addr} {lp : Addr × Obj} {rs : List Q4} {stored : List Str} {m₀ : Str → Option Value} {news : List (Addr × Obj)} (hID : I ≠ D) (hI : ∀ p ∈ news, p.1 ≠ I) (hlp : lp ∈ news) (hx : stored.contains x = true)
    (turn : ∀ (it : Obj) (ds : List Q4) (q : Q4) (u : Str → Option Value) (h : Heap) (tk nd : Nat), it.cls = .type "list_iterator" → q ∈ rs → (∀ p ∈ ds, p ∈ rs) → ds.length < rs.length → (keys ds).Pairwise (· ≤ ·) →
      Fr h₀ env.locals h (fun y => if y = x then some (.ref q.1) else if stored.contains y then u y else m₀ y) → News h₀ env.locals h ((I, it) :: (D, listOf (refs ds).toArray nd) :: news) →
      wpAny (model prog w) A (execs body env) (SortStep h₀ env.locals I D it x stored m₀ news q ds { s with heap := h, toks := tk }) E { s with heap := h, toks := tk })
    (done : ∀ (u : Str → Option Value) (ds : List Q4) (h : Heap) (tk nd : Nat), keys ds = isort (keys rs) → (∀ p ∈ ds, p ∈ rs) → Fr h₀ env.locals h (fun y => if stored.contains y then u y else m₀ y) → News h₀ env.locals h ((D, listOf (refs ds).toArray nd) :: news) → Q .next { s with heap := h, toks := tk }) :
    ∀ (todo dn ds : List Q4) (m : Str → Option Value) (nd : Nat), rs = dn ++ todo → keys ds = isort (keys dn) → (∀ p ∈ ds, p ∈ rs) → (∀ y, stored.contains y = false → m y = m₀ y) →
      ListRest prog w A E h₀ env x body Q s I lp (refs todo) m ((D, listOf (refs ds).toArray nd) :: news)
  | [], dn, ds, m, nd, e, hk, hd, hm => by
    intro h tk F N
    rw [fr_norm hm] at F
    rw [List.append_nil] at e
    subst e
    exact done m ds h tk nd hk hd F N
  | q :: todo, dn, ds, m, nd, e, hk, hd, hm => by
    show ListRest prog w A E h₀ env x body Q s I lp (.ref q.1 :: refs todo) m _
    refine ListRest.succ fun it h tk hit F N => ?_
    rw [fr_norm hm] at F
    have hq : q ∈ rs := e ▸ List.mem_append_right _ (List.mem_cons_self ..)
    have hsort : (keys ds).Pairwise (· ≤ ·) := hk ▸ isort_sorted _
    have hlen : ds.length = dn.length := by rw [← keys_length, hk, isort_length, keys_length]
    refine wpAny_mono (turn it ds q m h tk nd hit hq hd (by rw [hlen, e]; simp) hsort F N) (fun f s₂ p => ?_) fun _ _ e => e
    obtain ⟨rfl, h', tk', m', k, nd', rfl, F', N', hm', hk1, hk2, hk3⟩ := p
    show UnrEnd _ _ _ _ _ _ _
    refine UnrEnd.intro F' N' ((D, listOf (refs (insQ q k ds)).toArray nd') :: news) (fun p hp => hp) (fun p hp => ?_) ⟨List.mem_cons_of_mem _ hlp, ?_⟩
    · rcases List.mem_cons.mp hp with rfl | hp
      · exact Ne.symm hID
      · exact hI p hp
    · refine rest_sort hID hI hlp hx turn done todo (dn ++ [q]) (insQ q k ds) m' nd' (by rw [e, List.append_assoc]; rfl) ?_ ?_ fun y hy => ?_
      · rw [keys_insQ hsort hk1 hk2 hk3, hk]
        show _ = isort (List.map _ _)
        rw [List.map_append]
        exact (isort_snoc _ _).symm
      · intro p hp
        rcases mem_insQ hp with rfl | hp
        · exact hq
        · exact hd p hp
      · refine hm' y (fun hxy => ?_) hy
        rw [hxy, hx] at hy; cases hy

theorem iter_sort {R D : Addr} {rs : List Q4} {n nd : Nat} {stored : List Str} {m₀ : Str → Option Value} {news : List (Addr × Obj)} (hh : A.handled = none) (F : Fr h₀ env.locals s.heap m₀) (N : News h₀ env.locals s.heap ((D, listOf ([] : List Value).toArray nd) :: news))
    (hm : (R, listOf (refs rs).toArray n) ∈ news) (hx : stored.contains x = true) (hD : ∀ p ∈ news, p.1 < D)
    (turn : ∀ (I : Addr) (it : Obj) (ds : List Q4) (q : Q4) (u : Str → Option Value) (h : Heap) (tk nd : Nat), (∀ p ∈ news, p.1 < I) → @Ne Nat I D → (∀ p ∈ news, p.1 ≠ D) → it.cls = .type "list_iterator" → q ∈ rs → (∀ p ∈ ds, p ∈ rs) → ds.length < rs.length → (keys ds).Pairwise (· ≤ ·) →
      Fr h₀ env.locals h (fun y => if y = x then some (.ref q.1) else if stored.contains y then u y else m₀ y) → News h₀ env.locals h ((I, it) :: (D, listOf (refs ds).toArray nd) :: news) →
      wpAny (model prog w) A (execs body env) (SortStep h₀ env.locals I D it x stored m₀ news q ds { s with heap := h, toks := tk }) E { s with heap := h, toks := tk })
    (done : ∀ (u : Str → Option Value) (ds : List Q4) (h : Heap) (tk nd : Nat), (∀ p ∈ news, p.1 ≠ D) → keys ds = isort (keys rs) → (∀ p ∈ ds, p ∈ rs) → Fr h₀ env.locals h (fun y => if stored.contains y then u y else m₀ y) → News h₀ env.locals h ((D, listOf (refs ds).toArray nd) :: news) → Q .next { s with heap := h, toks := tk }) :
    wpAny (model prog w) A (pyIter (.ref R)) (fun it s₂ => LoopAtV prog w A h₀ env x body Q E it s₂) E s :=
  iter_listUnr hh F N (List.mem_cons_of_mem _ hm) rfl rfl fun I l1 =>
    have hID : I ≠ D := fun e => absurd (l1 _ (List.mem_cons_self ..)) (e ▸ Nat.lt_irrefl _)
    rest_sort (lp := (R, listOf (refs rs).toArray n)) hID (fun p hp => Nat.ne_of_lt (l1 p (List.mem_cons_of_mem _ hp))) hm hx
      (fun it ds q u h tk nd => turn I it ds q u h tk nd (fun p hp => l1 p (List.mem_cons_of_mem _ hp)) hID (fun p hp => Nat.ne_of_lt (hD p hp)))
      (fun u ds h tk nd => done u ds h tk nd fun p hp => Nat.ne_of_lt (hD p hp)) rs [] [] m₀ nd rfl rfl (fun _ h => nomatch h) fun _ _ => rfl

theorem whl_down {L : Addr} {aN : Str} {test : PySem.Expr} {body orelse : List Stmt} {ds : List Q4} {x : Int} {m : Str → Option Value} {news : List (Addr × Obj)} (hE : PassesOwn (model prog w) A env E)
    (step : ∀ (Q : Flow → Shared → Prop) (at' : Nat) (t : Tok) (h : Heap) (tk k : Nat), at' ≤ ds.length → Fr h₀ L h (fun y => if y = aN then some (.int (at' : Int) t) else m y) → News h₀ L h news →
      (∀ (j : Nat) (p : Q4) (z : Int) (t : Tok) (m' : Str → Option Value) (h : Heap) (tk : Nat), at' = j + 1 → ds[j]? = some p → x < p.2.1 → z = (j : Int) → Fr h₀ L h m' → (∀ y, m' y = if y = aN then some (.int z t) else m y) → News h₀ L h news → WhlRest prog w A E env test body orelse Q k { s with heap := h, toks := tk }) →
      ((at' = 0 ∨ ∃ j p, at' = j + 1 ∧ ds[j]? = some p ∧ p.2.1 ≤ x) → ∀ (h : Heap) (tk : Nat), Fr h₀ L h (fun y => if y = aN then some (.int (at' : Int) t) else m y) → News h₀ L h news → Q .next { s with heap := h, toks := tk }) →
      wpAny (model prog w) A (isTrue test env (eval test env)) (fun b s₂ => WhlIf b (wpAny (model prog w) A (execs body env) (WhlPost prog w A E env test body orelse Q k) E s₂) (wpAny (model prog w) A (execs orelse env) Q E s₂)) E { s with heap := h, toks := tk })
    (fin : ∀ (at' : Nat) (t : Tok) (h : Heap) (tk : Nat), at' ≤ ds.length → (∀ i p, at' ≤ i → ds[i]? = some p → x < p.2.1) → (at' = 0 ∨ ∃ j p, at' = j + 1 ∧ ds[j]? = some p ∧ p.2.1 ≤ x) →
      Fr h₀ L h (fun y => if y = aN then some (.int (at' : Int) t) else m y) → News h₀ L h news → Q .next { s with heap := h, toks := tk }) :
    ∀ (at' : Nat) (t : Tok) (h : Heap) (tk : Nat), at' ≤ ds.length → (∀ i p, at' ≤ i → ds[i]? = some p → x < p.2.1) → Fr h₀ L h (fun y => if y = aN then some (.int (at' : Int) t) else m y) → News h₀ L h news →
      WhlRest prog w A E env test body orelse Q (at' + 1) { s with heap := h, toks := tk } := by
  intro at'
  induction at' with
  | zero =>
    intro t h tk h1 h2 F N
    exact whl_turn hE (step Q 0 t h tk 0 h1 F N (fun j p z t m' h tk e => nomatch e) fun h3 h tk F N => fin 0 t h tk h1 h2 h3 F N)
  | succ j ih =>
    intro t h tk h1 h2 F N
    refine whl_turn hE (step Q (j + 1) t h tk (j + 1) h1 F N (fun j' p z t m' h tk e hp hx hz F hm N => ?_) fun h3 h tk F N => fin (j + 1) t h tk h1 h2 h3 F N)
    cases e
    subst hz
    refine ih t h tk (by omega) (fun i p' hi hp' => ?_) ((funext hm : m' = _) ▸ F) N
    by_cases hij : i = j
    · subst hij; rw [hp] at hp'; cases hp'; exact hx
    · exact h2 i p' (by omega) hp'
end
section
variable {prog : Program} {w : World} {A : Around} {E : Value → Shared → Prop} {s : Shared}
theorem mem_out {α : Type} {a : α} {l : List α} (h : a ∈ l) : List.Mem a l := h
theorem Stop.mk {P : Prop} (h : P) : Stop P := h
theorem Stop.out {P : Prop} (h : Stop P) : P := h
theorem gt_yes {a b : Int} {t u : Tok} {Q : Value → Shared → Prop} (e : b < a) (h : Q (.bool true) s) : wpAny (model prog w) A (compareOp .Gt (.int a t) (.int b u)) Q E s := by
  refine PyProof.Rows.gt_int ?_
  rw [decide_eq_true e]; exact h
theorem gt_no {a b : Int} {t u : Tok} {Q : Value → Shared → Prop} (e : a ≤ b) (h : Q (.bool false) s) : wpAny (model prog w) A (compareOp .Gt (.int a t) (.int b u)) Q E s := by
  refine PyProof.Rows.gt_int ?_
  rw [decide_eq_false (Int.not_lt.mpr e)]; exact h
theorem news_up {h₀ h h' : Heap} {L : Addr} {news : List (Addr × Obj)} (N : News h₀ L h news) (G : ∀ b o, h.get? b = some o → h'.get? b = some o) : News h₀ L h' news := fun p hp => ⟨G _ _ (N p hp).1, (N p hp).2⟩
theorem b_false {b : Bool} {p : Prop} (h : b = true ↔ p) (n : ¬ p) : b = false := by cases b <;> simp_all
/-- an item of a list of the ledger at a place known -/
theorem item_nat {h₀ : Heap} {L : Addr} {news : List (Addr × Obj)} {value slice : PySem.Expr} {l : Addr} {vs : List Value} {n : Nat} {k : Int} {j : Nat} {u : Tok} {v : Value} {Q : Value → Shared → Prop}
    (N : News h₀ L s.heap news) (hm : (l, listOf vs.toArray n) ∈ news) (hx : vs[j]? = some v) (hk : k = (j : Int)) (hhi : j < 2 ^ 62) (h : Q v s)
    (hs : subscripted slice false (.ref l) (.int k u) = operate [.ref l, .int k u] (getItem (.ref l) (.int k u))) :
    wpAny (model prog w) A (subscriptTail value slice (.ref l) (.int k u)) Q E s := by
  subst hk
  exact item_lit N hm (Int.natCast_nonneg _) (by omega) (by simpa using hx) h hs
end
section
variable {prog : Program} {w : World} {A : Around} {E : Value → Shared → Prop} {s : Shared} {h₀ : Heap} {L : Addr} {m : Str → Option Value}
theorem fitsI {k : Nat} (h : k ≤ 100) : Builtin.List.listFitsIndex (k : Int) = true := by
  unfold Builtin.List.listFitsIndex
  simp only [Bool.and_eq_true, decide_eq_true_eq]
  omega
theorem insert_led {I D : Addr} {it : Obj} {news : List (Addr × Obj)} {ds : List Q4} {q : Q4} {k nd : Nat} {u : Tok} {Q : Value → Shared → Prop} (F : Fr h₀ L s.heap m) (N : News h₀ L s.heap ((I, it) :: (D, listOf (refs ds).toArray nd) :: news)) (hID : @Ne Nat I D)
    (hoff : ∀ p ∈ news, p.1 ≠ D) (hk : k ≤ ds.length) (hl : ds.length ≤ 100) (h : ∀ h', Fr h₀ L h' m → News h₀ L h' ((I, it) :: (D, listOf (refs (insQ q k ds)).toArray (nd + 1)) :: news) → Q .none { s with heap := h' }) :
    wpAny (model prog w) A (call (.builtin "list.insert") [.ref D, .int (k : Int) u, .ref q.1]) Q E s :=
  kl_insert F N (fitsI (Nat.le_trans hk hl)) (refs_insQ hk) (Upd.tail hID (Upd.head hoff)) (Nat.le_trans (by show (refs ds).length ≤ 100; rw [refs_length]; exact hl) (by decide)) h
theorem fr_over {a : Str} {v v' : Option Value} {m : Str → Option Value} : ∀ y, (if y = a then v else if y = a then v' else m y) = if y = a then v else m y := by
  intro y; split <;> rfl
theorem fr_out {a b : Str} {v v2 : Option Value} {u m₀ : Str → Option Value} : ∀ y, y ≠ b → [a, b].contains y = false → (fun y => if y = a then v else if y = b then v2 else if [a, b].contains y then u y else m₀ y) y = m₀ y := by
  intro y hb hc
  have ha : y ≠ a := fun e => by subst e; simp at hc
  simp only [if_neg ha, if_neg hb, hc]
  rfl
end
end Mine
namespace Mine
def vals (l : List Q4) : List Value := l.map fun q => .int q.2.1 q.2.2.1
theorem vals_ints : ∀ (l : List Q4), IntsAre (vals l) (keys l)
  | [] => .nil
  | _ :: r => .cons _ _ (vals_ints r)
theorem vals_length (l : List Q4) : (vals l).length = l.length := List.length_map ..
theorem rowsAre_all {news : List (Addr × Obj)} : ∀ {ds : List Q4}, (∀ q ∈ ds, (q.1, rowObj q) ∈ news) → RowsAre news (refs ds) (vals ds)
  | [], _ => .nil
  | q :: r, h => RowsAre.cons (vs := [.int q.2.1 q.2.2.1]) (h q (List.mem_cons_self ..)) (rowsAre_all fun p hp => h p (List.mem_cons_of_mem _ hp))
theorem rowsAre_of {news : List (Addr × Obj)} {ds rs : List Q4} (hd : ∀ p ∈ ds, p ∈ rs) (h : ∀ q ∈ rs, (q.1, rowObj q) ∈ news) : RowsAre news (refs ds) (vals ds) := rowsAre_all fun q hq => h q (hd q hq)
theorem sorted_len {ds rs : List Q4} (h : keys ds = isort (keys rs)) : ds.length = rs.length := by rw [← keys_length, h, isort_length, keys_length]
theorem vals_fit {ds rs : List Q4} (h : keys ds = isort (keys rs)) (hr : rs.length ≤ 100) : (vals ds).length ≤ sizeLine := by
  rw [vals_length, sorted_len h]; exact Nat.le_trans hr (by decide)
theorem vals_sorted {ds rs : List Q4} {xs : List Int} (h : keys ds = isort (keys rs)) (e : keys rs = xs) : IntsAre (vals ds) (isort xs) := e ▸ h ▸ vals_ints ds
theorem off1_of {h₀ h : Heap} {L D : Addr} : ∀ {l : List (Addr × Obj)}, News h₀ L h l → h.get? D = none → LCg.Off1 D l
  | [], _, _ => trivial
  | p :: r, N, e => ⟨fun x => by
      have h1 := (N p (List.mem_cons_self ..)).1
      rw [x, e] at h1
      exact (nomatch h1), off1_of (fun q hq => N q (List.mem_cons_of_mem _ hq)) e⟩
theorem news_add {h₀ h h' : Heap} {L : Addr} {news new : List (Addr × Obj)} (N' : News h₀ L h' new) (N : News h₀ L h news) (G : ∀ b o, h.get? b = some o → h'.get? b = some o) : News h₀ L h' (new ++ news) := fun p hp => by
  rcases List.mem_append.mp hp with hp | hp
  · exact N' p hp
  · exact news_up N G p hp
theorem sub_ne {D : Addr} {l ex : List (Addr × Obj)} (x : Lt D l) (sub : ∀ p ∈ ex, p ∈ l) : ∀ p ∈ ex, p.1 ≠ D := fun p hp => Nat.ne_of_lt (x.out p (sub p hp))
theorem sub_ne2 {B D : Addr} {l ex : List (Addr × Obj)} (lt : @LT.lt Nat instLTNat D B) (x : Lt D l) (sub : ∀ p ∈ ex, p ∈ l) : ∀ p ∈ ex, p.1 ≠ B := fun p hp => Nat.ne_of_lt (Nat.lt_trans (x.out p (sub p hp)) lt)
theorem gt_ne {B D : Addr} (lt : @LT.lt Nat instLTNat D B) : @Ne Nat B D := fun e => absurd lt (e ▸ Nat.lt_irrefl _)
structure Off (D : Addr) (l : List (Addr × Obj)) : Prop where
  out : LCg.Off1 D l
structure Srt (ds rs : List Q4) : Prop where
  k : keys ds = isort (keys rs)
  d : ∀ p ∈ ds, p ∈ rs
theorem off_of {h₀ h : Heap} {L D : Addr} {l : List (Addr × Obj)} (N : News h₀ L h l) (e : h.get? D = none) : Off D l := ⟨off1_of N e⟩
theorem off_ne {D a : Addr} {o : Obj} {l : List (Addr × Obj)} (x : Off D l) (h : (a, o) ∈ l) : @Ne Nat a D := off1_mem x.out h
theorem off_ne' {D a : Addr} {o : Obj} {l : List (Addr × Obj)} (x : Off D l) (h : (a, o) ∈ l) : @Ne Nat D a := Ne.symm (off1_mem x.out h)
theorem srt_rows {news : List (Addr × Obj)} {ds rs : List Q4} (hd : Srt ds rs) (h : ∀ q ∈ rs, (q.1, rowObj q) ∈ news) : RowsAre news (refs ds) (vals ds) := rowsAre_of hd.d h
theorem srt_fit {ds rs : List Q4} (h : Srt ds rs) (hr : rs.length ≤ 100) : (vals ds).length ≤ sizeLine := vals_fit h.k hr
theorem srt_vals {ds rs : List Q4} {xs : List Int} (h : Srt ds rs) (e : keys rs = xs) : IntsAre (vals ds) (isort xs) := vals_sorted h.k e
end Mine
namespace Mine
section
variable {prog : Program} {w : World} {A A₀ : Around} {s : Shared} {K : Frag} {L : Addr} {h₀ base : Heap} {m mg mb : Str → Option Value} {news : List (Addr × Obj)} {p : Program} {loose : List Str} {mean : ExcName → Option Value}
/-- the entry of a def with cells that tells what of the caller's heap lies in the ground -/
theorem code_defCF {env : Env} {outer : List Env} {R : Result → Shared → Prop} {name qual : Str} {params : Arguments} {body : List Stmt} {scope : Scope} {dV kV doc pm cdv ct oc : Value} {an od : Option Addr} {osl : Array (Option Value)} {f : Addr} {args : Args} {binds : List (Str × Value)}
    (B : Below A₀ base outer h₀) (F : Fr h₀ L s.heap m) (X₀ : K.In h₀) (N : News h₀ L s.heap news) (T : Top p loose mean mg mb h₀) (hA : A.frames = some (env :: outer)) (hf : env.frame = some L) (hke : env.scope.kind = .function)
    (ho : K.lookup f = some ⟨oc, od, .func (fnOf name qual params body scope dV kV doc pm an cdv ct), osl⟩) (hcd : codeIn K cdv qual = true) (hroom : A.depth < recursionLimit)
    (hbind : BindsTo s (fnOf name qual params body scope dV kV doc pm an cdv ct) args binds) (hkind : (binds.all fun y => scope.names.lookup y.1 == some .local || scope.names.lookup y.1 == some .cell) = true)
    (hnd : ((cellsFrom 0 scope.names []).map (·.1)).Nodup)
    (h : ∀ g L' h₁ tk cells, Fr h₀ L g m → Fr g L' h₁ (bindL (envOfC qual scope L' f cdv).kindOf binds fun _ => none) → News g L' h₁ (cells ++ news) →
      CellsAre (bindC (envOfC qual scope L' f cdv).kindOf binds fun _ => none) (cellsFrom (L' + 1) scope.names []) cells → Below A base (env :: outer) g → K.In g → Top p loose mean mg mb g → (∀ p ∈ news, p.1 < L') → KeepFrom s.heap news g →
      wpAny (model prog w) (A.deeper (envOfC qual scope L' f cdv)) (execs body (envOfC qual scope L' f cdv))
        (fun fl s' => LeaveK h₀ L m g R (match fl with | .ret v => v | _ => .none) s')
        (fun e s' => wpAny (model prog w) (A.deeper (envOfC qual scope L' f cdv)) (leaving (envOfC qual scope L' f cdv) e) (fun _ s'' => R (.error e) s'') (fun e' s'' => R (.error e') s'') s')
        { s with heap := h₁, toks := tk })
    (hco : scope.isCoroutine = false) (hgen : scope.isGenerator = false) (hk : scope.kind = .function) : codeAny (model prog w) A (.call (.ref f) args) R s := by
  obtain ⟨FG, BG, st, lv⟩ := groundX (R := R) B F N hA hf hke
  have XS := X₀.keeps F.keep
  refine codeAny_call_function hroom (XS _ _ ho) rfl hco hgen rfl (codeRec_of XS hcd) (hbind _ _ _ _ ?_)
  refine wpAny_newFunctionEnv_cells hk (kindsX hkind _) fun env' he s' x => ?_
  subst he
  have up := x.toInCall.keep
  refine ⟨(T.nolimit.keeps F.keep).keeps up, codeAny_func ?_⟩
  obtain ⟨h₁, tk, rfl, _⟩ := x.done
  obtain ⟨cells, NC, Y⟩ := Cl.news (h₀ := s.heap) (Nat.le_refl _) fun n c hm => ⟨x.cell n c (lookup_of_mem_nodup (cellsFrom_names scope.names 0 (s.heap.objs.size + 1) [] [] rfl ▸ hnd) hm), x.above n c hm⟩
  have FC : Fr (hideAll s.heap (news.map (·.1))) s.heap.objs.size h₁ (bindL (envOfC qual scope s.heap.objs.size f cdv).kindOf binds fun _ => none) :=
    ⟨x.toInCall.ns, fun b o e => up b o (of_hideAll _ e), Nat.le_of_eq (hideAll_size _ _)⟩
  have KG : KeepFrom s.heap news (hideAll s.heap (news.map (·.1))) := fun b o e => by
    by_cases hb : b ∈ news.map (·.1)
    · exact .inl hb
    · exact .inr (hideAll_get _ e hb)
  have NN : News (hideAll s.heap (news.map (·.1))) s.heap.objs.size h₁ (cells ++ news) := fun p hp => by
    rcases List.mem_append.mp hp with hp | hp
    · have q := NC p hp
      refine ⟨q.1, q.2.1, ?_⟩
      cases e : (hideAll s.heap (news.map (·.1))).get? p.1 with
      | none => rfl
      | some o => exact absurd ((of_hideAll _ e).symm.trans q.2.2) (fun z => nomatch z)
    · exact ⟨up _ _ (N p hp).1, Nat.ne_of_lt (Heap.lt_size (N p hp).1), hideAll_none _ (List.mem_map_of_mem hp)⟩
  exact wpAny_mono (h _ _ h₁ tk cells FG FC NN Y BG (X₀.keeps st) (T.keeps st) (fun p hp => Heap.lt_size (N p hp).1) KG) (fun fl s' hl => lv _ _ hl) fun _ _ y => y
end
theorem drop_after3 {h₀ h : Heap} {L : Addr} {a b c : Addr × Obj} {l : List (Addr × Obj)} (k : Nat) (N : News h₀ L h (a :: b :: c :: l)) : News h₀ L h (a :: b :: c :: l.drop k) := fun p hp => N p (by
  rcases List.mem_cons.mp hp with rfl | hp
  · exact List.mem_cons_self ..
  rcases List.mem_cons.mp hp with rfl | hp
  · exact .tail _ (.head _)
  rcases List.mem_cons.mp hp with rfl | hp
  · exact .tail _ (.tail _ (.head _))
  exact .tail _ (.tail _ (.tail _ (List.mem_of_mem_drop hp))))
theorem drop_inst {h₀ h : Heap} {L B dB : Addr} {o : Obj} {l : List (Addr × Obj)} (N : News h₀ L h ((B, instObj 180 dB) :: (dB, o) :: l)) : News h₀ L h l := fun p hp => N p (.tail _ (.tail _ hp))
structure IsS (xs ys : List Int) : Prop where
  out : isort xs = ys
theorem ints1 {vs : List Value} {x0 : Int} (h : IntsAre vs (isort [x0])) : ∃ y0 t0, vs = [.int y0 t0] ∧ IsS [x0] [y0] := by
  generalize hz : isort [x0] = ys at h
  have hl : ys.length = 1 := by rw [← hz, isort_length]; rfl
  cases h with
  | nil => cases hl
  | cons _ _ h => cases h with
    | nil => exact ⟨_, _, rfl, ⟨hz⟩⟩
    | cons _ _ h => simp at hl
theorem ints2 {vs : List Value} {x0 x1 : Int} (h : IntsAre vs (isort [x0, x1])) : ∃ y0 y1 t0 t1, vs = [.int y0 t0, .int y1 t1] ∧ IsS [x0, x1] [y0, y1] := by
  generalize hz : isort [x0, x1] = ys at h
  have hl : ys.length = 2 := by rw [← hz, isort_length]; rfl
  cases h with
  | nil => cases hl
  | cons _ _ h => cases h with
    | nil => cases hl
    | cons _ _ h => cases h with
      | nil => exact ⟨_, _, _, _, rfl, ⟨hz⟩⟩
      | cons _ _ h => simp at hl
theorem ints3 {vs : List Value} {x0 x1 x2 : Int} (h : IntsAre vs (isort [x0, x1, x2])) : ∃ y0 y1 y2 t0 t1 t2, vs = [.int y0 t0, .int y1 t1, .int y2 t2] ∧ IsS [x0, x1, x2] [y0, y1, y2] := by
  generalize hz : isort [x0, x1, x2] = ys at h
  have hl : ys.length = 3 := by rw [← hz, isort_length]; rfl
  cases h with
  | nil => cases hl
  | cons _ _ h => cases h with
    | nil => cases hl
    | cons _ _ h => cases h with
      | nil => cases hl
      | cons _ _ h => cases h with
        | nil => exact ⟨_, _, _, _, _, _, rfl, ⟨hz⟩⟩
        | cons _ _ h => simp at hl
theorem ints4 {vs : List Value} {x0 x1 x2 x3 : Int} (h : IntsAre vs (isort [x0, x1, x2, x3])) : ∃ y0 y1 y2 y3 t0 t1 t2 t3, vs = [.int y0 t0, .int y1 t1, .int y2 t2, .int y3 t3] ∧ IsS [x0, x1, x2, x3] [y0, y1, y2, y3] := by
  generalize hz : isort [x0, x1, x2, x3] = ys at h
  have hl : ys.length = 4 := by rw [← hz, isort_length]; rfl
  cases h with
  | nil => cases hl
  | cons _ _ h => cases h with
    | nil => cases hl
    | cons _ _ h => cases h with
      | nil => cases hl
      | cons _ _ h => cases h with
        | nil => cases hl
        | cons _ _ h => cases h with
          | nil => exact ⟨_, _, _, _, _, _, _, _, rfl, ⟨hz⟩⟩
          | cons _ _ h => simp at hl
section
variable {prog : Program} {w : World} {A : Around} {E : Value → Shared → Prop} {s : Shared}
theorem ne_yes {h₀ : Heap} {L a b : Addr} {news : List (Addr × Obj)} {x : Int} {t : Tok} {vs : List Value} {ns : List Int} {n k : Nat} {Q : Value → Shared → Prop} (N : News h₀ L s.heap news) (ha : (a, listOf (.int x t :: vs).toArray n) ∈ news) (hi : IntsAre vs ns) (hb : (b, listOf ([] : List Value).toArray k) ∈ news) (hu : A.units + 64 < cLine)
    (h : Q (.bool true) s) : wpAny (model prog w) A (compareOp .NotEq (.ref a) (.ref b)) Q E s :=
  ne_intsK (vs := .int x t :: vs) (us := []) (ns := x :: ns) (ms := []) ⟨_, (N _ ha).1, rfl, n, rfl⟩ (.cons _ _ hi) ⟨_, (N _ hb).1, rfl, k, rfl⟩ .nil hu (by simpa using h)
theorem ne_no {h₀ : Heap} {L a b : Addr} {news : List (Addr × Obj)} {n k : Nat} {Q : Value → Shared → Prop} (N : News h₀ L s.heap news) (ha : (a, listOf ([] : List Value).toArray n) ∈ news) (hb : (b, listOf ([] : List Value).toArray k) ∈ news) (hu : A.units + 64 < cLine)
    (h : Q (.bool false) s) : wpAny (model prog w) A (compareOp .NotEq (.ref a) (.ref b)) Q E s :=
  ne_intsK (vs := []) (us := []) (ns := []) (ms := []) ⟨_, (N _ ha).1, rfl, n, rfl⟩ .nil ⟨_, (N _ hb).1, rfl, k, rfl⟩ .nil hu (by simpa using h)
end
theorem sa_news {h₀ h h' : Heap} {L : Addr} {a b c : Addr × Obj} {l : List (Addr × Obj)} (k : Nat) (N' : News h₀ L h' [a, b, c]) (N : News h₀ L h l) (G : ∀ b o, h.get? b = some o → h'.get? b = some o) : News h₀ L h' (a :: b :: c :: l.drop k) :=
  drop_after3 k (news_add N' N G)
end Mine
namespace Mine
/-- every g-th item from the b-th on -/
def pick (b g : Int) (vs : List Value) : List Value := (slicePick vs.toArray (some b) none (some g)).toList
theorem pick_eq {b c g : Int} {vs : List Value} (h : b = c) : (slicePick vs.toArray (some b) none (some g)).toList = pick c g vs := by subst h; rfl

abbrev J3 := Addr × List Value × Nat
abbrev T4 := Addr × List Value × List Int × Nat
def jled (js : List J3) : List (Addr × Obj) := js.map fun j => (j.1, listOf j.2.1.toArray j.2.2)
def jrefs (js : List J3) : List Value := js.map fun j => .ref j.1
inductive JAre : List J3 → List T4 → Prop
  | nil : JAre [] []
  | snoc {js : List J3} {qs : List T4} {j : J3} {q : T4} : JAre js qs → IntsAre j.2.1 (isort q.2.2.1) → JAre (js ++ [j]) (qs ++ [q])
theorem JAre.length {js : List J3} {qs : List T4} (h : JAre js qs) : js.length = qs.length := by
  induction h with
  | nil => rfl
  | snoc _ _ ih => simp [ih]
theorem JAre.get {js : List J3} {qs : List T4} (h : JAre js qs) : ∀ {i : Nat} {q : T4}, qs[i]? = some q → ∃ j, js[i]? = some j ∧ IntsAre j.2.1 (isort q.2.2.1) := by
  induction h with
  | nil => intro i q e; simp at e
  | @snoc js qs j q' h1 h2 ih =>
    intro i q e
    have hl := h1.length
    by_cases hi : i < qs.length
    · rw [List.getElem?_append_left hi] at e
      obtain ⟨j', e', h'⟩ := ih e
      exact ⟨j', by rw [List.getElem?_append_left (by omega)]; exact e', h'⟩
    · have hi' : i = qs.length := by
        have := (List.getElem?_eq_some_iff.mp e).1
        simp at this; omega
      subst hi'
      simp at e
      subst e
      exact ⟨j, by rw [← hl]; simp, h2⟩
theorem jrefs_get {js : List J3} {i : Nat} {j : J3} (h : js[i]? = some j) : (jrefs js)[i]? = some (.ref j.1) := by simp [jrefs, h]
theorem jled_mem {js : List J3} {i : Nat} {j : J3} (h : js[i]? = some j) : (j.1, listOf j.2.1.toArray j.2.2) ∈ jled js := List.mem_map.mpr ⟨j, List.mem_of_getElem? h, rfl⟩
theorem ints_get {vs : List Value} {ns : List Int} (h : IntsAre vs ns) {i : Nat} {y : Int} (e : ns[i]? = some y) : ∃ t, vs[i]? = some (.int y t) := h.get i y e

section
variable {prog : Program} {w : World} {A : Around} {E : Value → Shared → Prop} {s : Shared} {h₀ : Heap} {L : Addr} {m : Str → Option Value} {env : Env}

/-- a turn's end: one new object is kept -/
theorem end_new {I C D : Addr} {s₁ : Shared} {oI oC oD : Obj} {S : List (Addr × Obj) → Prop} {rest : Value → List (Addr × Obj) → Prop} {y : Value} {h' : Heap} {tk : Nat} {p : Addr × Obj} {l : List (Addr × Obj)}
    (F : Fr h₀ L h' m) (N : News h₀ L h' (p :: (I, oI) :: (C, oC) :: (D, oD) :: l)) (off : LCg.Off3 I C D l) (h1 : p.1 ≠ I) (h2 : p.1 ≠ C) (h3 : p.1 ≠ D) (hS : S (p :: l)) (r : rest y (p :: l)) :
    LCg.CompEnd h₀ L m s₁ I oI C oC D oD S rest y { s₁ with heap := h', toks := tk } :=
  LCg.CompEnd.intro F N (p :: l) (fun q hq => by
    rcases List.mem_cons.mp hq with rfl | hq
    · exact .tail _ (.head _)
    rcases List.mem_cons.mp hq with rfl | hq
    · exact .tail _ (.tail _ (.head _))
    rcases List.mem_cons.mp hq with rfl | hq
    · exact .tail _ (.tail _ (.tail _ (.head _)))
    rcases List.mem_cons.mp hq with rfl | hq
    · exact .head _
    · exact .tail _ (.tail _ (.tail _ (.tail _ hq)))) ⟨⟨h1, h2, h3⟩, off⟩ hS r

def EltEnd (h₀ : Heap) (L : Addr) (m : Str → Option Value) (s₁ : Shared) (I : Addr) (oI : Obj) (C : Addr) (oC : Obj) (D : Addr) (oD : Obj) (news : List (Addr × Obj)) (xs : List Int) (v : Value) (s₂ : Shared) : Prop :=
  ∃ J vs nJ h' tk, v = .ref J ∧ s₂ = { s₁ with heap := h', toks := tk } ∧ Fr h₀ L h' m ∧ News h₀ L h' ((I, oI) :: (C, oC) :: (D, oD) :: (J, listOf vs.toArray nJ) :: news) ∧ Off J ((I, oI) :: (C, oC) :: (D, oD) :: news) ∧ IntsAre vs (isort xs)
theorem EltEnd.intro {s₁ : Shared} {I C D J : Addr} {oI oC oD : Obj} {news : List (Addr × Obj)} {xs : List Int} {vs : List Value} {nJ tk : Nat} {h' : Heap} {b d : Addr × Obj} (F : Fr h₀ L h' m)
    (N : News h₀ L h' (b :: d :: (J, listOf vs.toArray nJ) :: (I, oI) :: (C, oC) :: (D, oD) :: news)) (O : Off J ((I, oI) :: (C, oC) :: (D, oD) :: news)) (hi : IntsAre vs (isort xs)) :
    EltEnd h₀ L m s₁ I oI C oC D oD news xs (.ref J) { s₁ with heap := h', toks := tk } :=
  ⟨J, vs, nJ, h', tk, rfl, rfl, F, fun q hq => N q (by
    rcases List.mem_cons.mp hq with rfl | hq
    · exact .tail _ (.tail _ (.tail _ (.head _)))
    rcases List.mem_cons.mp hq with rfl | hq
    · exact .tail _ (.tail _ (.tail _ (.tail _ (.head _))))
    rcases List.mem_cons.mp hq with rfl | hq
    · exact .tail _ (.tail _ (.tail _ (.tail _ (.tail _ (.head _)))))
    rcases List.mem_cons.mp hq with rfl | hq
    · exact .tail _ (.tail _ (.head _))
    · exact .tail _ (.tail _ (.tail _ (.tail _ (.tail _ (.tail _ hq)))))), O, hi⟩

def NoEnd (h₀ : Heap) (L : Addr) (m : Str → Option Value) (s₁ : Shared) (I : Addr) (oI : Obj) (C : Addr) (oC : Obj) (D : Addr) (oD : Obj) (news : List (Addr × Obj)) (s₂ : Shared) : Prop :=
  ∃ h' tk, s₂ = { s₁ with heap := h', toks := tk } ∧ Fr h₀ L h' m ∧ News h₀ L h' ((I, oI) :: (C, oC) :: (D, oD) :: news)

theorem off_drop {D : Addr} {a b c : Addr × Obj} {l : List (Addr × Obj)} (k : Nat) (x : Off D (a :: l)) : Off D l := ⟨x.out.2⟩
theorem off_mem {D : Addr} {l : List (Addr × Obj)} (x : Off D l) : ∀ p ∈ l, p.1 ≠ D := fun p hp => off1_mem x.out (show (p.1, p.2) ∈ l from hp)
theorem off3_of {I C D J : Addr} {oI oC oD : Obj} {l : List (Addr × Obj)} {o : Obj} (x : Off J ((I, oI) :: (C, oC) :: (D, oD) :: l)) (y : LCg.Off3 I C D l) : LCg.Off3 I C D ((J, o) :: l) :=
  ⟨⟨Ne.symm (off_mem x _ (.head _)), Ne.symm (off_mem x _ (.tail _ (.head _))), Ne.symm (off_mem x _ (.tail _ (.tail _ (.head _))))⟩, y⟩

theorem off3_perm {I C D : Addr} : ∀ {l l' : List (Addr × Obj)}, (∀ p ∈ l', p ∈ l) → LCg.Off3 I C D l → LCg.Off3 I C D l'
  | _, [], _, _ => trivial
  | l, p :: r, h, x => ⟨x.mem p (h p (List.mem_cons_self ..)), off3_perm (fun q hq => h q (List.mem_cons_of_mem _ hq)) x⟩

def full (q : T4) : Bool := !q.2.2.1.isEmpty

theorem comp2 {ct elt : PySem.Expr} {x : Str} {scope : Scope} {cl : List (Str × Addr)} {ax : Addr} {its : List Value} {lots : List T4} {news : List (Addr × Obj)} {Fin : List Value → List (Addr × Obj) → Prop}
    (hits : its = lots.map fun q => .ref q.1) (hsrc : LCg.SrcAt h₀ ax its.toArray news)
    (turn : ∀ (q : T4) (I : Addr) (oI : Obj) (C : Addr) (oC : Obj) (D : Addr) (oD : Obj) (m₂ : Str → Option Value) (h : Heap) (tk : Nat) (E' : Value → Shared → Prop) (all : List (Addr × Obj)), q ∈ lots → q.2.2.1 ≠ [] → (∀ p ∈ news, p ∈ all) →
      LCg.NsObj oC m₂ → m₂ x = some (.ref q.1) → Fr h₀ L h m → News h₀ L h ((I, oI) :: (C, oC) :: (D, oD) :: all) → LCg.Off3 I C D all → ((@Ne Nat I C) ∧ (@Ne Nat I D) ∧ (@Ne Nat C D)) →
      wpAny (model prog w) A (isTrue ct (compEnvC scope cl C env) (eval ct (compEnvC scope cl C env))) (fun ok s' => if ok = true then
        wpAny (model prog w) A (eval elt (compEnvC scope cl C env)) (EltEnd h₀ L m { s with heap := h, toks := tk } I oI C oC D oD all q.2.2.1) E' s' else False) E' { s with heap := h, toks := tk })
    (turn0 : ∀ (q : T4) (I : Addr) (oI : Obj) (C : Addr) (oC : Obj) (D : Addr) (oD : Obj) (m₂ : Str → Option Value) (h : Heap) (tk : Nat) (E' : Value → Shared → Prop) (all : List (Addr × Obj)), q ∈ lots → q.2.2.1 = [] → (∀ p ∈ news, p ∈ all) →
      LCg.NsObj oC m₂ → m₂ x = some (.ref q.1) → Fr h₀ L h m → News h₀ L h ((I, oI) :: (C, oC) :: (D, oD) :: all) → LCg.Off3 I C D all → ((@Ne Nat I C) ∧ (@Ne Nat I D) ∧ (@Ne Nat C D)) →
      wpAny (model prog w) A (isTrue ct (compEnvC scope cl C env) (eval ct (compEnvC scope cl C env))) (fun ok s' => if ok = true then False else NoEnd h₀ L m { s with heap := h, toks := tk } I oI C oC D oD all s') E' { s with heap := h, toks := tk })
    (fin : ∀ js, JAre js (lots.filter full) → (∀ j ∈ js, ∀ p ∈ news, p.1 ≠ j.1) → Fin (jrefs js) (jled js ++ news)) :
    ∀ (todo dn : List T4) (js : List J3) (i : Nat), lots = dn ++ todo → i = dn.length → JAre js (dn.filter full) → (∀ j ∈ js, ∀ p ∈ news, p.1 ≠ j.1) →
      LCt.CompRestT prog w A h₀ L m env ct elt x scope cl s (LCg.SrcAt h₀ ax its.toArray) (fun i v => its.toArray[i]? = some v) Fin todo.length i (jrefs js) (jled js ++ news)
  | [], dn, js, i, e, ei, hj, ho => by
    rw [List.append_nil] at e
    subst e
    exact fin js hj ho
  | q :: todo, dn, js, i, e, ei, hj, ho => by
    have hq : q ∈ lots := e ▸ List.mem_append_right _ (List.mem_cons_self ..)
    refine LCt.CompRestT.succ fun v I oI C oC D m₂ h tk E' hv hC hx F N off ne => ?_
    have hqv : v = .ref q.1 := by
      rw [hits, e, ei] at hv
      simp at hv
      exact hv.symm
    subst hqv
    have hsub : ∀ p ∈ news, p ∈ jled js ++ news := fun p hp => List.mem_append_right _ hp
    have hS : ∀ (l : List (Addr × Obj)), (∀ p ∈ news, p ∈ l) → LCg.SrcAt h₀ ax its.toArray l := fun l hl => by
      rcases hsrc with hs | ⟨o, hm, r⟩
      · exact .inl hs
      · exact .inr ⟨o, hl _ hm, r⟩
    by_cases hz : q.2.2.1 = []
    · refine wpAny_mono (turn0 q I oI C oC D _ m₂ h tk E' _ hq hz hsub hC hx F N off ne) (fun ok s' k => ?_) fun _ _ y => y
      cases ok with
      | true => exact absurd k (by simp)
      | false =>
        have k' : NoEnd h₀ L m { s with heap := h, toks := tk } I oI C oC D (LCg.lst (jrefs js)) (jled js ++ news) s' := by simpa using k
        obtain ⟨h', tk', rfl, F', N'⟩ := k'
        simp only [Bool.false_eq_true, if_false]
        refine LCg.CompEnd.intro F' N' _ (fun p hp => hp) off (hS _ hsub) ?_
        refine comp2 hits hsrc turn turn0 fin todo (dn ++ [q]) js (i + 1) (by rw [e, List.append_assoc]; rfl) (by simp [ei]) ?_ ho
        rw [List.filter_append, show [q].filter full = [] from by simp [full, hz], List.append_nil]
        exact hj
    · refine wpAny_mono (turn q I oI C oC D _ m₂ h tk E' _ hq hz hsub hC hx F N off ne) (fun ok s' k => ?_) fun _ _ y => y
      cases ok with
      | false => exact absurd k (by simp)
      | true =>
        simp only [if_true] at k ⊢
        refine wpAny_mono k (fun v s₂ kv => ?_) fun _ _ y => y
        obtain ⟨J, vs, nJ, h', tk', rfl, rfl, F', N', O, hi⟩ := kv
        have eled : ∀ p, p ∈ jled (js ++ [(J, vs, nJ)]) ++ news ↔ p ∈ (J, listOf vs.toArray nJ) :: (jled js ++ news) := by
          intro p; simp only [jled, List.map_append, List.map_cons, List.map_nil, List.mem_append, List.mem_cons, List.not_mem_nil, or_false]
          constructor
          · rintro ((h | h) | h)
            · exact .inr (.inl h)
            · exact .inl h
            · exact .inr (.inr h)
          · rintro (h | h | h)
            · exact .inl (.inr h)
            · exact .inl (.inl h)
            · exact .inr h
        refine LCg.CompEnd.intro F' N' (jled (js ++ [(J, vs, nJ)]) ++ news) (fun p hp => ?_) (off3_perm (fun p hp => (eled p).mp hp) (off3_of O off)) (hS _ fun p hp => List.mem_append_right _ hp) ?_
        · rcases List.mem_cons.mp hp with rfl | hp
          · exact .head _
          rcases List.mem_cons.mp hp with rfl | hp
          · exact .tail _ (.head _)
          rcases List.mem_cons.mp hp with rfl | hp
          · exact .tail _ (.tail _ (.head _))
          exact .tail _ (.tail _ (.tail _ ((eled p).mp hp)))
        · have er : jrefs js ++ [Value.ref J] = jrefs (js ++ [(J, vs, nJ)]) := by simp [jrefs]
          show LCt.CompRestT prog w A h₀ L m env ct elt x scope cl s _ _ Fin todo.length (i + 1) (jrefs js ++ [Value.ref J]) _
          rw [er]
          refine comp2 hits hsrc turn turn0 fin todo (dn ++ [q]) (js ++ [(J, vs, nJ)]) (i + 1) (by rw [e, List.append_assoc]; rfl) (by simp [ei]) ?_ ?_
          · rw [List.filter_append, show [q].filter full = [q] from by simp [full, hz]]
            exact .snoc hj hi
          · intro j hjm p hp
            rcases List.mem_append.mp hjm with hjm | hjm
            · exact ho j hjm p hp
            · rw [List.mem_singleton.mp hjm]
              exact off_mem O p (.tail _ (.tail _ (.tail _ (List.mem_append_right _ hp))))

theorem comp2' {ct elt : PySem.Expr} {x : Str} {scope : Scope} {cl : List (Str × Addr)} {ax : Addr} {its : List Value} {lots : List T4} {news : List (Addr × Obj)} {Fin : List Value → List (Addr × Obj) → Prop} {k : Nat}
    (hk : k = lots.length) (hits : its = lots.map fun q => .ref q.1) (hsrc : LCg.SrcAt h₀ ax its.toArray news)
    (turn : ∀ (q : T4) (I : Addr) (oI : Obj) (C : Addr) (oC : Obj) (D : Addr) (oD : Obj) (m₂ : Str → Option Value) (h : Heap) (tk : Nat) (E' : Value → Shared → Prop) (all : List (Addr × Obj)), q ∈ lots → q.2.2.1 ≠ [] → (∀ p ∈ news, p ∈ all) →
      LCg.NsObj oC m₂ → m₂ x = some (.ref q.1) → Fr h₀ L h m → News h₀ L h ((I, oI) :: (C, oC) :: (D, oD) :: all) → LCg.Off3 I C D all → ((@Ne Nat I C) ∧ (@Ne Nat I D) ∧ (@Ne Nat C D)) →
      wpAny (model prog w) A (isTrue ct (compEnvC scope cl C env) (eval ct (compEnvC scope cl C env))) (fun ok s' => if ok = true then
        wpAny (model prog w) A (eval elt (compEnvC scope cl C env)) (EltEnd h₀ L m { s with heap := h, toks := tk } I oI C oC D oD all q.2.2.1) E' s' else False) E' { s with heap := h, toks := tk })
    (turn0 : ∀ (q : T4) (I : Addr) (oI : Obj) (C : Addr) (oC : Obj) (D : Addr) (oD : Obj) (m₂ : Str → Option Value) (h : Heap) (tk : Nat) (E' : Value → Shared → Prop) (all : List (Addr × Obj)), q ∈ lots → q.2.2.1 = [] → (∀ p ∈ news, p ∈ all) →
      LCg.NsObj oC m₂ → m₂ x = some (.ref q.1) → Fr h₀ L h m → News h₀ L h ((I, oI) :: (C, oC) :: (D, oD) :: all) → LCg.Off3 I C D all → ((@Ne Nat I C) ∧ (@Ne Nat I D) ∧ (@Ne Nat C D)) →
      wpAny (model prog w) A (isTrue ct (compEnvC scope cl C env) (eval ct (compEnvC scope cl C env))) (fun ok s' => if ok = true then False else NoEnd h₀ L m { s with heap := h, toks := tk } I oI C oC D oD all s') E' { s with heap := h, toks := tk })
    (fin : ∀ js, JAre js (lots.filter full) → (∀ j ∈ js, ∀ p ∈ news, p.1 ≠ j.1) → Fin (jrefs js) (jled js ++ news)) :
    LCt.CompRestT prog w A h₀ L m env ct elt x scope cl s (LCg.SrcAt h₀ ax its.toArray) (fun i v => its.toArray[i]? = some v) Fin k 0 [] news := by
  subst hk
  exact comp2 hits hsrc turn turn0 fin lots [] [] 0 rfl rfl .nil fun _ h => nomatch h

def ItemEnd (h₀ : Heap) (L : Addr) (m : Str → Option Value) (s₁ : Shared) (I : Addr) (oI : Obj) (C : Addr) (oC : Obj) (D : Addr) (oD : Obj) (news : List (Addr × Obj)) (v : Value) (y : Value) (s₂ : Shared) : Prop :=
  y = v ∧ ∃ h' tk, s₂ = { s₁ with heap := h', toks := tk } ∧ Fr h₀ L h' m ∧ News h₀ L h' ((I, oI) :: (C, oC) :: (D, oD) :: news)

theorem comp3 {elt : PySem.Expr} {x : Str} {scope : Scope} {cl : List (Str × Addr)} {n : Nat} {f : Nat → Value} {news : List (Addr × Obj)} {Fin : List Value → List (Addr × Obj) → Prop}
    (turn : ∀ (i : Nat) (I : Addr) (oI : Obj) (C : Addr) (oC : Obj) (D : Addr) (oD : Obj) (m₂ : Str → Option Value) (h : Heap) (tk : Nat) (t : Tok) (E' : Value → Shared → Prop), i < n →
      LCg.NsObj oC m₂ → m₂ x = some (.int (i : Int) t) → Fr h₀ L h m → News h₀ L h ((I, oI) :: (C, oC) :: (D, oD) :: news) → LCg.Off3 I C D news → ((@Ne Nat I C) ∧ (@Ne Nat I D) ∧ (@Ne Nat C D)) →
      wpAny (model prog w) A (eval elt (compEnvC scope cl C env)) (ItemEnd h₀ L m { s with heap := h, toks := tk } I oI C oC D oD news (f i)) E' { s with heap := h, toks := tk })
    (fin : Fin ((List.range n).map f) news) :
    ∀ (k i : Nat), n = i + k → LCg.CompRest prog w A h₀ L m env elt x scope cl s (fun _ => True) (fun i v => ∃ t, v = .int (0 + (i : Int)) t) Fin k i ((List.range i).map f) news
  | 0, i, e => by
    rw [Nat.add_zero] at e
    subst e
    exact fin
  | k + 1, i, e => by
    refine LCg.CompRest.succ fun v I oI C oC D m₂ h tk E' hv hC hx F N off ne => ?_
    obtain ⟨t, rfl⟩ := hv
    rw [Int.zero_add] at hx
    refine wpAny_mono (turn i I oI C oC D _ m₂ h tk t E' (by omega) hC hx F N off ne) (fun y s₂ q => ?_) fun _ _ y => y
    obtain ⟨rfl, h', tk', rfl, F', N'⟩ := q
    refine LCg.CompEnd.intro F' N' _ (fun p hp => hp) off trivial ?_
    have := comp3 turn fin k (i + 1) (by omega)
    rw [List.range_succ, List.map_append] at this
    exact this
theorem comp3' {elt : PySem.Expr} {x : Str} {scope : Scope} {cl : List (Str × Addr)} {n : Nat} {f : Nat → Value} {news : List (Addr × Obj)} {Fin : List Value → List (Addr × Obj) → Prop}
    (turn : ∀ (i : Nat) (I : Addr) (oI : Obj) (C : Addr) (oC : Obj) (D : Addr) (oD : Obj) (m₂ : Str → Option Value) (h : Heap) (tk : Nat) (t : Tok) (E' : Value → Shared → Prop), i < n →
      LCg.NsObj oC m₂ → m₂ x = some (.int (i : Int) t) → Fr h₀ L h m → News h₀ L h ((I, oI) :: (C, oC) :: (D, oD) :: news) → LCg.Off3 I C D news → ((@Ne Nat I C) ∧ (@Ne Nat I D) ∧ (@Ne Nat C D)) →
      wpAny (model prog w) A (eval elt (compEnvC scope cl C env)) (ItemEnd h₀ L m { s with heap := h, toks := tk } I oI C oC D oD news (f i)) E' { s with heap := h, toks := tk })
    (fin : Fin ((List.range n).map f) news) : LCg.CompRest prog w A h₀ L m env elt x scope cl s (fun _ => True) (fun i v => ∃ t, v = .int (0 + (i : Int)) t) Fin n 0 [] news :=
  comp3 turn fin n 0 (by omega)
theorem range_n {n : Nat} (h : n ≤ 100) : Builtin.Range.small 0 (n : Int) 1 = true ∧ Builtin.Range.rangeSize 0 (n : Int) 1 = (n : Int) :=
  have key : ∀ k : Fin 101, Builtin.Range.small 0 ((k.val : Nat) : Int) 1 = true ∧ Builtin.Range.rangeSize 0 ((k.val : Nat) : Int) 1 = ((k.val : Nat) : Int) := by decide +kernel
  key ⟨n, Nat.lt_succ_of_le h⟩
end
end Mine

namespace Mine
structure JOff (js : List J3) (l : List (Addr × Obj)) : Prop where
  out : ∀ j ∈ js, ∀ p ∈ l, p.1 ≠ j.1
theorem jall {js : List J3} {l : List (Addr × Obj)} {c : Addr} {o : Obj} (x : JOff js l) (h : (c, o) ∈ l) : ∀ p ∈ jled js, p.1 ≠ c := fun p hp => by
  obtain ⟨j, hj, rfl⟩ := List.mem_map.mp hp
  exact Ne.symm (x.out j hj _ h)
theorem news_swap {h₀ h : Heap} {L : Addr} {d : Addr × Obj} {a b : List (Addr × Obj)} (N : News h₀ L h (d :: (a ++ b))) : News h₀ L h (d :: (b ++ a)) := fun p hp => N p (by
  rcases List.mem_cons.mp hp with rfl | hp
  · exact .head _
  · exact .tail _ (List.mem_append.mpr (List.mem_append.mp hp).symm))
theorem off1_all {D : Addr} : ∀ {l : List (Addr × Obj)}, (∀ p ∈ l, p.1 ≠ D) → LCg.Off1 D l
  | [], _ => trivial
  | p :: r, h => ⟨h p (List.mem_cons_self ..), off1_all fun q hq => h q (List.mem_cons_of_mem _ hq)⟩
theorem off_swap {D : Addr} {a b : List (Addr × Obj)} (x : LCg.Off1 D (a ++ b)) : Off D (b ++ a) := ⟨off1_all fun p hp => off_mem ⟨x⟩ p (List.mem_append.mpr (List.mem_append.mp hp).symm)⟩
def cell3 (js : List J3) (g i : Nat) : Value := ((js[i % g]?).bind fun j => j.2.1[i / g]?).getD .none
theorem cell3_eq {js : List J3} {g i : Nat} {j : J3} {v : Value} (h : js[i % g]? = some j) (e : j.2.1[i / g]? = some v) : cell3 js g i = v := by simp [cell3, h, e]
theorem up1 {vs : List Value} {ns : List Int} (h : IntsAre vs ns) (hl : ns.length = 1) : ∃ x0 t0, vs = [.int x0 t0] ∧ ns = [x0] := by
  cases h with
  | nil => cases hl
  | cons _ _ h => cases h with
    | nil => exact ⟨_, _, rfl, rfl⟩
    | cons _ _ h => simp at hl
theorem up2 {vs : List Value} {ns : List Int} (h : IntsAre vs ns) (hl : ns.length = 2) : ∃ x0 x1 t0 t1, vs = [.int x0 t0, .int x1 t1] ∧ ns = [x0, x1] := by
  cases h with
  | nil => cases hl
  | cons x t h =>
    obtain ⟨_, _, rfl, rfl⟩ := up1 h (by simpa using hl)
    exact ⟨_, _, _, _, rfl, rfl⟩
theorem up3 {vs : List Value} {ns : List Int} (h : IntsAre vs ns) (hl : ns.length = 3) : ∃ x0 x1 x2 t0 t1 t2, vs = [.int x0 t0, .int x1 t1, .int x2 t2] ∧ ns = [x0, x1, x2] := by
  cases h with
  | nil => cases hl
  | cons x t h =>
    obtain ⟨_, _, _, _, rfl, rfl⟩ := up2 h (by simpa using hl)
    exact ⟨_, _, _, _, _, _, rfl, rfl⟩
theorem up4 {vs : List Value} {ns : List Int} (h : IntsAre vs ns) (hl : ns.length = 4) : ∃ x0 x1 x2 x3 t0 t1 t2 t3, vs = [.int x0 t0, .int x1 t1, .int x2 t2, .int x3 t3] ∧ ns = [x0, x1, x2, x3] := by
  cases h with
  | nil => cases hl
  | cons x t h =>
    obtain ⟨_, _, _, _, _, _, rfl, rfl⟩ := up3 h (by simpa using hl)
    exact ⟨_, _, _, _, _, _, _, _, rfl, rfl⟩
theorem len_cases {l : List Int} (h : l ≠ []) (h4 : l.length ≤ 4) : l.length = 1 ∨ l.length = 2 ∨ l.length = 3 ∨ l.length = 4 := by
  have : l.length ≠ 0 := fun e => h (List.length_eq_zero_iff.mp e)
  omega
section
variable {prog : Program} {w : World} {A : Around} {E : Value → Shared → Prop} {s : Shared}
theorem div_lit {a b c : Int} {t u : Tok} {Q : Value → Shared → Prop} (hb : b ≠ 0) (e : a.fdiv b = c) (hs : b.natAbs < 1073741824) (h : Q (.int c s.toks) { s with toks := s.toks + 1 }) : wpAny (model prog w) A (binaryOp .FloorDiv (.int a t) (.int b u)) Q E s := by
  subst e; exact PyProof.Rows.floordiv_int hb h (Or.inl (PyProof.noPylong_small hs))
end
theorem off_dropk {D : Addr} {l l' : List (Addr × Obj)} (k : Nat) (x : Off D l) (e : l.drop k = l') : Off D l' := by
  subst e
  exact ⟨off1_all fun p hp => off_mem x p (List.mem_of_mem_drop hp)⟩
end Mine
namespace Mine
/-- the references to new objects -/
def prefs (js : List (Addr × Obj)) : List Value := js.map fun p => .ref p.1
theorem prefs_snoc (js : List (Addr × Obj)) (p : Addr × Obj) : prefs js ++ [.ref p.1] = prefs (js ++ [p]) := by simp [prefs]
theorem prefs_length (js : List (Addr × Obj)) : (prefs js).length = js.length := List.length_map ..
theorem off_lt {J : Addr} {l l' : List (Addr × Obj)} (x : Lt J l) (h : ∀ p ∈ l', p ∈ l) : Off J l' := ⟨off1_all fun p hp => Nat.ne_of_lt (x.out p (h p hp))⟩
section
variable {prog : Program} {w : World} {A : Around} {E : Value → Shared → Prop} {s : Shared} {h₀ : Heap} {L : Addr} {m : Str → Option Value} {env : Env}

/-- a turn's end: one new object of the asked kind -/
def NewEnd (h₀ : Heap) (L : Addr) (m : Str → Option Value) (s₁ : Shared) (I : Addr) (oI : Obj) (C : Addr) (oC : Obj) (D : Addr) (oD : Obj) (news : List (Addr × Obj)) (G : Obj → Prop) (v : Value) (s₂ : Shared) : Prop :=
  ∃ J o h' tk, v = .ref J ∧ s₂ = { s₁ with heap := h', toks := tk } ∧ Fr h₀ L h' m ∧ News h₀ L h' ((I, oI) :: (C, oC) :: (D, oD) :: (J, o) :: news) ∧ Off J ((I, oI) :: (C, oC) :: (D, oD) :: news) ∧ G o
theorem NewEnd.intro {s₁ : Shared} {I C D J : Addr} {oI oC oD o : Obj} {news all : List (Addr × Obj)} {G : Obj → Prop} {tk : Nat} {h' : Heap} (F : Fr h₀ L h' m) (N : News h₀ L h' all)
    (sub : ∀ p ∈ (I, oI) :: (C, oC) :: (D, oD) :: (J, o) :: news, p ∈ all) (O : Off J ((I, oI) :: (C, oC) :: (D, oD) :: news)) (g : G o) :
    NewEnd h₀ L m s₁ I oI C oC D oD news G (.ref J) { s₁ with heap := h', toks := tk } := ⟨J, o, h', tk, rfl, rfl, F, fun p hp => N p (sub p hp), O, g⟩

theorem comp6 {elt : PySem.Expr} {x : Str} {scope : Scope} {cl : List (Str × Addr)} {S : List (Addr × Obj) → Prop} {P : Nat → Value → Prop} {n : Nat} {G : Nat → Obj → Prop} {news : List (Addr × Obj)} {Fin : List Value → List (Addr × Obj) → Prop}
    (hS : ∀ l : List (Addr × Obj), (∀ p ∈ news, p ∈ l) → S l)
    (turn : ∀ (i : Nat) (v : Value) (I : Addr) (oI : Obj) (C : Addr) (oC : Obj) (D : Addr) (oD : Obj) (m₂ : Str → Option Value) (h : Heap) (tk : Nat) (E' : Value → Shared → Prop) (all : List (Addr × Obj)), i < n → (∀ p ∈ news, p ∈ all) → P i v →
      LCg.NsObj oC m₂ → m₂ x = some v → Fr h₀ L h m → News h₀ L h ((I, oI) :: (C, oC) :: (D, oD) :: all) → LCg.Off3 I C D all → ((@Ne Nat I C) ∧ (@Ne Nat I D) ∧ (@Ne Nat C D)) →
      wpAny (model prog w) A (eval elt (compEnvC scope cl C env)) (NewEnd h₀ L m { s with heap := h, toks := tk } I oI C oC D oD all (G i)) E' { s with heap := h, toks := tk })
    (fin : ∀ js : List (Addr × Obj), js.length = n → (∀ i p, js[i]? = some p → G i p.2) → (∀ j ∈ js, ∀ p ∈ news, p.1 ≠ j.1) → Fin (prefs js) (js ++ news)) :
    ∀ (k i : Nat) (js : List (Addr × Obj)), n = i + k → js.length = i → (∀ i p, js[i]? = some p → G i p.2) → (∀ j ∈ js, ∀ p ∈ news, p.1 ≠ j.1) →
      LCg.CompRest prog w A h₀ L m env elt x scope cl s S P Fin k i (prefs js) (js ++ news)
  | 0, i, js, e, el, hg, ho => fin js (by omega) hg ho
  | k + 1, i, js, e, el, hg, ho => by
    refine LCg.CompRest.succ fun v I oI C oC D m₂ h tk E' hv hC hx F N off ne => ?_
    have hsub : ∀ p ∈ news, p ∈ js ++ news := fun p hp => List.mem_append_right _ hp
    refine wpAny_mono (turn i v I oI C oC D _ m₂ h tk E' _ (by omega) hsub hv hC hx F N off ne) (fun y s₂ q => ?_) fun _ _ y => y
    obtain ⟨J, o, h', tk', rfl, rfl, F', N', O, g⟩ := q
    have eled : ∀ p, p ∈ (js ++ [(J, o)]) ++ news ↔ p ∈ (J, o) :: (js ++ news) := by
      intro p; simp only [List.mem_append, List.mem_cons, List.not_mem_nil, or_false]
      constructor
      · rintro ((h | h) | h)
        · exact .inr (.inl h)
        · exact .inl h
        · exact .inr (.inr h)
      · rintro (h | h | h)
        · exact .inl (.inr h)
        · exact .inl (.inl h)
        · exact .inr h
    refine LCg.CompEnd.intro F' N' ((js ++ [(J, o)]) ++ news) (fun p hp => ?_) (off3_perm (fun p hp => (eled p).mp hp) (off3_of O off)) (hS _ fun p hp => List.mem_append_right _ hp) ?_
    · rcases List.mem_cons.mp hp with rfl | hp
      · exact .head _
      rcases List.mem_cons.mp hp with rfl | hp
      · exact .tail _ (.head _)
      rcases List.mem_cons.mp hp with rfl | hp
      · exact .tail _ (.tail _ (.head _))
      exact .tail _ (.tail _ (.tail _ ((eled p).mp hp)))
    · show LCg.CompRest prog w A h₀ L m env elt x scope cl s S P Fin k (i + 1) (prefs js ++ [Value.ref (J, o).1]) _
      rw [prefs_snoc]
      refine comp6 hS turn fin k (i + 1) (js ++ [(J, o)]) (by omega) (by simp [el]) ?_ ?_
      · intro i' p hp
        by_cases hi : i' < js.length
        · rw [List.getElem?_append_left hi] at hp
          exact hg i' p hp
        · have hi' : i' = js.length := by
            have := (List.getElem?_eq_some_iff.mp hp).1
            simp at this; omega
          subst hi'
          simp at hp
          subst hp
          rw [el]; exact g
      · intro j hjm p hp
        rcases List.mem_append.mp hjm with hjm | hjm
        · exact ho j hjm p hp
        · rw [List.mem_singleton.mp hjm]
          exact off_mem O p (.tail _ (.tail _ (.tail _ (List.mem_append_right _ hp))))
theorem comp6' {elt : PySem.Expr} {x : Str} {scope : Scope} {cl : List (Str × Addr)} {S : List (Addr × Obj) → Prop} {P : Nat → Value → Prop} {n : Nat} (G : Nat → Obj → Prop) {news : List (Addr × Obj)} {Fin : List Value → List (Addr × Obj) → Prop}
    (hS : ∀ l : List (Addr × Obj), (∀ p ∈ news, p ∈ l) → S l)
    (turn : ∀ (i : Nat) (v : Value) (I : Addr) (oI : Obj) (C : Addr) (oC : Obj) (D : Addr) (oD : Obj) (m₂ : Str → Option Value) (h : Heap) (tk : Nat) (E' : Value → Shared → Prop) (all : List (Addr × Obj)), i < n → (∀ p ∈ news, p ∈ all) → P i v →
      LCg.NsObj oC m₂ → m₂ x = some v → Fr h₀ L h m → News h₀ L h ((I, oI) :: (C, oC) :: (D, oD) :: all) → LCg.Off3 I C D all → ((@Ne Nat I C) ∧ (@Ne Nat I D) ∧ (@Ne Nat C D)) →
      wpAny (model prog w) A (eval elt (compEnvC scope cl C env)) (NewEnd h₀ L m { s with heap := h, toks := tk } I oI C oC D oD all (G i)) E' { s with heap := h, toks := tk })
    (fin : ∀ js : List (Addr × Obj), js.length = n → (∀ i p, js[i]? = some p → G i p.2) → (∀ j ∈ js, ∀ p ∈ news, p.1 ≠ j.1) → Fin (prefs js) (js ++ news)) :
    LCg.CompRest prog w A h₀ L m env elt x scope cl s S P Fin n 0 [] news :=
  comp6 hS turn fin n 0 [] (by omega) rfl (fun i p h => by simp at h) (fun j h => nomatch h)
theorem src_up {ax : Addr} {its : Array Value} {news : List (Addr × Obj)} (x : LCg.SrcAt h₀ ax its news) : ∀ l : List (Addr × Obj), (∀ p ∈ news, p ∈ l) → LCg.SrcAt h₀ ax its l := fun l hl => by
  rcases x with hs | ⟨o, hm, r⟩
  · exact .inl hs
  · exact .inr ⟨o, hl _ hm, r⟩

theorem stopCR {elt : PySem.Expr} {x : Str} {scope : Scope} {cl : List (Str × Addr)} {S : List (Addr × Obj) → Prop} {P : Nat → Value → Prop} {Fin : List Value → List (Addr × Obj) → Prop} {k i : Nat} {ys : List Value} {news : List (Addr × Obj)}
    (h : Stop (LCg.CompRest prog w A h₀ L m env elt x scope cl s S P Fin k i ys news)) : LCg.CompRest prog w A h₀ L m env elt x scope cl s S P Fin k i ys news := h
theorem stopCT {ct elt : PySem.Expr} {x : Str} {scope : Scope} {cl : List (Str × Addr)} {S : List (Addr × Obj) → Prop} {P : Nat → Value → Prop} {Fin : List Value → List (Addr × Obj) → Prop} {k i : Nat} {ys : List Value} {news : List (Addr × Obj)}
    (h : Stop (LCt.CompRestT prog w A h₀ L m env ct elt x scope cl s S P Fin k i ys news)) : LCt.CompRestT prog w A h₀ L m env ct elt x scope cl s S P Fin k i ys news := h
end
/-- a row of one int -/
def IsRow (xs : List Int) (i : Nat) (o : Obj) : Prop := ∃ x t k, o = listOf [.int x t].toArray k ∧ xs[i]? = some x
theorem rows_of_news : ∀ (js : List (Addr × Obj)) (xs : List Int), js.length = xs.length → (∀ i p, js[i]? = some p → IsRow xs i p.2) → ∃ rs : List Q4, js = rs.map (fun q => (q.1, rowObj q)) ∧ keys rs = xs
  | [], [], _, _ => ⟨[], rfl, rfl⟩
  | (a, o) :: r, x :: xs, hl, h => by
    obtain ⟨x', t, k, e1, e2⟩ := h 0 (a, o) rfl
    obtain ⟨rs, f1, f2⟩ := rows_of_news r xs (by simpa using hl) fun i p hp => by
      obtain ⟨x', t, k, e1, e2⟩ := h (i + 1) p (by simpa using hp)
      exact ⟨x', t, k, e1, by simpa using e2⟩
    simp at e2
    subst e2
    refine ⟨(a, x, t, k) :: rs, ?_, ?_⟩
    · rw [f1, List.map_cons]; congr 1; exact congrArg (a, ·) e1
    · simp [keys] at f2 ⊢; exact f2
theorem prefs_rows (rs : List Q4) : prefs (rs.map fun q => (q.1, rowObj q)) = refs rs := by simp [prefs, refs]
theorem rows_mem {rs : List Q4} {l : List (Addr × Obj)} : ∀ q ∈ rs, (q.1, rowObj q) ∈ rs.map (fun q => (q.1, rowObj q)) ++ l := fun q hq => List.mem_append_left _ (List.mem_map.mpr ⟨q, hq, rfl⟩)
theorem pick_one {vs : List Value} {i : Nat} {v : Value} (h : vs[i]? = some v) : (slicePick vs.toArray (some (i : Int)) (some ((i : Int) + 1)) none).toList = [v] := by
  have hi : i < vs.length := (List.getElem?_eq_some_iff.mp h).1
  have hb : sliceBounds (some (i : Int)) (some ((i : Int) + 1)) none vs.toArray.size = ((i : Int), ((i + 1 : Nat) : Int), 1) := by
    have h1 : ¬ ((i : Int) < 0) := by omega
    have h2 : ¬ ((i : Int) + 1 < 0) := by omega
    simp only [sliceBounds, List.size_toArray, Option.getD_none, h1, h2, if_false, show ((1 : Int) > 0) from by decide, if_true]
    rw [show max 0 (min (i : Int) (vs.length : Int)) = (i : Int) by omega, show max 0 (min ((i : Int) + 1) (vs.length : Int)) = ((i + 1 : Nat) : Int) by omega]
  have hv : vs[i] = v := Option.some.inj ((List.getElem?_eq_getElem hi).symm.trans h)
  rw [kmk_pick_nat _ hb]
  simp only [Nat.add_sub_cancel_left]
  rw [List.drop_eq_getElem_cons hi, hv]
  rfl
theorem mod10 {k : Int} (h1 : 1 ≤ k) (h9 : k ≤ 9) : k.fmod 10 = k := by rw [Int.fmod_eq_emod_of_nonneg _ (by decide)]; omega
theorem div10z {k : Int} (h1 : 1 ≤ k) (h9 : k ≤ 9) : k.fdiv 10 = 0 := by rw [Int.fdiv_eq_ediv_of_nonneg _ (by decide)]; omega
section
variable {prog : Program} {w : World} {A : Around} {E : Value → Shared → Prop} {s : Shared}
theorem abs_pos {k : Int} {t : Tok} {Q : Value → Shared → Prop} (h0 : 0 ≤ k) (h : ∀ u tk, Q (.int k u) { s with toks := tk }) : wpAny (model prog w) A (call (.builtin "abs") [.int k t]) Q E s := by
  refine call_abs_int ?_
  rw [if_neg (by omega)]
  exact h
end
section
variable {prog : Program} {w : World} {A : Around} {E : Value → Shared → Prop} {s : Shared}
theorem one_len {c : Nat} : (({ cps := #[c] } : Str) ++ Str.ofString "").length = 1 := by
  rw [Str.length_append]; rfl
theorem one_ne {c : Nat} {t u : Tok} {Q : Value → Shared → Prop} (h : Q (.bool false) s) : wpAny (model prog w) A (compareOp .Eq (.str ({ cps := #[c] } ++ Str.ofString "") t) (.str (Str.ofString "") u)) Q E s := by
  refine eq_str ?_
  have e : ((({ cps := #[c] } : Str) ++ Str.ofString "") == (Str.ofString "")) = false :=
    beq_eq_false_iff_ne.mpr fun q => absurd (one_len (c := c)) (by rw [q]; decide)
  rw [e]; exact h
end
theorem vals_small {rs : List Q4} (h : rs.length ≤ 9) : (vals rs).length ≤ sizeLine := by rw [vals_length]; exact Nat.le_trans h (by decide)
theorem stopW {α : Type} {M : Model} {A : Around} {T : Sem α} {Q : α → Shared → Prop} {E : Value → Shared → Prop} {s : Shared} (h : Stop (wpAny M A T Q E s)) : wpAny M A T Q E s := h
theorem units_make (A : Around) (C : Addr) (vals : List Value) : (A.under (.builtin "type.__call__" ⟨.ref C :: vals, []⟩)).units = A.units + 1 := by first | rfl | simp [Around.under, Code.cUnits, Code.frames, Code.isFrame]
theorem small9 {vs : List Value} {ns : List Int} (h : IntsAre vs ns) (h9 : ns.length ≤ 9) : vs.toArray.size ≤ sizeLine := by
  rw [List.size_toArray, h.length]; exact Nat.le_trans h9 (by decide)
theorem one_get {vs : List Value} {ns : List Int} (h : IntsAre vs ns) {i : Nat} (hi : i < ns.length) : ∃ x t, vs[i]? = some (.int x t) ∧ ns[i]? = some x := by
  have h1 : ns[i]? = some ns[i] := List.getElem?_eq_getElem hi
  obtain ⟨t, e⟩ := ints_get h h1
  exact ⟨_, t, e, h1⟩
/-- the ledger of a turn, with the older objects written out again -/
theorem led_sub {h₀ h : Heap} {L I C D : Addr} {oI oC oD : Obj} {news all : List (Addr × Obj)} {G : Prop} (sub : ∀ p ∈ news, p ∈ all) (N : News h₀ L h ((I, oI) :: (C, oC) :: (D, oD) :: all)) (k : News h₀ L h ((I, oI) :: (C, oC) :: (D, oD) :: (news ++ all)) → G) : G :=
  k fun p hp => N p (by
    rcases List.mem_cons.mp hp with rfl | hp
    · exact .head _
    rcases List.mem_cons.mp hp with rfl | hp
    · exact .tail _ (.head _)
    rcases List.mem_cons.mp hp with rfl | hp
    · exact .tail _ (.tail _ (.head _))
    exact .tail _ (.tail _ (.tail _ ((List.mem_append.mp hp).elim (sub p) id))))
section
variable {prog : Program} {w : World} {A : Around} {E : Value → Shared → Prop} {h₀ hp : Heap} {gn : Array GenState} {dr : Drawn} {tk : Nat} {oz : OsState} {L : Addr} {m : Str → Option Value} {news : List (Addr × Obj)} {l : Addr} {its : Array Value} {vl vu : Value} {lo hi : Option Int} {zs vs : List Value} {ns : List Int} {value slice : PySem.Expr} {Q : Value → Shared → Prop}
theorem cut_lit (F : Fr h₀ L hp m) (N : News h₀ L hp news) (hl : hp.IsList l its) (pl : IsPart vl lo) (pu : IsPart vu hi) (e : (slicePick its lo hi none).toList = zs)
    (h : ∀ D h', Fr h₀ L h' m → News h₀ L h' ((D, listOf zs.toArray 0) :: news) → (∀ p ∈ news, p.1 < D) → Q (.ref D) ⟨h', gn, dr, tk, oz⟩)
    (hs : subscripted slice false (.ref l) (.ref hp.objs.size) = operate [.ref hp.objs.size, .ref l] (getItem (.ref l) (.ref hp.objs.size))) (ht : ∀ r, letTemporaryGo value (.ref l) r = pure ()) (hz : its.size ≤ sizeLine) :
    wpAny (model prog w) A (subscriptTail value slice (.ref l) (.ref hp.objs.size)) Q E ⟨hp.push { cls := .type "slice", data := .fields #[vl, vu, .none] }, gn, dr, tk, oz⟩ :=
  kmk_slice_lit (s := ⟨hp, gn, dr, tk, oz⟩) F N hl pl pu e h hs ht hz
theorem cut3_lit {vk : Value} {st : Option Int} {ops : List Value} (F : Fr h₀ L hp m) (N : News h₀ L hp news) (hl : hp.IsList l its) (pl : IsPart vl lo) (pu : IsPart vu hi) (pk : IsPart vk st) (h0 : st ≠ some 0) (e : (slicePick its lo hi st).toList = zs)
    (h : ∀ D h', Fr h₀ L h' m → News h₀ L h' ((D, listOf zs.toArray 0) :: news) → (∀ p ∈ news, p.1 < D) → Q (.ref D) ⟨h', gn, dr, tk, oz⟩)
    (hs : subscripted slice false (.ref l) (.ref hp.objs.size) = operate ops (getItem (.ref l) (.ref hp.objs.size))) (ht : ∀ r, letTemporaryGo value (.ref l) r = pure ()) (hz : its.size ≤ sizeLine) :
    wpAny (model prog w) A (subscriptTail value slice (.ref l) (.ref hp.objs.size)) Q E ⟨hp.push { cls := .type "slice", data := .fields #[vl, vu, vk] }, gn, dr, tk, oz⟩ :=
  kmk_slice3_lit (s := ⟨hp, gn, dr, tk, oz⟩) F N hl pl pu pk h0 e h hs ht hz
theorem cut_ints {ms : List Int} {c : Nat} (F : Fr h₀ L hp m) (N : News h₀ L hp news) (hl : hp.IsList l vs.toArray) (pl : IsPart vl lo) (pu : IsPart vu hi) (hi' : IntsAre vs ns) (hm : IntsAre (slicePick vs.toArray lo hi none).toList ms) (hc : ms.length = c)
    (h : ∀ D ws h', Fr h₀ L h' m → News h₀ L h' ((D, listOf (List.toArray ws) 0) :: news) → (∀ p ∈ news, p.1 < D) → IntsAre ws ms → ms.length = c → ms.length ≤ ns.length → Q (.ref D) ⟨h', gn, dr, tk, oz⟩)
    (hs : subscripted slice false (.ref l) (.ref hp.objs.size) = operate [.ref hp.objs.size, .ref l] (getItem (.ref l) (.ref hp.objs.size))) (ht : ∀ r, letTemporaryGo value (.ref l) r = pure ()) (hz : vs.toArray.size ≤ sizeLine) :
    wpAny (model prog w) A (subscriptTail value slice (.ref l) (.ref hp.objs.size)) Q E ⟨hp.push { cls := .type "slice", data := .fields #[vl, vu, .none] }, gn, dr, tk, oz⟩ :=
  kmk_slice_ints (s := ⟨hp, gn, dr, tk, oz⟩) F N hl pl pu hi' hm hc h hs ht hz
end
structure Rws (rs : List Q4) (xs : List Int) : Prop where
  k : keys rs = xs
theorem news_rows {h₀ h h' : Heap} {L : Addr} {p : Addr × Obj} {l1 l2 : List (Addr × Obj)} (N' : News h₀ L h' (p :: l1)) (N : News h₀ L h l2) (G : ∀ b o, h.get? b = some o → h'.get? b = some o) : News h₀ L h' (p :: (l2 ++ l1)) := fun q hq => by
  rcases List.mem_cons.mp hq with rfl | hq
  · exact N' _ (.head _)
  rcases List.mem_append.mp hq with hq | hq
  · exact news_up N G q hq
  · exact N' _ (.tail _ hq)
theorem rws_len {rs : List Q4} {xs : List Int} (R : Rws rs xs) : rs.length = xs.length := by rw [← R.k, keys_length]
theorem rws_head {rs : List Q4} {xs : List Int} (R : Rws rs xs) (h : 0 < xs.length) : ∃ q, rs[0]? = some q ∧ (q.1, listOf [.int q.2.1 q.2.2.1].toArray q.2.2.2) ∈ rs.map (fun q => (q.1, rowObj q)) := by
  have hl : 0 < rs.length := by rw [rws_len R]; exact h
  have e : rs[0]? = some rs[0] := List.getElem?_eq_getElem hl
  exact ⟨_, e, List.mem_map.mpr ⟨rs[0], List.mem_of_getElem? e, rfl⟩⟩
theorem rws_le {rs : List Q4} {xs : List Int} (R : Rws rs xs) (h : xs.length ≤ 9) : rs.length ≤ 100 := by rw [rws_len R]; omega
theorem rows_in {rs : List Q4} {l : List (Addr × Obj)} (h : ∀ p ∈ rs.map (fun q => (q.1, rowObj q)), p ∈ l) : ∀ q ∈ rs, (q.1, rowObj q) ∈ l := fun q hq => h _ (List.mem_map.mpr ⟨q, hq, rfl⟩)
theorem srt_valsR {ds rs : List Q4} {xs : List Int} (h : Srt ds rs) (R : Rws rs xs) : IntsAre (vals ds) (isort xs) := srt_vals h R.k
section
variable {prog : Program} {w : World} {A : Around} {E : Value → Shared → Prop} {s : Shared} {env : Env} {test : PySem.Expr} {body orelse : List Stmt} {Q : Flow → Shared → Prop}
theorem stopWR {k : Nat} (h : Stop (WhlRest prog w A E env test body orelse Q k s)) : WhlRest prog w A E env test body orelse Q k s := h
end
structure POff (js l : List (Addr × Obj)) : Prop where
  out : ∀ j ∈ js, ∀ p ∈ l, p.1 ≠ j.1
theorem pall {js l : List (Addr × Obj)} {c : Addr} {o : Obj} (x : POff js l) (h : (c, o) ∈ l) : ∀ p ∈ js, p.1 ≠ c := fun p hp => Ne.symm (x.out p hp _ h)
end Mine
namespace Mine
def idx (b g : Int) (n : Nat) : List Nat := sliceRange (sliceBounds (some b) none (some g) n).1 (sliceBounds (some b) none (some g) n).2.1 (sliceBounds (some b) none (some g) n).2.2
theorem pick_idx (b g : Int) (vs : List Value) : pick b g vs = (idx b g vs.length).filterMap (vs[·]?) := by
  show (((sliceRange _ _ _).filterMap (vs.toArray[·]?)).toArray).toList = _
  simp [idx]
def lotI (b g : Int) (ns : List Int) : List Int := (idx b g ns.length).filterMap (ns[·]?)
theorem ints_filter {vs : List Value} {ns : List Int} (h : IntsAre vs ns) : ∀ (l : List Nat), IntsAre (l.filterMap (vs[·]?)) (l.filterMap (ns[·]?))
  | [] => .nil
  | i :: r => by
    cases e : ns[i]? with
    | none =>
      have e' : vs[i]? = none := by
        rw [List.getElem?_eq_none_iff] at e ⊢
        rw [h.length]; exact e
      rw [List.filterMap_cons_none e, List.filterMap_cons_none e']
      exact ints_filter h r
    | some y =>
      obtain ⟨t, e'⟩ := ints_get h e
      rw [List.filterMap_cons_some e, List.filterMap_cons_some e']
      exact .cons _ _ (ints_filter h r)
theorem pick_ints {vs : List Value} {ns : List Int} (h : IntsAre vs ns) (b g : Int) : IntsAre (pick b g vs) (lotI b g ns) := by
  rw [pick_idx, lotI, h.length]
  exact ints_filter h _
def lsort (g : Nat) (ns : List Int) : List Int := (List.range ns.length).map fun i => ((isort (lotI ((i % g : Nat) : Int) (g : Int) ns))[i / g]?).getD 0
theorem lsort_length (g : Nat) (ns : List Int) : (lsort g ns).length = ns.length := by simp [lsort]
theorem lsort_get {g : Nat} {ns : List Int} {i : Nat} {y : Int} (hi : i < ns.length) (h : (isort (lotI ((i % g : Nat) : Int) (g : Int) ns))[i / g]? = some y) : (lsort g ns)[i]? = some y := by
  simp only [lsort, List.getElem?_map, List.getElem?_range hi, Option.map_some, h, Option.getD_some]
theorem some_get {l : List Int} {k : Nat} (h : k < l.length) : ∃ y, (isort l)[k]? = some y := ⟨_, List.getElem?_eq_getElem (by rw [isort_length]; exact h)⟩
theorem ints_range {f : Nat → Value} : ∀ (n : Nat) (ms : List Int), ms.length = n → (∀ i, i < n → ∃ y t, f i = .int y t ∧ ms[i]? = some y) → IntsAre ((List.range n).map f) ms
  | 0, ms, e, _ => by rw [List.length_eq_zero_iff.mp e]; exact .nil
  | n + 1, ms, e, h => by
    obtain ⟨y, t, e1, e2⟩ := h n (Nat.lt_succ_self n)
    have hms : ms = ms.take n ++ [y] := by
      have h1 : ms = ms.take n ++ ms.drop n := (List.take_append_drop n ms).symm
      have h2 : ms.drop n = [y] := by
        have hlt : n < ms.length := by omega
        rw [List.drop_eq_getElem_cons hlt, List.drop_eq_nil_of_le (by omega)]
        congr 1
        exact Option.some.inj ((List.getElem?_eq_getElem hlt).symm.trans e2)
      rw [← h2]; exact h1
    rw [List.range_succ, List.map_append, hms]
    refine IntsAre.append (ints_range n (ms.take n) (by rw [List.length_take]; omega) fun i hi => ?_) ?_
    · obtain ⟨y', t', h1, h2⟩ := h i (by omega)
      exact ⟨y', t', h1, by rw [List.getElem?_take]; simp [hi, h2]⟩
    · rw [show [n].map f = [.int y t] from by simp [e1]]
      exact .cons _ _ .nil
theorem lotI_map (f : Int → Int) (b g : Int) (ns : List Int) : lotI b g (ns.map f) = (lotI b g ns).map f := by
  unfold lotI
  rw [List.length_map, List.map_filterMap]
  congr 1
  funext i
  simp [List.getElem?_map]
theorem lotI_len (b g : Int) (ns : List Int) : (lotI b g ns).length = (lotI b g (List.replicate ns.length 0)).length := by
  have h := lotI_map (fun _ => (0 : Int)) b g ns
  have e : ns.map (fun _ => (0 : Int)) = List.replicate ns.length 0 := List.map_const' ..
  rw [e] at h
  rw [h, List.length_map]

theorem filter_take {α : Type} (p : α → Bool) : ∀ (l : List α) (n : Nat), (∀ b q, l[b]? = some q → (p q = true ↔ b < n)) → l.filter p = l.take n
  | [], n, _ => by simp
  | x :: r, n, h => by
    have h0 := h 0 x rfl
    cases n with
    | zero =>
      have hx : p x = false := by
        cases e : p x with
        | false => rfl
        | true => exact absurd (h0.mp e) (Nat.lt_irrefl 0)
      rw [List.filter_cons, hx]
      simp only [Bool.false_eq_true, if_false, List.take_zero]
      have := filter_take p r 0 fun b q hb => by
        have := h (b + 1) q (by simpa using hb)
        constructor
        · intro e; exact absurd (this.mp e) (by omega)
        · intro e; exact absurd e (by omega)
      rw [this, List.take_zero]
    | succ n =>
      have hx : p x = true := h0.mpr (Nat.succ_pos n)
      rw [List.filter_cons, hx]
      simp only [if_true, List.take_succ_cons]
      rw [filter_take p r n fun b q hb => by
        have := h (b + 1) q (by simpa using hb)
        constructor
        · intro e; have := this.mp e; omega
        · intro e; exact this.mpr (by omega)]
/-- what lots of 2 to 5 places out of 3 to 7 hold -/
def lotsOk (g n : Nat) : Bool := ((List.range g).all fun b => decide ((lotI (b : Int) (g : Int) (List.replicate n 0)).length ≠ 0 ↔ b < n) && decide ((lotI (b : Int) (g : Int) (List.replicate n 0)).length ≤ 4)) && ((List.range n).all fun i => decide (i / g < (lotI ((i % g : Nat) : Int) (g : Int) (List.replicate n 0)).length))
theorem lots_ok : ((List.range 4).all fun g => (List.range 5).all fun n => lotsOk (g + 2) (n + 3)) = true := by decide +kernel
theorem lotsOk_of {g n : Nat} (h2 : 2 ≤ g) (h5 : g ≤ 5) (h3 : 3 ≤ n) (h7 : n ≤ 7) : lotsOk g n = true := by
  have h := List.all_eq_true.mp (List.all_eq_true.mp lots_ok (g - 2) (List.mem_range.mpr (by omega))) (n - 3) (List.mem_range.mpr (by omega))
  rw [show g - 2 + 2 = g by omega, show n - 3 + 3 = n by omega] at h
  exact h
theorem lot_full {g b : Nat} {ns : List Int} (h2 : 2 ≤ g) (h5 : g ≤ 5) (h3 : 3 ≤ ns.length) (h7 : ns.length ≤ 7) (hb : b < g) : ((lotI (b : Int) (g : Int) ns).length ≠ 0 ↔ b < ns.length) ∧ (lotI (b : Int) (g : Int) ns).length ≤ 4 := by
  have h := lotsOk_of h2 h5 h3 h7
  unfold lotsOk at h
  have h1 := List.all_eq_true.mp (Bool.and_eq_true_iff.mp h).1 b (List.mem_range.mpr hb)
  have h4 := Bool.and_eq_true_iff.mp h1
  rw [lotI_len]
  exact ⟨of_decide_eq_true h4.1, of_decide_eq_true h4.2⟩
theorem lot_in {g : Nat} {ns : List Int} (h2 : 2 ≤ g) (h5 : g ≤ 5) (h3 : 3 ≤ ns.length) (h7 : ns.length ≤ 7) {i : Nat} (hi : i < ns.length) : i / g < (lotI ((i % g : Nat) : Int) (g : Int) ns).length := by
  have h := lotsOk_of h2 h5 h3 h7
  unfold lotsOk at h
  have h1 := List.all_eq_true.mp (Bool.and_eq_true_iff.mp h).2 i (List.mem_range.mpr hi)
  rw [lotI_len]
  exact of_decide_eq_true h1
def IsLot (g : Nat) (vs : List Value) (b : Nat) (o : Obj) : Prop := ∃ k, o = listOf (pick (b : Int) (g : Int) vs).toArray k
/-- the lots: their addresses, values, ints -/
structure Lots (g : Nat) (vs : List Value) (ns : List Int) (lots : List T4) : Prop where
  l : lots.length = g
  q : ∀ (b : Nat) (q : T4), lots[b]? = some q → q.2.1 = pick (b : Int) (g : Int) vs ∧ q.2.2.1 = lotI (b : Int) (g : Int) ns
def lled (lots : List T4) : List (Addr × Obj) := lots.map fun q => (q.1, listOf q.2.1.toArray q.2.2.2)
theorem lots_of_news (g : Nat) (vs : List Value) (ns : List Int) (js : List (Addr × Obj)) (hl : js.length = g) (hg : ∀ (i : Nat) (p : Addr × Obj), js[i]? = some p → IsLot g vs i p.2) : ∃ lots : List T4, js = lled lots ∧ prefs js = lots.map (fun q => .ref q.1) ∧ Lots g vs ns lots := by
  have key : ∀ (js : List (Addr × Obj)) (c : Nat), (∀ (i : Nat) (p : Addr × Obj), js[i]? = some p → IsLot g vs (c + i) p.2) → ∃ lots : List T4, js = lled lots ∧ prefs js = lots.map (fun q => .ref q.1) ∧ ∀ (b : Nat) (q : T4), lots[b]? = some q → q.2.1 = pick ((c + b : Nat) : Int) (g : Int) vs ∧ q.2.2.1 = lotI ((c + b : Nat) : Int) (g : Int) ns := by
    intro js
    induction js with
    | nil => intro c _; exact ⟨[], rfl, rfl, fun b q h => by simp at h⟩
    | cons p r ih =>
      intro c h
      obtain ⟨k, e⟩ := h 0 p rfl
      obtain ⟨lots, f1, f2, f3⟩ := ih (c + 1) fun i p hp => by
        have := h (i + 1) p (by simpa using hp)
        rw [show c + 1 + i = c + (i + 1) by omega]
        exact this
      refine ⟨(p.1, pick ((c + 0 : Nat) : Int) (g : Int) vs, lotI ((c + 0 : Nat) : Int) (g : Int) ns, k) :: lots, ?_, ?_, ?_⟩
      · rw [f1]
        show p :: _ = _ :: _
        congr 1
        exact Prod.ext rfl e
      · rw [show prefs (p :: r) = Value.ref p.1 :: prefs r from rfl, f2]
        rfl
      · intro b q hq
        cases b with
        | zero => simp at hq; subst hq; exact ⟨rfl, rfl⟩
        | succ b =>
          have := f3 b q (by simpa using hq)
          rw [show c + (b + 1) = c + 1 + b by omega]
          exact this
  obtain ⟨lots, f1, f2, f3⟩ := key js 0 fun i p hp => by rw [Nat.zero_add]; exact hg i p hp
  refine ⟨lots, f1, f2, ?_, fun b q hq => by have := f3 b q hq; rw [Nat.zero_add] at this; exact this⟩
  have := congrArg List.length f1
  rw [hl] at this
  simpa [lled] using this.symm
theorem lots_in {g : Nat} {vs : List Value} {ns : List Int} {lots : List T4} (K : Lots g vs ns lots) (hI : IntsAre vs ns) (h2 : 2 ≤ g) (h5 : g ≤ 5) (h3 : 3 ≤ ns.length) (h7 : ns.length ≤ 7) {news : List (Addr × Obj)} (hsub : ∀ p ∈ lled lots, p ∈ news) :
    ∀ q ∈ lots, (q.1, listOf q.2.1.toArray q.2.2.2) ∈ news ∧ IntsAre q.2.1 q.2.2.1 ∧ q.2.2.1.length ≤ 9 := by
  intro q hq
  obtain ⟨b, hb⟩ := List.mem_iff_getElem?.mp hq
  obtain ⟨e1, e2⟩ := K.q b q hb
  refine ⟨hsub _ (List.mem_map.mpr ⟨q, hq, rfl⟩), by rw [e1, e2]; exact pick_ints hI _ _, ?_⟩
  have hbg : b < g := by have := (List.getElem?_eq_some_iff.mp hb).1; rw [K.l] at this; exact this
  have := (lot_full h2 h5 h3 h7 hbg).2
  rw [e2]; omega
theorem selj {g : Nat} {vs : List Value} {ns : List Int} {lots : List T4} (K : Lots g vs ns lots) (h2 : 2 ≤ g) (h5 : g ≤ 5) (h3 : 3 ≤ ns.length) (h7 : ns.length ≤ 7) {js : List J3} (hj : JAre js (lots.filter full)) {i : Nat} (hi : i < ns.length) :
    ∃ j y t, js[i % g]? = some j ∧ j.2.1[i / g]? = some (.int y t) ∧ (lsort g ns)[i]? = some y := by
  have hf : lots.filter full = lots.take ns.length := filter_take full lots ns.length fun b q hb => by
    obtain ⟨_, e2⟩ := K.q b q hb
    have hbg : b < g := by have := (List.getElem?_eq_some_iff.mp hb).1; rw [K.l] at this; exact this
    have := (lot_full h2 h5 h3 h7 hbg).1
    rw [← this, ← e2]
    unfold full
    cases q.2.2.1 <;> simp
  have hg0 : 0 < g := by omega
  have hm : i % g < g := Nat.mod_lt _ hg0
  have hmi : i % g < ns.length := Nat.lt_of_le_of_lt (Nat.mod_le i g) hi
  have hl : i % g < lots.length := by rw [K.l]; exact hm
  have e0 : lots[i % g]? = some lots[i % g] := List.getElem?_eq_getElem hl
  have e1 : (lots.filter full)[i % g]? = some lots[i % g] := by rw [hf, List.getElem?_take, if_pos hmi, e0]
  obtain ⟨_, e2⟩ := K.q _ _ e0
  obtain ⟨j, f1, f2⟩ := hj.get e1
  obtain ⟨y, e4⟩ := some_get (lot_in h2 h5 h3 h7 hi)
  rw [e2] at f2
  obtain ⟨t, f3⟩ := ints_get f2 e4
  exact ⟨j, y, t, f1, f3, lsort_get hi e4⟩
theorem ints_final {g : Nat} {vs : List Value} {ns : List Int} {lots : List T4} (K : Lots g vs ns lots) (h2 : 2 ≤ g) (h5 : g ≤ 5) (h3 : 3 ≤ ns.length) (h7 : ns.length ≤ 7) {js : List J3} (hj : JAre js (lots.filter full)) : IntsAre ((List.range ns.length).map (cell3 js g)) (lsort g ns) :=
  ints_range _ _ (lsort_length _ _) fun i hi => by
    obtain ⟨j, y, t, e1, e2, e3⟩ := selj K h2 h5 h3 h7 hj hi
    exact ⟨y, t, cell3_eq e1 e2, e3⟩
theorem fmod_n {i g : Nat} : ((i : Int)).fmod (g : Int) = ((i % g : Nat) : Int) := by rw [Int.fmod_eq_emod_of_nonneg _ (Int.natCast_nonneg _)]; exact (Int.natCast_emod i g).symm
theorem fdiv_n {i g : Nat} : ((i : Int)).fdiv (g : Int) = ((i / g : Nat) : Int) := by rw [Int.fdiv_eq_ediv_of_nonneg _ (Int.natCast_nonneg _)]; exact (Int.natCast_ediv i g).symm
theorem nat_ne {g : Nat} (h : 2 ≤ g) : (g : Int) ≠ 0 := by omega
theorem nat_sm {g : Nat} (h : g ≤ 5) : ((g : Int)).natAbs < 1073741824 := by omega
theorem nat_st {g : Nat} (h : 2 ≤ g) : (some (g : Int)) ≠ some 0 := fun e => nat_ne h (Option.some.inj e)
theorem small_list {vs : List Value} {ns : List Int} (h : IntsAre vs ns) (h7 : ns.length ≤ 7) : vs.toArray.size ≤ sizeLine := by
  rw [List.size_toArray, h.length]; exact Nat.le_trans h7 (by decide)
theorem rws_vals {rs : List Q4} {xs : List Int} (R : Rws rs xs) : IntsAre (vals rs) xs := by rw [← R.k]; exact vals_ints rs
theorem refs_len {rs : List Q4} {xs : List Int} (R : Rws rs xs) : (refs rs).length = xs.length := by rw [refs_length, rws_len R]
section
variable {prog : Program} {w : World} {A : Around} {E : Value → Shared → Prop} {s : Shared} {h₀ : Heap} {L : Addr} {m : Str → Option Value}
theorem ne_full {a b : Addr} {news : List (Addr × Obj)} {vs : List Value} {ns : List Int} {n k : Nat} {Q : Value → Shared → Prop} (N : News h₀ L s.heap news) (ha : (a, listOf vs.toArray n) ∈ news) (hi : IntsAre vs ns) (hn : ns ≠ []) (hb : (b, listOf ([] : List Value).toArray k) ∈ news) (hu : A.units + 64 < cLine)
    (h : Q (.bool true) s) : wpAny (model prog w) A (compareOp .NotEq (.ref a) (.ref b)) Q E s :=
  ne_intsK (vs := vs) (us := []) (ns := ns) (ms := []) ⟨_, (N _ ha).1, rfl, n, rfl⟩ hi ⟨_, (N _ hb).1, rfl, k, rfl⟩ .nil hu (by
    have e : (ns != ([] : List Int)) = true := by cases ns with | nil => exact absurd rfl hn | cons _ _ => rfl
    simpa [hn] using h)
theorem EltEnd.intro2 {s₁ : Shared} {I C D J : Addr} {oI oC oD : Obj} {news all l0 : List (Addr × Obj)} {xs : List Int} {vs : List Value} {nJ tk : Nat} {h' : Heap} {b d : Addr × Obj} (F : Fr h₀ L h' m)
    (N : News h₀ L h' (b :: d :: (J, listOf vs.toArray nJ) :: (I, oI) :: (C, oC) :: (D, oD) :: all)) (hsub : ∀ p ∈ news, p ∈ all) (O : Off J l0) (hO : ∀ p ∈ (I, oI) :: (C, oC) :: (D, oD) :: all, p ∈ l0) (hi : IntsAre vs (isort xs)) :
    EltEnd h₀ L m s₁ I oI C oC D oD news xs (.ref J) { s₁ with heap := h', toks := tk } :=
  EltEnd.intro (b := b) (d := d) F (fun q hq => N q (by
    rcases List.mem_cons.mp hq with rfl | hq
    · exact .head _
    rcases List.mem_cons.mp hq with rfl | hq
    · exact .tail _ (.head _)
    rcases List.mem_cons.mp hq with rfl | hq
    · exact .tail _ (.tail _ (.head _))
    rcases List.mem_cons.mp hq with rfl | hq
    · exact .tail _ (.tail _ (.tail _ (.head _)))
    rcases List.mem_cons.mp hq with rfl | hq
    · exact .tail _ (.tail _ (.tail _ (.tail _ (.head _))))
    rcases List.mem_cons.mp hq with rfl | hq
    · exact .tail _ (.tail _ (.tail _ (.tail _ (.tail _ (.head _)))))
    exact .tail _ (.tail _ (.tail _ (.tail _ (.tail _ (.tail _ (hsub q hq)))))))) ⟨off1_all fun p hp => off_mem O p (hO p (by
    rcases List.mem_cons.mp hp with rfl | hp
    · exact .head _
    rcases List.mem_cons.mp hp with rfl | hp
    · exact .tail _ (.head _)
    rcases List.mem_cons.mp hp with rfl | hp
    · exact .tail _ (.tail _ (.head _))
    exact .tail _ (.tail _ (.tail _ (hsub p hp)))))⟩ hi
/-- behind a comprehension in a turn: the rows are put to the rest of the ledger -/
theorem rows_fold {h : Heap} {p q I C D : Addr × Obj} {rs : List Q4} {all : List (Addr × Obj)} {G : Prop} (N : News h₀ L h (p :: (rs.map (fun q => (q.1, rowObj q)) ++ q :: I :: C :: D :: all)))
    (k : ∀ all2, (∀ x ∈ all, x ∈ all2) → (∀ x ∈ rs, (x.1, rowObj x) ∈ all2) → News h₀ L h (p :: q :: I :: C :: D :: all2) → G) : G :=
  k (rs.map (fun q => (q.1, rowObj q)) ++ all) (fun x hx => List.mem_append_right _ hx) (fun x hx => List.mem_append_left _ (List.mem_map.mpr ⟨x, hx, rfl⟩)) fun x hx => N x (by
    rcases List.mem_cons.mp hx with rfl | hx
    · exact .head _
    refine List.mem_cons_of_mem _ (List.mem_append.mpr ?_)
    rcases List.mem_cons.mp hx with rfl | hx
    · exact .inr (.head _)
    rcases List.mem_cons.mp hx with rfl | hx
    · exact .inr (.tail _ (.head _))
    rcases List.mem_cons.mp hx with rfl | hx
    · exact .inr (.tail _ (.tail _ (.head _)))
    rcases List.mem_cons.mp hx with rfl | hx
    · exact .inr (.tail _ (.tail _ (.tail _ (.head _))))
    rcases List.mem_append.mp hx with hx | hx
    · exact .inl hx
    · exact .inr (.tail _ (.tail _ (.tail _ (.tail _ hx)))))
end
theorem rows_tail {rs : List Q4} {all l : List (Addr × Obj)} (h : ∀ x ∈ rs, (x.1, rowObj x) ∈ all) (sub : ∀ p ∈ all, p ∈ l) : ∀ x ∈ rs, (x.1, rowObj x) ∈ l := fun x hx => sub _ (h x hx)
theorem its_small {g : Nat} {vs : List Value} {ns : List Int} {lots : List T4} (K : Lots g vs ns lots) (h5 : g ≤ 5) : (lots.map fun q => Value.ref q.1).toArray.size ≤ sizeLine := by
  rw [List.size_toArray, List.length_map, K.l]; exact Nat.le_trans h5 (by decide)
theorem lled_sub {lots : List T4} {l all : List (Addr × Obj)} (h : ∀ p ∈ l ++ lled lots, p ∈ all) : ∀ p ∈ lled lots, p ∈ all := fun p hp => h p (List.mem_append_right _ hp)
theorem its_get {vs : List Value} {i : Nat} {v u : Value} (h : vs.toArray[i]? = some v) (e : vs[i]? = some u) : v = u := by
  have h' : vs[i]? = some v := by simpa using h
  rw [e] at h'
  exact (Option.some.inj h').symm
theorem drop_lots {h₀ h : Heap} {L : Addr} {p a b c d e : Addr × Obj} {js l : List (Addr × Obj)} (N : News h₀ L h (p :: (js ++ (a :: b :: c :: d :: e :: l)))) : News h₀ L h (p :: a :: b :: c :: d :: e :: js) := fun x hx => N x (by
  simp only [List.mem_cons, List.mem_append] at hx ⊢
  rcases hx with h | h | h | h | h | h | h <;> simp [h])
theorem off_lots {D : Addr} {a b c d e : Addr × Obj} {js l : List (Addr × Obj)} (x : LCg.Off1 D (js ++ (a :: b :: c :: d :: e :: l))) : Off D (a :: b :: c :: d :: e :: js) := ⟨off1_all fun p hp => off_mem ⟨x⟩ p (by
  simp only [List.mem_cons, List.mem_append] at hp ⊢
  rcases hp with h | h | h | h | h | h <;> simp [h])⟩
theorem mod_sm {i g n : Nat} (h : i < n) (h7 : n ≤ 7) : i % g < 2 ^ 62 := Nat.lt_of_le_of_lt (Nat.mod_le i g) (by omega)
theorem div_sm {i g n : Nat} (h : i < n) (h7 : n ≤ 7) : i / g < 2 ^ 62 := Nat.lt_of_le_of_lt (Nat.div_le_self i g) (by omega)
end Mine
namespace Mine
/-- the numbers `gap` apart stand right -/
def stand (g : Nat) (ns : List Int) : Bool := (List.range (ns.length - g)).all fun i => decide ((ns[i]?).getD 0 ≤ (ns[i + g]?).getD 0)
theorem range_sub {n g : Nat} (h : n ≤ 7) (hg : g ≤ 7) : Builtin.Range.small 0 ((n : Int) - (g : Int)) 1 = true ∧ Builtin.Range.rangeSize 0 ((n : Int) - (g : Int)) 1 = ((n - g : Nat) : Int) := by
  have key : ∀ k l : Fin 8, Builtin.Range.small 0 (((k.val : Nat) : Int) - ((l.val : Nat) : Int)) 1 = true ∧ Builtin.Range.rangeSize 0 (((k.val : Nat) : Int) - ((l.val : Nat) : Int)) 1 = ((k.val - l.val : Nat) : Int) := by decide +kernel
  exact key ⟨n, Nat.lt_succ_of_le h⟩ ⟨g, Nat.lt_succ_of_le hg⟩
def le2 (g : Nat) (ns : List Int) (i : Nat) : Bool := decide ((ns[i]?).getD 0 ≤ (ns[i + g]?).getD 0)
theorem le2_eq {g : Nat} {ns : List Int} {i : Nat} {a b : Int} (h1 : ns[i]? = some a) (h2 : ns[i + g]? = some b) : le2 g ns i = decide (a ≤ b) := by simp [le2, h1, h2]
theorem bools_range {b : Nat → Bool} : ∀ (l : List Nat), LSm.BoolsAre (l.map fun i => Value.bool (b i)) (l.map b)
  | [] => .nil
  | _ :: r => .cons _ (bools_range r)
theorem stand_eq (g : Nat) (ns : List Int) : ((List.range (ns.length - g)).map (le2 g ns)).all id = stand g ns := by
  rw [List.all_map]; rfl
theorem two_get {vs : List Value} {ns : List Int} (h : IntsAre vs ns) {g i : Nat} (hi : i < ns.length - g) : ∃ a b t u, vs[i]? = some (.int a t) ∧ vs[i + g]? = some (.int b u) ∧ ns[i]? = some a ∧ ns[i + g]? = some b := by
  have h1 : ns[i]? = some ns[i] := List.getElem?_eq_getElem (show i < ns.length by omega)
  have h2 : ns[i + g]? = some ns[i + g] := List.getElem?_eq_getElem (show i + g < ns.length by omega)
  obtain ⟨t, e1⟩ := ints_get h h1
  obtain ⟨u, e2⟩ := ints_get h h2
  exact ⟨_, _, t, u, e1, e2, h1, h2⟩
end Mine
namespace Mine
structure Far (d : Nat) (ms : List Int) : Prop where
  out : ∀ e, d ≤ e → stand e ms = true
structure Std (g : Nat) (ms : List Int) : Prop where
  out : stand g ms = true
theorem three {vs : List Value} {l : List Int} {u : List Int} {f : Int → Int} (hu : u.length = 3) (h : IntsAre vs (List.map f (List.take 3 l) ++ List.drop (List.take 3 l).length u)) : ∃ c0 c1 c2 t0 t1 t2, vs = [.int c0 t0, .int c1 t1, .int c2 t2] := by
  have hl : (List.map f (List.take 3 l) ++ List.drop (List.take 3 l).length u).length = 3 := by
    simp only [List.length_append, List.length_map, List.length_drop, List.length_take, hu]; omega
  obtain ⟨_, _, _, _, _, _, e, _⟩ := up3 h hl
  exact ⟨_, _, _, _, _, _, e⟩
theorem n_of (c : Int) : ∃ n : Nat, 3 + c.fmod 5 = (n : Int) ∧ 3 ≤ n ∧ n ≤ 7 := by
  have h1 : c.fmod 5 = c % 5 := Int.fmod_eq_emod_of_nonneg _ (by decide)
  have h2 := Int.emod_nonneg c (show (5 : Int) ≠ 0 by decide)
  have h3 := Int.emod_lt_of_pos c (show (0 : Int) < 5 by decide)
  refine ⟨(3 + c % 5).toNat, ?_, ?_, ?_⟩ <;> rw [] <;> omega
theorem m4 (c : Int) : c.fmod 4 = 0 ∨ c.fmod 4 = 1 ∨ c.fmod 4 = 2 ∨ c.fmod 4 = 3 := by
  have h1 : c.fmod 4 = c % 4 := Int.fmod_eq_emod_of_nonneg _ (by decide)
  omega
theorem p10 {i : Nat} (h : i < 7) : ((10 : Int) ^ ((i : Int)).toNat ≠ 0) ∧ ((10 : Int) ^ ((i : Int)).toNat).natAbs < 1073741824 := by
  match i, h with
  | 0, _ => decide
  | 1, _ => decide
  | 2, _ => decide
  | 3, _ => decide
  | 4, _ => decide
  | 5, _ => decide
  | 6, _ => decide
structure P10 (p : Int) : Prop where
  nz : p ≠ 0
  sm : p.natAbs < 1073741824
section
variable {prog : Program} {w : World} {A : Around} {E : Value → Shared → Prop} {s : Shared} {h₀ : Heap} {L : Addr} {m : Str → Option Value} {env : Env}
theorem pow10 {i : Nat} {t u : Tok} {Q : Value → Shared → Prop} (hi : i < 7) (h : Q (.int (10 ^ ((i : Int)).toNat) s.toks) { s with toks := s.toks + 1 }) : wpAny (model prog w) A (binaryOp .Pow (.int 10 t) (.int (i : Int) u)) Q E s :=
  PyProof.Rows.pow_int_small (Int.natCast_nonneg _) (by omega) (by decide) h
theorem div10 {i : Nat} {a : Int} {t u : Tok} {Q : Value → Shared → Prop} (hi : i < 7) (h : Q (.int (a.fdiv (10 ^ ((i : Int)).toNat)) s.toks) { s with toks := s.toks + 1 }) : wpAny (model prog w) A (binaryOp .FloorDiv (.int a t) (.int (10 ^ ((i : Int)).toNat) u)) Q E s :=
  PyProof.Rows.floordiv_int (p10 hi).1 h (Or.inl (PyProof.noPylong_small (p10 hi).2))
def IntEnd (h₀ : Heap) (L : Addr) (m : Str → Option Value) (s₁ : Shared) (I : Addr) (oI : Obj) (C : Addr) (oC : Obj) (D : Addr) (oD : Obj) (news : List (Addr × Obj)) (y : Value) (s₂ : Shared) : Prop :=
  (∃ z t, y = .int z t) ∧ ∃ h' tk, s₂ = { s₁ with heap := h', toks := tk } ∧ Fr h₀ L h' m ∧ News h₀ L h' ((I, oI) :: (C, oC) :: (D, oD) :: news)
theorem comp4 {elt : PySem.Expr} {x : Str} {scope : Scope} {cl : List (Str × Addr)} {n : Nat} {news : List (Addr × Obj)} {Fin : List Value → List (Addr × Obj) → Prop}
    (turn : ∀ (i : Nat) (I : Addr) (oI : Obj) (C : Addr) (oC : Obj) (D : Addr) (oD : Obj) (m₂ : Str → Option Value) (h : Heap) (tk : Nat) (t : Tok) (E' : Value → Shared → Prop), i < n →
      LCg.NsObj oC m₂ → m₂ x = some (.int (i : Int) t) → Fr h₀ L h m → News h₀ L h ((I, oI) :: (C, oC) :: (D, oD) :: news) → LCg.Off3 I C D news → ((@Ne Nat I C) ∧ (@Ne Nat I D) ∧ (@Ne Nat C D)) →
      wpAny (model prog w) A (eval elt (compEnvC scope cl C env)) (IntEnd h₀ L m { s with heap := h, toks := tk } I oI C oC D oD news) E' { s with heap := h, toks := tk })
    (fin : ∀ ys ns, IntsAre ys ns → ns.length = n → Fin ys news) :
    ∀ (k i : Nat) (ys : List Value) (ns : List Int), n = i + k → IntsAre ys ns → ns.length = i → LCg.CompRest prog w A h₀ L m env elt x scope cl s (fun _ => True) (fun i v => ∃ t, v = .int (0 + (i : Int)) t) Fin k i ys news
  | 0, i, ys, ns, e, hI, hl => fin ys ns hI (by omega)
  | k + 1, i, ys, ns, e, hI, hl => by
    refine LCg.CompRest.succ fun v I oI C oC D m₂ h tk E' hv hC hx F N off ne => ?_
    obtain ⟨t, rfl⟩ := hv
    rw [Int.zero_add] at hx
    refine wpAny_mono (turn i I oI C oC D _ m₂ h tk t E' (by omega) hC hx F N off ne) (fun y s₂ q => ?_) fun _ _ y => y
    obtain ⟨⟨z, t', rfl⟩, h', tk', rfl, F', N'⟩ := q
    refine LCg.CompEnd.intro F' N' _ (fun p hp => hp) off trivial ?_
    exact comp4 turn fin k (i + 1) _ (ns ++ [z]) (by omega) (IntsAre.append hI (.cons _ _ .nil)) (by simp [hl])
theorem comp4' {elt : PySem.Expr} {x : Str} {scope : Scope} {cl : List (Str × Addr)} {n : Nat} {news : List (Addr × Obj)} {Fin : List Value → List (Addr × Obj) → Prop}
    (turn : ∀ (i : Nat) (I : Addr) (oI : Obj) (C : Addr) (oC : Obj) (D : Addr) (oD : Obj) (m₂ : Str → Option Value) (h : Heap) (tk : Nat) (t : Tok) (E' : Value → Shared → Prop), i < n →
      LCg.NsObj oC m₂ → m₂ x = some (.int (i : Int) t) → Fr h₀ L h m → News h₀ L h ((I, oI) :: (C, oC) :: (D, oD) :: news) → LCg.Off3 I C D news → ((@Ne Nat I C) ∧ (@Ne Nat I D) ∧ (@Ne Nat C D)) →
      wpAny (model prog w) A (eval elt (compEnvC scope cl C env)) (IntEnd h₀ L m { s with heap := h, toks := tk } I oI C oC D oD news) E' { s with heap := h, toks := tk })
    (fin : ∀ ys ns, IntsAre ys ns → ns.length = n → Fin ys news) :
    LCg.CompRest prog w A h₀ L m env elt x scope cl s (fun _ => True) (fun i v => ∃ t, v = .int (0 + (i : Int)) t) Fin n 0 [] news := comp4 turn fin n 0 [] [] (by omega) .nil rfl
end
section
variable {prog : Program} {w : World} {A : Around} {E : Value → Shared → Prop} {s : Shared} {h₀ : Heap} {L : Addr} {m : Str → Option Value} {env : Env}
/-- a comprehension over range(a, a + n) with items told ahead -/
theorem comp5 {elt : PySem.Expr} {x : Str} {scope : Scope} {cl : List (Str × Addr)} {a : Int} {n : Nat} {f : Nat → Value} {news : List (Addr × Obj)} {Fin : List Value → List (Addr × Obj) → Prop}
    (turn : ∀ (i : Nat) (I : Addr) (oI : Obj) (C : Addr) (oC : Obj) (D : Addr) (oD : Obj) (m₂ : Str → Option Value) (h : Heap) (tk : Nat) (t : Tok) (E' : Value → Shared → Prop), i < n →
      LCg.NsObj oC m₂ → m₂ x = some (.int (a + (i : Int)) t) → Fr h₀ L h m → News h₀ L h ((I, oI) :: (C, oC) :: (D, oD) :: news) → LCg.Off3 I C D news → ((@Ne Nat I C) ∧ (@Ne Nat I D) ∧ (@Ne Nat C D)) →
      wpAny (model prog w) A (eval elt (compEnvC scope cl C env)) (ItemEnd h₀ L m { s with heap := h, toks := tk } I oI C oC D oD news (f i)) E' { s with heap := h, toks := tk })
    (fin : Fin ((List.range n).map f) news) :
    ∀ (k i : Nat), n = i + k → LCg.CompRest prog w A h₀ L m env elt x scope cl s (fun _ => True) (fun i v => ∃ t, v = .int (a + (i : Int)) t) Fin k i ((List.range i).map f) news
  | 0, i, e => by
    rw [Nat.add_zero] at e
    subst e
    exact fin
  | k + 1, i, e => by
    refine LCg.CompRest.succ fun v I oI C oC D m₂ h tk E' hv hC hx F N off ne => ?_
    obtain ⟨t, rfl⟩ := hv
    refine wpAny_mono (turn i I oI C oC D _ m₂ h tk t E' (by omega) hC hx F N off ne) (fun y s₂ q => ?_) fun _ _ y => y
    obtain ⟨rfl, h', tk', rfl, F', N'⟩ := q
    refine LCg.CompEnd.intro F' N' _ (fun p hp => hp) off trivial ?_
    have := comp5 turn fin k (i + 1) (by omega)
    rw [List.range_succ, List.map_append] at this
    exact this
theorem range_from {a n : Nat} (ha : a ≤ 7) (h : n ≤ 7) : Builtin.Range.small (a : Int) (n : Int) 1 = true ∧ Builtin.Range.rangeSize (a : Int) (n : Int) 1 = ((n - a : Nat) : Int) := by
  have key : ∀ k l : Fin 8, Builtin.Range.small ((k.val : Nat) : Int) ((l.val : Nat) : Int) 1 = true ∧ Builtin.Range.rangeSize ((k.val : Nat) : Int) ((l.val : Nat) : Int) 1 = ((l.val - k.val : Nat) : Int) := by decide +kernel
  exact key ⟨a, Nat.lt_succ_of_le ha⟩ ⟨n, Nat.lt_succ_of_le h⟩
end
structure PermF (xs zs : List Int) : Prop where
  out : xs.Perm zs
theorem sorted_eq {ns ms xs zs : List Int} (p1 : ns.Perm xs) (o1 : List.Pairwise (fun x1 x2 => x1 ≤ x2) ns) (p2 : ms.Perm zs) (o2 : List.Pairwise (fun x1 x2 => x1 ≤ x2) ms) (h : xs.Perm zs) : ns = ms :=
  List.Perm.eq_of_pairwise (fun a b _ _ h1 h2 => Int.le_antisymm h1 h2) o1 o2 ((p1.trans h).trans p2.symm)
section
variable {prog : Program} {w : World} {A : Around} {E : Value → Shared → Prop} {s : Shared}
theorem ne_same {h₀ : Heap} {L a b : Addr} {news : List (Addr × Obj)} {vs us : List Value} {ns ms : List Int} {n k : Nat} {Q : Value → Shared → Prop} (N : News h₀ L s.heap news) (ha : (a, listOf vs.toArray n) ∈ news) (hi : IntsAre vs ns) (hb : (b, listOf us.toArray k) ∈ news) (hj : IntsAre us ms) (e : ns = ms) (hu : A.units + 64 < cLine)
    (h : Q (.bool false) s) : wpAny (model prog w) A (compareOp .NotEq (.ref a) (.ref b)) Q E s :=
  ne_intsK ⟨_, (N _ ha).1, rfl, n, rfl⟩ hi ⟨_, (N _ hb).1, rfl, k, rfl⟩ hj hu (by simpa [e] using h)
end
section
variable {prog : Program} {w : World} {A : Around} {E : Value → Shared → Prop} {s : Shared} {h₀ : Heap} {L : Addr} {m : Str → Option Value} {env : Env}
theorem comp5' {elt : PySem.Expr} {x : Str} {scope : Scope} {cl : List (Str × Addr)} {a : Int} {n : Nat} {f : Nat → Value} {news : List (Addr × Obj)} {Fin : List Value → List (Addr × Obj) → Prop}
    (turn : ∀ (i : Nat) (I : Addr) (oI : Obj) (C : Addr) (oC : Obj) (D : Addr) (oD : Obj) (m₂ : Str → Option Value) (h : Heap) (tk : Nat) (t : Tok) (E' : Value → Shared → Prop), i < n →
      LCg.NsObj oC m₂ → m₂ x = some (.int (a + (i : Int)) t) → Fr h₀ L h m → News h₀ L h ((I, oI) :: (C, oC) :: (D, oD) :: news) → LCg.Off3 I C D news → ((@Ne Nat I C) ∧ (@Ne Nat I D) ∧ (@Ne Nat C D)) →
      wpAny (model prog w) A (eval elt (compEnvC scope cl C env)) (ItemEnd h₀ L m { s with heap := h, toks := tk } I oI C oC D oD news (f i)) E' { s with heap := h, toks := tk })
    (fin : Fin ((List.range n).map f) news) : LCg.CompRest prog w A h₀ L m env elt x scope cl s (fun _ => True) (fun i v => ∃ t, v = .int (a + (i : Int)) t) Fin n 0 [] news := comp5 turn fin n 0 (by omega)
end
theorem all_true (n : Nat) : ((List.range n).map fun _ => true).all id = true := by simp
end Mine
namespace Mine
/-- marks: does a number reach the line? -/
def mk (c : Int) (x : Int) : Int := if c ≤ x then 1 else 0
theorem mk_mono {c x y : Int} (h : x ≤ y) : mk c x ≤ mk c y := by
  unfold mk; split <;> split <;> omega
theorem ins_perm (x : Int) : ∀ (l : List Int), (ins x l).Perm (x :: l)
  | [] => List.Perm.refl _
  | y :: r => by
    unfold ins
    split
    · exact ((ins_perm x r).cons y).trans (List.Perm.swap x y r)
    · exact List.Perm.refl _
theorem fold_perm : ∀ (l acc : List Int), (l.foldl (fun a x => ins x a) acc).Perm (l ++ acc)
  | [], _ => List.Perm.refl _
  | x :: r, acc => by
    refine (fold_perm r (ins x acc)).trans ?_
    refine ((ins_perm x acc).append_left r).trans ?_
    exact List.perm_middle
theorem isort_perm (l : List Int) : (isort l).Perm l := by
  have := fold_perm l []
  rw [List.append_nil] at this
  exact this
theorem isort_map {f : Int → Int} (hf : ∀ x y, x ≤ y → f x ≤ f y) (l : List Int) : isort (l.map f) = (isort l).map f := by
  refine List.Perm.eq_of_pairwise (fun a b _ _ h1 h2 => Int.le_antisymm h1 h2) (isort_sorted _) ?_ ((isort_perm _).trans ((isort_perm l).map f).symm)
  exact (isort_sorted l).map f fun a b h => hf a b h
def inbB (g : Nat) : Bool := (List.range 5).all fun j => (List.range (j + 3)).all fun i => decide (i / g < (lotI ((i % g : Nat) : Int) (g : Int) (List.replicate (j + 3) 0)).length)
theorem inb {g : Nat} (hg : inbB g = true) {ns : List Int} (h3 : 3 ≤ ns.length) (h7 : ns.length ≤ 7) {i : Nat} (hi : i < ns.length) : i / g < (lotI ((i % g : Nat) : Int) (g : Int) ns).length := by
  unfold inbB at hg
  rw [List.all_eq_true] at hg
  have h1 := hg (ns.length - 3) (List.mem_range.mpr (by omega))
  rw [List.all_eq_true] at h1
  have h2 := h1 i (List.mem_range.mpr (by omega))
  rw [show ns.length - 3 + 3 = ns.length by omega] at h2
  rw [lotI_len]
  exact of_decide_eq_true h2
theorem inb2 : inbB 2 = true := by decide +kernel
theorem inb3 : inbB 3 = true := by decide +kernel
theorem inb4 : inbB 4 = true := by decide +kernel
theorem inb5 : inbB 5 = true := by decide +kernel
theorem lsort_map {f : Int → Int} (hf : ∀ x y, x ≤ y → f x ≤ f y) {g : Nat} (hg : inbB g = true) {ns : List Int} (h3 : 3 ≤ ns.length) (h7 : ns.length ≤ 7) : lsort g (ns.map f) = (lsort g ns).map f := by
  unfold lsort
  rw [List.map_map, List.length_map]
  refine List.map_congr_left fun i hi => ?_
  have hi' := List.mem_range.mp hi
  have hb := inb hg h3 h7 hi'
  rw [lotI_map, isort_map hf, List.getElem?_map]
  obtain ⟨y, hy⟩ := some_get hb
  simp only [Function.comp, hy, Option.map_some, Option.getD_some]
theorem stand_marks {d : Nat} {ms : List Int} (h : ∀ c, stand d (ms.map (mk c)) = true) : stand d ms = true := by
  unfold stand
  rw [List.all_eq_true]
  intro i hi
  have hi' := List.mem_range.mp hi
  have h1 : ms[i]? = some ms[i] := List.getElem?_eq_getElem (show i < ms.length by omega)
  have h2 : ms[i + d]? = some ms[i + d] := List.getElem?_eq_getElem (show i + d < ms.length by omega)
  have hc := h ms[i]
  unfold stand at hc
  rw [List.all_eq_true] at hc
  have hq := of_decide_eq_true (hc i (List.mem_range.mpr (by rw [List.length_map]; exact hi')))
  rw [List.getElem?_map, List.getElem?_map, h1, h2] at hq
  simp only [Option.map_some, Option.getD_some] at hq
  rw [h1, h2]
  simp only [Option.getD_some]
  refine decide_eq_true ?_
  unfold mk at hq
  rw [if_pos (Int.le_refl _)] at hq
  by_cases e : ms[i] ≤ ms[i + d]
  · exact e
  · rw [if_neg e] at hq; omega
def bitsL : Nat → List (List Int)
  | 0 => [[]]
  | n + 1 => (bitsL n).flatMap fun l => [0 :: l, 1 :: l]
theorem mem_bits (c : Int) : ∀ (l : List Int), l.map (mk c) ∈ bitsL l.length
  | [] => by simp [bitsL]
  | x :: r => by
    show _ ∈ (bitsL r.length).flatMap _
    refine List.mem_flatMap.mpr ⟨r.map (mk c), mem_bits c r, ?_⟩
    rw [List.map_cons]
    unfold mk
    split <;> simp
def chk1 (h k : Nat) (l : List Int) : Bool :=
  stand h (lsort h l) && stand h (lsort k (lsort h l)) && stand k (lsort k (lsort h l)) && ((List.range 8).all fun d => decide (d < (h - 1) * (k - 1)) || stand d (lsort k (lsort h l))) && decide ((lsort h l).sum = l.sum) && decide ((lsort k (lsort h l)).sum = l.sum)
def chk (h k n : Nat) : Bool := (bitsL n).all (chk1 h k)
theorem sum_marks (c : Int) : ∀ (l : List Int), (l.map (mk c)).sum = (l.countP (fun x => decide (c ≤ x)) : Nat)
  | [] => rfl
  | x :: r => by
    rw [List.map_cons, List.sum_cons, sum_marks c r, List.countP_cons]
    unfold mk
    by_cases h : c ≤ x <;> simp [h] <;> omega
theorem perm_marks {xs ys : List Int} (h : ∀ c, (xs.map (mk c)).sum = (ys.map (mk c)).sum) : xs.Perm ys := by
  rw [List.perm_iff_count]
  intro a
  have split : ∀ l : List Int, l.countP (fun x => decide (a ≤ x)) = l.count a + l.countP (fun x => decide (a + 1 ≤ x)) := by
    intro l
    induction l with
    | nil => rfl
    | cons x r ih =>
      rw [List.countP_cons, List.count_cons, List.countP_cons, ih]
      by_cases h1 : x = a
      · subst h1
        have h3 : ¬ x + 1 ≤ x := by omega
        simp [h3]; omega
      · by_cases h2 : a ≤ x
        · have h3 : a + 1 ≤ x := by omega
          simp [h1, h2, h3]; omega
        · have h3 : ¬ a + 1 ≤ x := by omega
          simp [h1, h2, h3]
  have e1 := h a
  have e2 := h (a + 1)
  rw [sum_marks, sum_marks] at e1 e2
  have s1 := split xs
  have s2 := split ys
  omega
theorem fact1 {h k : Nat} {ns : List Int} (hh : inbB h = true) (hk : inbB k = true) (hc : ∀ n, 3 ≤ n → n ≤ 7 → chk h k n = true) (h3 : 3 ≤ ns.length) (h7 : ns.length ≤ 7) :
    Std h (lsort h ns) ∧ Std h (lsort k (lsort h ns)) ∧ Std k (lsort k (lsort h ns)) ∧ Far ((h - 1) * (k - 1)) (lsort k (lsort h ns)) ∧ PermF (lsort h ns) ns ∧ PermF (lsort k (lsort h ns)) ns := by
  have e1 : ∀ c, (lsort h ns).map (mk c) = lsort h (ns.map (mk c)) := fun c => (lsort_map (fun _ _ => mk_mono) hh h3 h7).symm
  have e2 : ∀ c, (lsort k (lsort h ns)).map (mk c) = lsort k (lsort h (ns.map (mk c))) := fun c => by
    rw [← e1, lsort_map (fun _ _ => mk_mono) hk (by rw [lsort_length]; exact h3) (by rw [lsort_length]; exact h7)]
  have key : ∀ c, chk1 h k (ns.map (mk c)) = true := fun c => List.all_eq_true.mp (hc _ h3 h7) _ (mem_bits c ns)
  simp only [chk1, Bool.and_eq_true, decide_eq_true_eq] at key
  refine ⟨⟨stand_marks fun c => ?_⟩, ⟨stand_marks fun c => ?_⟩, ⟨stand_marks fun c => ?_⟩, ⟨fun e he => ?_⟩, ⟨perm_marks fun c => ?_⟩, ⟨perm_marks fun c => ?_⟩⟩
  · rw [e1]; exact (key c).1.1.1.1.1
  · rw [e2]; exact (key c).1.1.1.1.2
  · rw [e2]; exact (key c).1.1.1.2
  · by_cases h8 : e < 8
    · refine stand_marks fun c => ?_
      rw [e2]
      have := List.all_eq_true.mp (key c).1.1.2 e (List.mem_range.mpr h8)
      simp only [Bool.or_eq_true, decide_eq_true_eq] at this
      rcases this with h | h
      · omega
      · exact h
    · unfold stand
      rw [lsort_length, lsort_length, show ns.length - e = 0 by omega]
      rfl
  · rw [e1]; exact (key c).1.2
  · rw [e2]; exact (key c).2
/-- the same, each lot sorted once -/
def lsortQ (g : Nat) (ns : List Int) : List Int := (fun L : List (List Int) => (List.range ns.length).map fun i => (((L[i % g]?).getD [])[i / g]?).getD 0) ((List.range g).map fun b => isort (lotI ((b : Nat) : Int) (g : Int) ns))
theorem lsortQ_eq {g : Nat} (hg : 0 < g) (ns : List Int) : lsortQ g ns = lsort g ns := by
  unfold lsortQ lsort
  refine List.map_congr_left fun i _ => ?_
  have hm : i % g < g := Nat.mod_lt _ hg
  simp only [List.getElem?_map, List.getElem?_range hm, Option.map_some, Option.getD_some]
def chk1Q (h k : Nat) (l : List Int) : Bool :=
  (fun a : List Int => (fun b : List Int => stand h a && stand h b && stand k b && ((List.range 8).all fun d => decide (d < (h - 1) * (k - 1)) || stand d b) && decide (a.sum = l.sum) && decide (b.sum = l.sum)) (lsortQ k a)) (lsortQ h l)
theorem chk1Q_eq {h k : Nat} (hh : 0 < h) (hk : 0 < k) (l : List Int) : chk1Q h k l = chk1 h k l := by
  unfold chk1Q chk1
  simp only [lsortQ_eq hh, lsortQ_eq hk]
def chkQ (h k n : Nat) : Bool := (bitsL n).all (chk1Q h k)
theorem chk_of {h k n : Nat} (hh : Nat.blt 0 h = true) (hk : Nat.blt 0 k = true) (e : chkQ h k n = true) : chk h k n = true := by
  unfold chkQ at e
  unfold chk
  rw [List.all_eq_true] at e ⊢
  intro l hl
  rw [← chk1Q_eq (Nat.le_of_ble_eq_true hh) (Nat.le_of_ble_eq_true hk)]
  exact e l hl
theorem chk_all {h k : Nat} (h3 : chk h k 3 = true) (h4 : chk h k 4 = true) (h5 : chk h k 5 = true) (h6 : chk h k 6 = true) (h7 : chk h k 7 = true) : ∀ n, 3 ≤ n → n ≤ 7 → chk h k n = true := by
  intro n a b
  match n, a, b with
  | 3, _, _ => exact h3
  | 4, _, _ => exact h4
  | 5, _, _ => exact h5
  | 6, _, _ => exact h6
  | 7, _, _ => exact h7
theorem fact_a {ns : List Int} (h3 : 3 ≤ ns.length) (h7 : ns.length ≤ 7) : Std 2 (lsort 2 ns) ∧ Std 2 (lsort 3 (lsort 2 ns)) ∧ Std 3 (lsort 3 (lsort 2 ns)) ∧ Far ((2 - 1) * (3 - 1)) (lsort 3 (lsort 2 ns)) ∧ PermF (lsort 2 ns) ns ∧ PermF (lsort 3 (lsort 2 ns)) ns :=
  fact1 inb2 inb3 (chk_all (chk_of rfl rfl (by decide +kernel)) (chk_of rfl rfl (by decide +kernel)) (chk_of rfl rfl (by decide +kernel)) (chk_of rfl rfl (by decide +kernel)) (chk_of rfl rfl (by decide +kernel))) h3 h7
theorem fact_b {ns : List Int} (h3 : 3 ≤ ns.length) (h7 : ns.length ≤ 7) : Std 3 (lsort 3 ns) ∧ Std 3 (lsort 2 (lsort 3 ns)) ∧ Std 2 (lsort 2 (lsort 3 ns)) ∧ Far ((3 - 1) * (2 - 1)) (lsort 2 (lsort 3 ns)) ∧ PermF (lsort 3 ns) ns ∧ PermF (lsort 2 (lsort 3 ns)) ns :=
  fact1 inb3 inb2 (chk_all (chk_of rfl rfl (by decide +kernel)) (chk_of rfl rfl (by decide +kernel)) (chk_of rfl rfl (by decide +kernel)) (chk_of rfl rfl (by decide +kernel)) (chk_of rfl rfl (by decide +kernel))) h3 h7
theorem fact_c {ns : List Int} (h3 : 3 ≤ ns.length) (h7 : ns.length ≤ 7) : Std 2 (lsort 2 ns) ∧ Std 2 (lsort 5 (lsort 2 ns)) ∧ Std 5 (lsort 5 (lsort 2 ns)) ∧ Far ((2 - 1) * (5 - 1)) (lsort 5 (lsort 2 ns)) ∧ PermF (lsort 2 ns) ns ∧ PermF (lsort 5 (lsort 2 ns)) ns :=
  fact1 inb2 inb5 (chk_all (chk_of rfl rfl (by decide +kernel)) (chk_of rfl rfl (by decide +kernel)) (chk_of rfl rfl (by decide +kernel)) (chk_of rfl rfl (by decide +kernel)) (chk_of rfl rfl (by decide +kernel))) h3 h7
theorem fact_d {ns : List Int} (h3 : 3 ≤ ns.length) (h7 : ns.length ≤ 7) : Std 4 (lsort 4 ns) ∧ Std 4 (lsort 3 (lsort 4 ns)) ∧ Std 3 (lsort 3 (lsort 4 ns)) ∧ Far ((4 - 1) * (3 - 1)) (lsort 3 (lsort 4 ns)) ∧ PermF (lsort 4 ns) ns ∧ PermF (lsort 3 (lsort 4 ns)) ns :=
  fact1 inb4 inb3 (chk_all (chk_of rfl rfl (by decide +kernel)) (chk_of rfl rfl (by decide +kernel)) (chk_of rfl rfl (by decide +kernel)) (chk_of rfl rfl (by decide +kernel)) (chk_of rfl rfl (by decide +kernel))) h3 h7
end Mine
namespace Mine
/-- the pairs of the law's menu -/
structure Menu (h k : Nat) : Prop where
  out : (h = 2 ∧ k = 3) ∨ (h = 3 ∧ k = 2) ∨ (h = 2 ∧ k = 5) ∨ (h = 4 ∧ k = 3)
theorem menu_facts {h k : Nat} (M : Menu h k) {ns : List Int} (h3 : 3 ≤ ns.length) (h7 : ns.length ≤ 7) : Std h (lsort h ns) ∧ Std h (lsort k (lsort h ns)) ∧ Std k (lsort k (lsort h ns)) ∧ Far ((h - 1) * (k - 1)) (lsort k (lsort h ns)) ∧ PermF (lsort h ns) ns ∧ PermF (lsort k (lsort h ns)) ns := by
  rcases M.out with ⟨rfl, rfl⟩ | ⟨rfl, rfl⟩ | ⟨rfl, rfl⟩ | ⟨rfl, rfl⟩
  · exact fact_a h3 h7
  · exact fact_b h3 h7
  · exact fact_c h3 h7
  · exact fact_d h3 h7
theorem menu_bounds {h k : Nat} (M : Menu h k) : 2 ≤ h ∧ h ≤ 5 ∧ 2 ≤ k ∧ k ≤ 5 ∧ (h - 1) * (k - 1) ≤ 6 := by
  rcases M.out with ⟨rfl, rfl⟩ | ⟨rfl, rfl⟩ | ⟨rfl, rfl⟩ | ⟨rfl, rfl⟩ <;> decide
theorem menu_mul {h k : Nat} (M : Menu h k) : ((h : Int) - 1) * ((k : Int) - 1) = (((h - 1) * (k - 1) : Nat) : Int) := by
  rcases M.out with ⟨rfl, rfl⟩ | ⟨rfl, rfl⟩ | ⟨rfl, rfl⟩ | ⟨rfl, rfl⟩ <;> decide
theorem menu_fit {h k : Nat} (M : Menu h k) : IntMulOk ((h : Int) - 1) ((k : Int) - 1) := by
  rcases M.out with ⟨rfl, rfl⟩ | ⟨rfl, rfl⟩ | ⟨rfl, rfl⟩ | ⟨rfl, rfl⟩ <;> exact IntMulOk.of_left (by decide)
theorem m4n (c : Int) : ∃ i : Nat, c.fmod 4 = (i : Int) ∧ i < 4 := by
  rcases m4 c with e | e | e | e
  · exact ⟨0, e, by decide⟩
  · exact ⟨1, e, by decide⟩
  · exact ⟨2, e, by decide⟩
  · exact ⟨3, e, by decide⟩
section
variable {prog : Program} {w : World} {A : Around} {E : Value → Shared → Prop} {s : Shared} {h₀ : Heap} {L : Addr} {m : Str → Option Value} {env : Env}
def pairObj (h k : Int) (t u : Tok) (n : Nat) : Obj := ⟨.type "tuple", none, .seq [.int h t, .int k u].toArray n, #[]⟩
theorem item_menu {news : List (Addr × Obj)} {value slice : PySem.Expr} {l T1 T2 T3 T4 : Addr} {n n1 n2 n3 n4 : Nat} {t1 t2 t3 t4 u1 u2 u3 u4 u : Tok} {i : Nat} {Q : Value → Shared → Prop} (N : News h₀ L s.heap news) (hm : (l, listOf [.ref T1, .ref T2, .ref T3, .ref T4].toArray n) ∈ news)
    (m1 : (T1, pairObj 2 3 t1 u1 n1) ∈ news) (m2 : (T2, pairObj 3 2 t2 u2 n2) ∈ news) (m3 : (T3, pairObj 2 5 t3 u3 n3) ∈ news) (m4 : (T4, pairObj 4 3 t4 u4 n4) ∈ news) (hi : i < 4)
    (h : ∀ T h k t u n', (T, pairObj ((h : Nat) : Int) ((k : Nat) : Int) t u n') ∈ news → Menu h k → Q (.ref T) s)
    (hs : subscripted slice false (.ref l) (.int (i : Int) u) = operate [.ref l, .int (i : Int) u] (getItem (.ref l) (.int (i : Int) u))) :
    wpAny (model prog w) A (subscriptTail value slice (.ref l) (.int (i : Int) u)) Q E s := by
  match i, hi, hs with
  | 0, _, hs => exact item_nat N hm (j := 0) rfl rfl (by decide) (h T1 2 3 t1 u1 n1 m1 ⟨.inl ⟨rfl, rfl⟩⟩) hs
  | 1, _, hs => exact item_nat N hm (j := 1) rfl rfl (by decide) (h T2 3 2 t2 u2 n2 m2 ⟨.inr (.inl ⟨rfl, rfl⟩)⟩) hs
  | 2, _, hs => exact item_nat N hm (j := 2) rfl rfl (by decide) (h T3 2 5 t3 u3 n3 m3 ⟨.inr (.inr (.inl ⟨rfl, rfl⟩))⟩) hs
  | 3, _, hs => exact item_nat N hm (j := 3) rfl rfl (by decide) (h T4 4 3 t4 u4 n4 m4 ⟨.inr (.inr (.inr ⟨rfl, rfl⟩))⟩) hs
theorem unpack_menu {elts : List PySem.Expr} {k} {pos : Pos} {T : Addr} {x y : Int} {t u : Tok} {n : Nat} {news : List (Addr × Obj)} {Q : Unit → Shared → Prop} (F : Fr h₀ L s.heap m) (N : News h₀ L s.heap news) (hm : (T, pairObj x y t u n) ∈ news)
    (hh : A.handled = none) (hn : (assignEach elts env).length = 2) (hstar : (assignEach elts env).findIdx? (·.1) = none)
    (h : ∀ h', Fr h₀ L h' m → News h₀ L h' news → wpAny (model prog w) A (assignInOrder ((assignEach elts env).map (·.2)) [.int x t, .int y u]) Q E { s with heap := h' }) :
    wpAny (model prog w) A (assign (.Tuple elts k pos) env (.ref T)) Q E s :=
  unpackN_ (items := [.int x t, .int y u].toArray) F N ⟨_, (N _ hm).1, rfl, n, rfl⟩ hh hn hstar h
end
theorem stopM {P : Prop} (h : Stop P) : P := h
theorem menu_all {h k : Nat} (M : Menu h k) {ns : List Int} (h3 : 3 ≤ ns.length) (h7 : ns.length ≤ 7) : ∃ d : Nat, ((h : Int) - 1) * ((k : Int) - 1) = (d : Int) ∧ d ≤ 6 ∧ 2 ≤ h ∧ h ≤ 5 ∧ 2 ≤ k ∧ k ≤ 5 ∧
    Std h (lsort h ns) ∧ Std h (lsort k (lsort h ns)) ∧ Std k (lsort k (lsort h ns)) ∧ Far d (lsort k (lsort h ns)) ∧ PermF (lsort h ns) ns ∧ PermF (lsort k (lsort h ns)) ns ∧ (lsort h ns).length = ns.length ∧ (lsort k (lsort h ns)).length = ns.length :=
  let ⟨a1, a2, a3, a4, a5⟩ := menu_bounds M
  let ⟨f1, f2, f3, f4, f5, f6⟩ := menu_facts M h3 h7
  ⟨(h - 1) * (k - 1), menu_mul M, a5, a1, a2, a3, a4, f1, f2, f3, f4, f5, f6, lsort_length h ns, (lsort_length k _).trans (lsort_length h ns)⟩
end Mine
end
section
open PySem PySem.W PyProof.Rows PySem.Calls PySem.Spec
namespace Mine
local macro_rules | `(tactic| k_room) => `(tactic| ktr_room)
local macro_rules | `(tactic| k_units) => `(tactic| ktr_units)
local macro_rules | `(tactic| k_mem) => `(tactic| (refine Mine.mem_out ?_; ktr_member))
local macro_rules | `(tactic| lcg_off) => `(tactic| with_reducible assumption)
local macro_rules | `(tactic| k_ne) => `(tactic| (refine neN ?_; (try dsimp only); first | (refine' Mine.off_ne ?kx ?km; (case kx => with_reducible assumption); (case km => k_mem)) | (refine' Mine.off_ne' ?kx ?km; (case kx => with_reducible assumption); (case km => k_mem)) | omega | (refine' Mine.Lt.ne ?kx ?km; (case kx => with_reducible assumption); (case km => k_mem)) | (refine' Mine.Lt.ne' ?kx ?km; (case kx => with_reducible assumption); (case km => k_mem)) | (refine' Mine.off1_ne ?kx ?km; (case kx => with_reducible assumption); (case km => k_mem)) | (refine' Mine.off1_ne' ?kx ?km; (case kx => with_reducible assumption); (case km => k_mem)) | (refine' Mine.off3_I ?kx ?km; (case kx => with_reducible assumption); (case km => k_mem)) | (refine' Mine.off3_C ?kx ?km; (case kx => with_reducible assumption); (case km => k_mem)) | (refine' Mine.off3_D ?kx ?km; (case kx => with_reducible assumption); (case km => k_mem))))
local macro_rules | `(tactic| k_lt $h:ident) => `(tactic| ((try have hKeep := Mine.Lt.mk $h); replace $h := allLt_of $h; simp only [AllLt, and_true] at $h:ident))
local macro_rules | `(tactic| lcg_sub) => `(tactic| first | exact List.forall_mem_nil _ | refine List.forall_mem_cons.mpr ⟨by k_mem, by lcg_sub⟩ | (intro q hq; (repeat (first | exact hq | refine List.mem_cons_of_mem _ ?_))))
local macro_rules | `(tactic| k_all) => `(tactic| first | exact Mine.jall (by with_reducible assumption) (by k_mem) | exact Mine.pall (by with_reducible assumption) (by k_mem))
theorem tow : ∀ (w : World) (mean : ExcName → Option Value) (mg mb : Str → Option Value) (dp un : Nat) (gd : Option (List Code)) (cn : Str) (cs : Scope) (a : Addr) (ccd : Value) (cl : List (Str × Addr)) (outer : List Env) (A₀ : Around) (base h₀ : Heap) (L : Addr) (m : Str → Option Value) (hs : Heap) (gn : Array GenState) (dr : Drawn) (tk0 : Nat) (oz : OsState) (Q E : Value → Shared → Prop)
  (k : Int) (t : Tok),
  Below A₀ base outer h₀ → Fr h₀ L hs m → (hd.heap_39 w.params).In h₀ → News h₀ L hs [] →
  Top Mine.vw (looseW Mine.vw [Str.ofString "SnobolError"]) mean mg mb h₀ → cs.kind = .function → dp + 8 < recursionLimit → un + 64 < cLine → 1 ≤ k → k ≤ 9 →
  (∀ (x : Str) (v : Tok) (h' : Heap) (tk' : Nat), x.length = 1 → Fr h₀ L h' m → (∀ b o, hs.get? b = some o → h'.get? b = some o) → Q (.str x v) ⟨h', gn, dr, tk', oz⟩) →
  wpAny (model PySem.Challenge.rw_xw0303_01.row.prog w) (ktrTop dp un gd cn cs L a ccd cl outer) (call (.ref 163) [.int k t]) Q E ⟨hs, gn, dr, tk0, oz⟩ := by
  k_fill
  w_top off
  intro w mean mg mb dp un gd cn cs a ccd cl outer A₀ base h₀ L m hs gn dr tk0 oz Q E k t hB hF hX hN hT hK hd hu h1 h9 hret
  have hz := Mine.div10z h1 h9
  refine wpAny_call ?_
  (k_dflt (refine' Mine.code_defF ?k1 ?k2 ?k3 ?k4 ?k5 ?kA ?kF ?kK ?k6 ?k7 ?k8 ?k9 ?kB ?_ ?c2 ?c3 ?c4 ?c5; (case kA => exact rfl); (case kF => exact rfl); (case kK => assumption); (case k1 => k_asm); (case k2 => k_asm); (case k3 => k_asm); (case k4 => k_asm); (case k5 => k_asm); (case k6 => k_is); (case k7 => k_is); (case k8 => ktr_room); (case k9 => exact BindsTo.of_eq rfl); (case c5 => decide); (case kB => exact locs rfl); (case c2 => exact rfl); (case c3 => exact rfl); (case c4 => exact rfl); k_whole; intro g' L' h' tk' FG' F' N' B' X' T' KG'; (try dsimp only); (try k_lift B'); (try k_fold)))
  (repeat' (first | ((with_reducible show wpAny _ _ (binaryOp _ _ _) _ _ _); first | (k_here; (with_reducible show wpAny _ _ (binaryOp Operator.Mod (Value.int _ _) (Value.int _ _)) _ _ _); refine Mine.mod_lit (by decide) (Mine.mod10 h1 h9) ?_; (try dsimp only)) | (k_here; (with_reducible show wpAny _ _ (binaryOp Operator.FloorDiv (Value.int _ _) (Value.int _ _)) _ _ _); refine Mine.div_lit (by decide) (Mine.div10z h1 h9) (by decide) ?_; (try dsimp only))) | ((with_reducible show wpAny _ _ (compareOp _ _ _) _ _ _); first | (k_here; with_reducible refine Mine.one_ne ?_; (try dsimp only)) | (k_here; (with_reducible show wpAny _ _ (compareOp CmpOp.Gt (Value.int _ _) (Value.int _ _)) _ _ _); first | (refine Mine.gt_yes (by omega) ?_) | (refine Mine.gt_no (by omega) ?_))) | ((with_reducible show wpAny _ _ (call _ _) _ _ _); first | (k_here; (with_reducible show wpAny _ _ (call (Value.builtin "abs") [Value.int _ _]) _ _ _); refine Mine.abs_pos (by omega) ?_; intro u9 tk9; (try dsimp only))) | ((with_reducible show wpAny _ _ (exec _ _) _ _ _); first | (k_here; (with_reducible show wpAny _ _ (exec (PySem.Stmt.While _ _ _ _) _) _ _ _); k_dflt (refine whl_start 3 ?_))) | (k_unfold; (try dsimp only)) | (walk1 <;> (try dsimp only)) | (dsimp only; walk1) | (leave1; try dsimp only)))
  all_goals (k_dflt (refine' hret _ _ _ _ ?e ?F ?G; (case e => exact Mine.one_len); (case F => k_asm); (case G => refine' Mine.KeepFrom.grown ?g1 ?g2 ?g3 ?g4 ?g5; (case g1 => assumption); (case g2 => exact fun p hp => (hN p hp).1); (case g3 => assumption); (case g4 => assumption); (case g5 => lcg_sub))))
theorem sob : ∀ (w : World) (mean : ExcName → Option Value) (mg mb : Str → Option Value) (dp un : Nat) (gd : Option (List Code)) (cn : Str) (cs : Scope) (a : Addr) (ccd : Value) (cl : List (Str × Addr)) (outer : List Env) (A₀ : Around) (base h₀ : Heap) (L : Addr) (m : Str → Option Value) (hs : Heap) (gn : Array GenState) (dr : Drawn) (tk0 : Nat) (oz : OsState) (Q E : Value → Shared → Prop)
  (P T1 T2 : Addr) (n n1 n2 mm : Nat) (b1 b2 b3 b4 : Tok),
  Below A₀ base outer h₀ → Fr h₀ L hs m → (hd.heap_39 w.params).In h₀ → News h₀ L hs [(P, listOf [.ref T1, .ref T2].toArray n), (T1, ⟨.type "tuple", none, .seq [.int 1 b1, .int (mm : Int) b2].toArray n1, #[]⟩), (T2, ⟨.type "tuple", none, .seq [.int 1 b3, .int 1 b4].toArray n2, #[]⟩)] →
  Top Mine.vw (looseW Mine.vw [Str.ofString "SnobolError"]) mean mg mb h₀ → cs.kind = .function → dp + 8 < recursionLimit → un + 64 < cLine → mm ≤ 9 →
  (∀ (v : Tok) (h' : Heap) (tk' : Nat), Fr h₀ L h' m → (∀ b o, hs.get? b = some o → h'.get? b = some o) → Q (.int (mm : Int) v) ⟨h', gn, dr, tk', oz⟩) →
  wpAny (model PySem.Challenge.rw_xw0303_01.row.prog w) (ktrTop dp un gd cn cs L a ccd cl outer) (call (.ref 227) [.ref P]) Q E ⟨hs, gn, dr, tk0, oz⟩ := by
  k_fill
  w_top off
  intro w mean mg mb dp un gd cn cs a ccd cl outer A₀ base h₀ L m hs gn dr tk0 oz Q E P T1 T2 n n1 n2 mm b1 b2 b3 b4 hB hF hX hN hT hK hd hu h9 hret
  refine wpAny_call ?_
  (k_dflt (refine' Mine.code_defF ?k1 ?k2 ?k3 ?k4 ?k5 ?kA ?kF ?kK ?k6 ?k7 ?k8 ?k9 ?kB ?_ ?c2 ?c3 ?c4 ?c5; (case kA => exact rfl); (case kF => exact rfl); (case kK => assumption); (case k1 => k_asm); (case k2 => k_asm); (case k3 => k_asm); (case k4 => k_asm); (case k5 => k_asm); (case k6 => k_is); (case k7 => k_is); (case k8 => ktr_room); (case k9 => exact BindsTo.of_eq rfl); (case c5 => decide); (case kB => exact locs rfl); (case c2 => exact rfl); (case c3 => exact rfl); (case c4 => exact rfl); k_whole; intro g' L' h' tk' FG' F' N' B' X' T' KG'; (try dsimp only); (try k_lift B'); (try k_fold)))
  (repeat' (first | ((with_reducible show wpAny _ _ (binaryOp _ _ _) _ _ _); first | (k_here; (with_reducible show wpAny _ _ (binaryOp Operator.Add (Value.int _ _) (Value.int _ _)) _ _ _); first | (refine Mine.add_lit (by simp only [Int.reduceAdd]; first | done | exact rfl) ?_; (try dsimp only)) | (refine Mine.add_lit (Int.sub_add_cancel _ _) ?_; (try dsimp only))) | (k_here; (with_reducible show wpAny _ _ (binaryOp Operator.Sub (Value.int _ _) (Value.int _ _)) _ _ _); first | (refine Mine.sub_lit (by simp only [Int.reduceSub]; first | done | exact rfl) ?_; (try dsimp only)) | (refine Mine.sub_lit rfl ?_; (try dsimp only))) | (k_here; (with_reducible show wpAny _ _ (binaryOp Operator.Mult (Value.int _ _) (Value.int _ _)) _ _ _); first | (refine Mine.mul_lit (by simp only [Int.reduceMul]; first | done | exact rfl) (by mul_fits) ?_; (try dsimp only)) | (refine Mine.mul_lit (Int.one_mul _) (IntMulOk.of_left (by decide)) ?_; (try dsimp only)) | (refine Mine.mul_lit (Int.mul_one _) (IntMulOk.of_right (by decide)) ?_; (try dsimp only)))) | (k_unfold; (try dsimp only)) | (walk1 <;> (try dsimp only)) | (dsimp only; walk1) | (leave1; try dsimp only)))
  all_goals (k_dflt (refine' hret _ _ _ ?F ?G; (case F => k_asm); (case G => refine' Mine.KeepFrom.grown ?g1 ?g2 ?g3 ?g4 ?g5; (case g1 => assumption); (case g2 => exact fun p hp => (hN p hp).1); (case g3 => assumption); (case g4 => assumption); (case g5 => lcg_sub))))
theorem isb : ∀ (w : World) (mean : ExcName → Option Value) (mg mb : Str → Option Value) (dp un : Nat) (gd : Option (List Code)) (cn : Str) (cs : Scope) (a : Addr) (ccd : Value) (cl : List (Str × Addr)) (outer : List Env) (A₀ : Around) (base h₀ : Heap) (L : Addr) (m : Str → Option Value) (hs : Heap) (gn : Array GenState) (dr : Drawn) (tk0 : Nat) (oz : OsState) (Q E : Value → Shared → Prop)
  (x1 x2 : Int) (t1 t2 : Tok),
  Below A₀ base outer h₀ → Fr h₀ L hs m → (hd.heap_39 w.params).In h₀ → News h₀ L hs [] →
  Top Mine.vw (looseW Mine.vw [Str.ofString "SnobolError"]) mean mg mb h₀ → cs.kind = .function → dp + 8 < recursionLimit → un + 64 < cLine → 
  (∀ (b : Bool) (h' : Heap) (tk' : Nat), (b = true ↔ x2 < x1) → Fr h₀ L h' m → (∀ b o, hs.get? b = some o → h'.get? b = some o) → Q (.bool b) ⟨h', gn, dr, tk', oz⟩) →
  wpAny (model PySem.Challenge.rw_xw0303_01.row.prog w) (ktrTop dp un gd cn cs L a ccd cl outer) (call (.ref 282) [.int x1 t1, .int x2 t2, .bool false]) Q E ⟨hs, gn, dr, tk0, oz⟩ := by
  k_fill
  w_top off
  intro w mean mg mb dp un gd cn cs a ccd cl outer A₀ base h₀ L m hs gn dr tk0 oz Q E x1 x2 t1 t2 hB hF hX hN hT hK hd hu  hret
  refine wpAny_call ?_
  (k_dflt (refine' Mine.code_defF ?k1 ?k2 ?k3 ?k4 ?k5 ?kA ?kF ?kK ?k6 ?k7 ?k8 ?k9 ?kB ?_ ?c2 ?c3 ?c4 ?c5; (case kA => exact rfl); (case kF => exact rfl); (case kK => assumption); (case k1 => k_asm); (case k2 => k_asm); (case k3 => k_asm); (case k4 => k_asm); (case k5 => k_asm); (case k6 => k_is); (case k7 => k_is); (case k8 => ktr_room); (case k9 => exact BindsTo.of_eq rfl); (case c5 => decide); (case kB => exact locs rfl); (case c2 => exact rfl); (case c3 => exact rfl); (case c4 => exact rfl); k_whole; intro g' L' h' tk' FG' F' N' B' X' T' KG'; (try dsimp only); (try k_lift B'); (try k_fold)))
  (repeat' (first | ((with_reducible show wpAny _ _ (compareOp _ _ _) _ _ _); first | (k_here; (with_reducible show wpAny _ _ (compareOp CmpOp.Gt (Value.ref _) (Value.ref _)) _ _ _); k_dflt (refine' Mine.tup_gt (News.get (by k_asm) ?m1) ?c1 ?d1 (News.get (by k_asm) ?m2) ?c2 ?d2 ?hu ?_; (case m1 => k_mem); (case c1 => rfl); (case d1 => rfl); (case m2 => k_mem); (case c2 => rfl); (case d2 => rfl); (case hu => ktr_units)))) | ((with_reducible show wpAny _ _ (call _ _) _ _ _); first | (k_here; (with_reducible show wpAny _ _ (call _ [Value.ref _, Value.ref _]) _ _ _); k_dflt (first | (refine' isi_call ?k1 ?k2 ?k3 ?k4 ?_; (case k1 => k_in); (case k2 => k_types); (case k3 => k_is); (case k4 => intro e; cases e); k_whole) | (refine' kin_callC ?k1 ?k2 ?k3 ?k4 ?k5 ?k6 ?k7 ?k8 ?k9 ?_; (case k1 => k_in); (case k2 => k_inst); (case k3 => kin_no); (case k4 => k_is); (case k5 => k_is); (case k6 => k_is); (case k7 => k_is); (case k8 => k_is); (case k9 => k_is); k_whole)); (try dsimp only))) | (k_unfold; (try dsimp only)) | (walk1 <;> (try dsimp only)) | (dsimp only; walk1) | (leave1; try dsimp only)))
  all_goals (k_dflt (
    refine' hret _ _ _ decide_eq_true_iff ?F ?G
    (case F => k_asm)
    (case G => refine' Mine.KeepFrom.grown ?g1 ?g2 ?g3 ?g4 ?g5; (case g1 => assumption); (case g2 => exact fun p hp => nomatch hp); (case g3 => assumption); (case g4 => assumption); (case g5 => exact fun p hp => nomatch hp))))
theorem sr : ∀ (w : World) (mean : ExcName → Option Value) (mg mb : Str → Option Value) (dp un : Nat) (gd : Option (List Code)) (cn : Str) (cs : Scope) (a : Addr) (ccd : Value) (cl : List (Str × Addr)) (outer : List Env) (A₀ : Around) (base h₀ : Heap) (L : Addr) (m : Str → Option Value) (hs : Heap) (gn : Array GenState) (dr : Drawn) (tk0 : Nat) (oz : OsState) (Q E : Value → Shared → Prop)
  (R : Addr) (n : Nat) (rs : List Mine.Q4) (t : Tok) (news : List (Addr × Obj)),
  Below A₀ base outer h₀ → Fr h₀ L hs m → (hd.heap_39 w.params).In h₀ → News h₀ L hs news →
  Top Mine.vw (looseW Mine.vw [Str.ofString "SnobolError"]) mean mg mb h₀ → cs.kind = .function → dp + 12 < recursionLimit → un + 96 < cLine → (R, listOf (Mine.refs rs).toArray n) ∈ news → (∀ q ∈ rs, (q.1, Mine.rowObj q) ∈ news) → rs.length ≤ 100 →
  (∀ (D : Addr) (ds : List Mine.Q4) (n : Nat) (h' : Heap) (tk' : Nat), Mine.keys ds = Mine.isort (Mine.keys rs) → (∀ p ∈ ds, p ∈ rs) → Fr h₀ L h' m → News h₀ L h' [(D, listOf (Mine.refs ds).toArray n)] → (∀ b o, hs.get? b = some o → h'.get? b = some o) → hs.get? D = none → Q (.ref D) ⟨h', gn, dr, tk', oz⟩) →
  wpAny (model PySem.Challenge.rw_xw0303_01.row.prog w) (ktrTop dp un gd cn cs L a ccd cl outer) (call (.ref 275) [.ref R, .int 0 t, .bool false]) Q E ⟨hs, gn, dr, tk0, oz⟩ := by
  k_fill
  w_top off
  intro w mean mg mb dp un gd cn cs a ccd cl outer A₀ base h₀ L m hs gn dr tk0 oz Q E R n rs t news hB hF hX hN hT hK hd hu hm hrows hlen hret
  refine wpAny_call ?_
  (k_dflt (refine' Mine.code_defF ?k1 ?k2 ?k3 ?k4 ?k5 ?kA ?kF ?kK ?k6 ?k7 ?k8 ?k9 ?kB ?_ ?c2 ?c3 ?c4 ?c5; (case kA => exact rfl); (case kF => exact rfl); (case kK => assumption); (case k1 => k_asm); (case k2 => k_asm); (case k3 => k_asm); (case k4 => k_asm); (case k5 => k_asm); (case k6 => k_is); (case k7 => k_is); (case k8 => ktr_room); (case k9 => exact BindsTo.of_eq rfl); (case c5 => decide); (case kB => exact locs rfl); (case c2 => exact rfl); (case c3 => exact rfl); (case c4 => exact rfl); k_whole; intro g' L' h' tk' FG' F' N' B' X' T' KG'; (try dsimp only); (try k_lift B'); (try k_fold)))
  (repeat' (first | ((with_reducible show wpAny _ _ (compareOp _ _ _) _ _ _); first | (k_here; (with_reducible show wpAny _ _ (compareOp CmpOp.Gt (Value.int _ _) (Value.int _ _)) _ _ _); first | (refine Mine.gt_yes (by omega) ?_) | (refine Mine.gt_no (by omega) ?_))) | ((with_reducible show wpAny _ _ (subscriptTail _ _ _ _) _ _ _); first | (k_here; (with_reducible show wpAny _ _ (subscriptTail _ _ (Value.ref _) (Value.int _ _)) _ _ _); k_dflt (refine' Mine.item_nat (by k_asm) ?m ?hx ?hk ?hh ?_ ?hs; (case m => k_mem); (case hx => exact Mine.refs_get (by assumption)); (case hk => omega); (case hh => omega); (case hs => with_unfolding_all rfl))) | (k_here; (with_reducible show wpAny _ _ (subscriptTail _ _ (Value.ref _) (Value.int _ _)) _ _ _); k_dflt (refine' Mine.item_lit (by k_asm) ?m ?h0 ?hh ?hx ?_ ?hs; (case m => k_mem); (case h0 => decide); (case hh => decide); (case hx => exact rfl); (case hs => with_unfolding_all rfl)); (try dsimp only))) | ((with_reducible show wpAny _ _ (call _ _) _ _ _); first | (k_here; (with_reducible show wpAny _ _ (call (Value.ref 282) _) _ _ _); k_dflt (refine' isb _ _ _ _ _ _ _ _ _ _ _ _ _ _ _ _ _ _ _ _ _ _ _ _ _ _ _ _ _ ?k1 ?k2 ?k3 ?k4 ?k5 ?kK ?kd ?ku ?_; (case k1 => k_asm); (case k2 => k_asm); (case k3 => k_asm); (case k4 => exact fun p hp => nomatch hp); (case k5 => k_asm); (case kK => first | exact rfl | assumption); (case kd => ktr_room); (case ku => first | ktr_units | ((have hcL9 := cLine_is); (simp only [Mine.units_make, units_in1, units_deeper, Around.mark_units, units_caller]); (try dsimp only [ktrTop]); omega))); intro b9 h9 tk9 hb9 F9 G9; (rename News _ _ _ _ => lN'); (have N9 := Mine.news_up lN' G9); clear lN' G9; (first | (have e9 : b9 = true := hb9.mpr (by assumption); subst e9) | (have e9 : b9 = false := Mine.b_false hb9 (by assumption); subst e9) | skip); (try dsimp only); (try k_fold)) | (k_here; (with_reducible show wpAny _ _ (call (Value.builtin "len") [Value.ref _]) _ _ _); k_dflt (refine' Mine.len_led ?vN ?vm ?ve ?vz ?_; (case vN => k_asm); (case vm => k_mem); (case ve => (rw [Mine.refs_length])); (case vz => omega)); (try dsimp only)) | (k_here; (with_reducible show wpAny _ _ (call (Value.builtin _) [Value.ref _, Value.int _ _, _]) _ _ _); k_dflt (refine' Mine.insert_led ?F ?N ?h1 ?h2 ?h3 ?h4 ?_; (case F => k_asm); (case N => k_asm); (case h1 => assumption); (case h2 => assumption); (case h3 => assumption); (case h4 => omega)); intro h' F' N')) | ((with_reducible show wpAny _ _ (exec _ _) _ _ _); first | (k_here; (with_reducible show wpAny _ _ (exec (PySem.Stmt.For (PySem.Expr.Name _ _) (PySem.Expr.Name _ _) _ _ _) _) _ _ _); (rename Fr _ _ _ _ => lF'); (with_unfolding_all refine' For_invVF lF' ?k1 ?k2 ?_; (case k1 => exact rfl); (case k2 => exact rfl); k_whole); (try dsimp only)) | (k_here; (with_reducible show wpAny _ _ (exec (PySem.Stmt.While _ _ _ _) _) _ _ _); refine Mine.stopW ?_)) | ((with_reducible show wpAny _ _ (pyIter _) _ _ _); first | (k_here; (with_reducible show wpAny _ _ (pyIter (Value.ref _)) (fun it s₂ => LoopAtV _ _ _ _ _ _ _ _ _ it s₂) _ _); refine Mine.stopW ?_)) | (with_reducible refine Mine.stopWR ?_) | (k_unfold; (try dsimp only)) | (walk1 <;> (try dsimp only)) | (dsimp only; walk1) | (leave1; try dsimp only)))
  refine' Mine.Stop.mk (Mine.iter_sort (stored := [Str.ofString "at", Str.ofString "row"]) (rs := rs) ?hh ?F ?N hm ?hx ?hD ?turn ?done)
  case hh => exact rfl
  case F => k_asm
  case N => k_asm
  case hx => decide
  case hD => assumption
  case turn =>
    intro I it ds q u h tk nd hI hID hoff hit hq hds hlt hsort F N
    have hqr : (q.1, listOf [.int q.2.1 q.2.2.1].toArray q.2.2.2) ∈ news := hrows q hq
    (try dsimp only)
    (repeat' (first | ((with_reducible show wpAny _ _ (compareOp _ _ _) _ _ _); first | (k_here; (with_reducible show wpAny _ _ (compareOp CmpOp.Gt (Value.int _ _) (Value.int _ _)) _ _ _); first | (refine Mine.gt_yes (by omega) ?_) | (refine Mine.gt_no (by omega) ?_))) | ((with_reducible show wpAny _ _ (subscriptTail _ _ _ _) _ _ _); first | (k_here; (with_reducible show wpAny _ _ (subscriptTail _ _ (Value.ref _) (Value.int _ _)) _ _ _); k_dflt (refine' Mine.item_nat (by k_asm) ?m ?hx ?hk ?hh ?_ ?hs; (case m => k_mem); (case hx => exact Mine.refs_get (by assumption)); (case hk => omega); (case hh => omega); (case hs => with_unfolding_all rfl))) | (k_here; (with_reducible show wpAny _ _ (subscriptTail _ _ (Value.ref _) (Value.int _ _)) _ _ _); k_dflt (refine' Mine.item_lit (by k_asm) ?m ?h0 ?hh ?hx ?_ ?hs; (case m => k_mem); (case h0 => decide); (case hh => decide); (case hx => exact rfl); (case hs => with_unfolding_all rfl)); (try dsimp only))) | ((with_reducible show wpAny _ _ (call _ _) _ _ _); first | (k_here; (with_reducible show wpAny _ _ (call (Value.ref 282) _) _ _ _); k_dflt (refine' isb _ _ _ _ _ _ _ _ _ _ _ _ _ _ _ _ _ _ _ _ _ _ _ _ _ _ _ _ _ ?k1 ?k2 ?k3 ?k4 ?k5 ?kK ?kd ?ku ?_; (case k1 => k_asm); (case k2 => k_asm); (case k3 => k_asm); (case k4 => exact fun p hp => nomatch hp); (case k5 => k_asm); (case kK => first | exact rfl | assumption); (case kd => ktr_room); (case ku => first | ktr_units | ((have hcL9 := cLine_is); (simp only [Mine.units_make, units_in1, units_deeper, Around.mark_units, units_caller]); (try dsimp only [ktrTop]); omega))); intro b9 h9 tk9 hb9 F9 G9; (rename News _ _ _ _ => lN'); (have N9 := Mine.news_up lN' G9); clear lN' G9; (first | (have e9 : b9 = true := hb9.mpr (by assumption); subst e9) | (have e9 : b9 = false := Mine.b_false hb9 (by assumption); subst e9) | skip); (try dsimp only); (try k_fold)) | (k_here; (with_reducible show wpAny _ _ (call (Value.builtin "len") [Value.ref _]) _ _ _); k_dflt (refine' Mine.len_led ?vN ?vm ?ve ?vz ?_; (case vN => k_asm); (case vm => k_mem); (case ve => (rw [Mine.refs_length])); (case vz => omega)); (try dsimp only)) | (k_here; (with_reducible show wpAny _ _ (call (Value.builtin _) [Value.ref _, Value.int _ _, _]) _ _ _); k_dflt (refine' Mine.insert_led ?F ?N ?h1 ?h2 ?h3 ?h4 ?_; (case F => k_asm); (case N => k_asm); (case h1 => assumption); (case h2 => assumption); (case h3 => assumption); (case h4 => omega)); intro h' F' N')) | ((with_reducible show wpAny _ _ (exec _ _) _ _ _); first | (k_here; (with_reducible show wpAny _ _ (exec (PySem.Stmt.For (PySem.Expr.Name _ _) (PySem.Expr.Name _ _) _ _ _) _) _ _ _); (rename Fr _ _ _ _ => lF'); (with_unfolding_all refine' For_invVF lF' ?k1 ?k2 ?_; (case k1 => exact rfl); (case k2 => exact rfl); k_whole); (try dsimp only)) | (k_here; (with_reducible show wpAny _ _ (exec (PySem.Stmt.While _ _ _ _) _) _ _ _); refine Mine.stopW ?_)) | ((with_reducible show wpAny _ _ (pyIter _) _ _ _); first | (k_here; (with_reducible show wpAny _ _ (pyIter (Value.ref _)) (fun it s₂ => LoopAtV _ _ _ _ _ _ _ _ _ it s₂) _ _); refine Mine.stopW ?_)) | (with_reducible refine Mine.stopWR ?_) | (k_unfold; (try dsimp only)) | (walk1 <;> (try dsimp only)) | (dsimp only; walk1) | (leave1; try dsimp only)))
    refine' Mine.Stop.mk (whl_start (ds.length + 1) (Mine.whl_down (s := ⟨hs, gn, dr, tk0, oz⟩) (aN := Str.ofString "at") (ds := ds) (x := q.2.1) ?hE ?step ?fin ds.length _ _ _ (Nat.le_refl _) ?ab ?F ?N))
    case hE => first | passes_own | with_unfolding_all passes_own
    case ab => exact fun i p hi hp => absurd (List.getElem?_eq_some_iff.mp hp).1 (Nat.not_lt.mpr hi)
    case F => k_asm
    case N => k_asm
    case step =>
      clear F N
      intro Qx at' t h tk k hat F N next stop
      rcases at' with _ | j
      · (try dsimp only)
        (repeat' (first | ((with_reducible show wpAny _ _ (compareOp _ _ _) _ _ _); first | (k_here; (with_reducible show wpAny _ _ (compareOp CmpOp.Gt (Value.int _ _) (Value.int _ _)) _ _ _); first | (refine Mine.gt_yes (by omega) ?_) | (refine Mine.gt_no (by omega) ?_))) | ((with_reducible show wpAny _ _ (subscriptTail _ _ _ _) _ _ _); first | (k_here; (with_reducible show wpAny _ _ (subscriptTail _ _ (Value.ref _) (Value.int _ _)) _ _ _); k_dflt (refine' Mine.item_nat (by k_asm) ?m ?hx ?hk ?hh ?_ ?hs; (case m => k_mem); (case hx => exact Mine.refs_get (by assumption)); (case hk => omega); (case hh => omega); (case hs => with_unfolding_all rfl))) | (k_here; (with_reducible show wpAny _ _ (subscriptTail _ _ (Value.ref _) (Value.int _ _)) _ _ _); k_dflt (refine' Mine.item_lit (by k_asm) ?m ?h0 ?hh ?hx ?_ ?hs; (case m => k_mem); (case h0 => decide); (case hh => decide); (case hx => exact rfl); (case hs => with_unfolding_all rfl)); (try dsimp only))) | ((with_reducible show wpAny _ _ (call _ _) _ _ _); first | (k_here; (with_reducible show wpAny _ _ (call (Value.ref 282) _) _ _ _); k_dflt (refine' isb _ _ _ _ _ _ _ _ _ _ _ _ _ _ _ _ _ _ _ _ _ _ _ _ _ _ _ _ _ ?k1 ?k2 ?k3 ?k4 ?k5 ?kK ?kd ?ku ?_; (case k1 => k_asm); (case k2 => k_asm); (case k3 => k_asm); (case k4 => exact fun p hp => nomatch hp); (case k5 => k_asm); (case kK => first | exact rfl | assumption); (case kd => ktr_room); (case ku => first | ktr_units | ((have hcL9 := cLine_is); (simp only [Mine.units_make, units_in1, units_deeper, Around.mark_units, units_caller]); (try dsimp only [ktrTop]); omega))); intro b9 h9 tk9 hb9 F9 G9; (rename News _ _ _ _ => lN'); (have N9 := Mine.news_up lN' G9); clear lN' G9; (first | (have e9 : b9 = true := hb9.mpr (by assumption); subst e9) | (have e9 : b9 = false := Mine.b_false hb9 (by assumption); subst e9) | skip); (try dsimp only); (try k_fold)) | (k_here; (with_reducible show wpAny _ _ (call (Value.builtin "len") [Value.ref _]) _ _ _); k_dflt (refine' Mine.len_led ?vN ?vm ?ve ?vz ?_; (case vN => k_asm); (case vm => k_mem); (case ve => (rw [Mine.refs_length])); (case vz => omega)); (try dsimp only)) | (k_here; (with_reducible show wpAny _ _ (call (Value.builtin _) [Value.ref _, Value.int _ _, _]) _ _ _); k_dflt (refine' Mine.insert_led ?F ?N ?h1 ?h2 ?h3 ?h4 ?_; (case F => k_asm); (case N => k_asm); (case h1 => assumption); (case h2 => assumption); (case h3 => assumption); (case h4 => omega)); intro h' F' N')) | ((with_reducible show wpAny _ _ (exec _ _) _ _ _); first | (k_here; (with_reducible show wpAny _ _ (exec (PySem.Stmt.For (PySem.Expr.Name _ _) (PySem.Expr.Name _ _) _ _ _) _) _ _ _); (rename Fr _ _ _ _ => lF'); (with_unfolding_all refine' For_invVF lF' ?k1 ?k2 ?_; (case k1 => exact rfl); (case k2 => exact rfl); k_whole); (try dsimp only)) | (k_here; (with_reducible show wpAny _ _ (exec (PySem.Stmt.While _ _ _ _) _) _ _ _); refine Mine.stopW ?_)) | ((with_reducible show wpAny _ _ (pyIter _) _ _ _); first | (k_here; (with_reducible show wpAny _ _ (pyIter (Value.ref _)) (fun it s₂ => LoopAtV _ _ _ _ _ _ _ _ _ it s₂) _ _); refine Mine.stopW ?_)) | (with_reducible refine Mine.stopWR ?_) | (k_unfold; (try dsimp only)) | (walk1 <;> (try dsimp only)) | (dsimp only; walk1) | (leave1; try dsimp only)))
        all_goals exact stop (.inl rfl) _ _ (by k_asm) (by k_asm)
      · obtain ⟨p, hp⟩ : ∃ p, ds[j]? = some p := ⟨_, List.getElem?_eq_getElem (show j < ds.length by omega)⟩
        have hpr : (p.1, listOf [.int p.2.1 p.2.2.1].toArray p.2.2.2) ∈ news := hrows p (hds p (List.mem_of_getElem? hp))
        by_cases hc : q.2.1 < p.2.1
        · (try dsimp only)
          (repeat' (first | ((with_reducible show wpAny _ _ (compareOp _ _ _) _ _ _); first | (k_here; (with_reducible show wpAny _ _ (compareOp CmpOp.Gt (Value.int _ _) (Value.int _ _)) _ _ _); first | (refine Mine.gt_yes (by omega) ?_) | (refine Mine.gt_no (by omega) ?_))) | ((with_reducible show wpAny _ _ (subscriptTail _ _ _ _) _ _ _); first | (k_here; (with_reducible show wpAny _ _ (subscriptTail _ _ (Value.ref _) (Value.int _ _)) _ _ _); k_dflt (refine' Mine.item_nat (by k_asm) ?m ?hx ?hk ?hh ?_ ?hs; (case m => k_mem); (case hx => exact Mine.refs_get (by assumption)); (case hk => omega); (case hh => omega); (case hs => with_unfolding_all rfl))) | (k_here; (with_reducible show wpAny _ _ (subscriptTail _ _ (Value.ref _) (Value.int _ _)) _ _ _); k_dflt (refine' Mine.item_lit (by k_asm) ?m ?h0 ?hh ?hx ?_ ?hs; (case m => k_mem); (case h0 => decide); (case hh => decide); (case hx => exact rfl); (case hs => with_unfolding_all rfl)); (try dsimp only))) | ((with_reducible show wpAny _ _ (call _ _) _ _ _); first | (k_here; (with_reducible show wpAny _ _ (call (Value.ref 282) _) _ _ _); k_dflt (refine' isb _ _ _ _ _ _ _ _ _ _ _ _ _ _ _ _ _ _ _ _ _ _ _ _ _ _ _ _ _ ?k1 ?k2 ?k3 ?k4 ?k5 ?kK ?kd ?ku ?_; (case k1 => k_asm); (case k2 => k_asm); (case k3 => k_asm); (case k4 => exact fun p hp => nomatch hp); (case k5 => k_asm); (case kK => first | exact rfl | assumption); (case kd => ktr_room); (case ku => first | ktr_units | ((have hcL9 := cLine_is); (simp only [Mine.units_make, units_in1, units_deeper, Around.mark_units, units_caller]); (try dsimp only [ktrTop]); omega))); intro b9 h9 tk9 hb9 F9 G9; (rename News _ _ _ _ => lN'); (have N9 := Mine.news_up lN' G9); clear lN' G9; (first | (have e9 : b9 = true := hb9.mpr (by assumption); subst e9) | (have e9 : b9 = false := Mine.b_false hb9 (by assumption); subst e9) | skip); (try dsimp only); (try k_fold)) | (k_here; (with_reducible show wpAny _ _ (call (Value.builtin "len") [Value.ref _]) _ _ _); k_dflt (refine' Mine.len_led ?vN ?vm ?ve ?vz ?_; (case vN => k_asm); (case vm => k_mem); (case ve => (rw [Mine.refs_length])); (case vz => omega)); (try dsimp only)) | (k_here; (with_reducible show wpAny _ _ (call (Value.builtin _) [Value.ref _, Value.int _ _, _]) _ _ _); k_dflt (refine' Mine.insert_led ?F ?N ?h1 ?h2 ?h3 ?h4 ?_; (case F => k_asm); (case N => k_asm); (case h1 => assumption); (case h2 => assumption); (case h3 => assumption); (case h4 => omega)); intro h' F' N')) | ((with_reducible show wpAny _ _ (exec _ _) _ _ _); first | (k_here; (with_reducible show wpAny _ _ (exec (PySem.Stmt.For (PySem.Expr.Name _ _) (PySem.Expr.Name _ _) _ _ _) _) _ _ _); (rename Fr _ _ _ _ => lF'); (with_unfolding_all refine' For_invVF lF' ?k1 ?k2 ?_; (case k1 => exact rfl); (case k2 => exact rfl); k_whole); (try dsimp only)) | (k_here; (with_reducible show wpAny _ _ (exec (PySem.Stmt.While _ _ _ _) _) _ _ _); refine Mine.stopW ?_)) | ((with_reducible show wpAny _ _ (pyIter _) _ _ _); first | (k_here; (with_reducible show wpAny _ _ (pyIter (Value.ref _)) (fun it s₂ => LoopAtV _ _ _ _ _ _ _ _ _ it s₂) _ _); refine Mine.stopW ?_)) | (with_reducible refine Mine.stopWR ?_) | (k_unfold; (try dsimp only)) | (walk1 <;> (try dsimp only)) | (dsimp only; walk1) | (leave1; try dsimp only)))
          refine' Mine.Stop.mk (next j p _ _ _ _ _ rfl hp hc ?hz ?F ?hm ?N)
          case F => k_asm
          case N => k_asm
          case hm => exact Mine.fr_over
          case hz => omega
        · (try dsimp only)
          (repeat' (first | ((with_reducible show wpAny _ _ (compareOp _ _ _) _ _ _); first | (k_here; (with_reducible show wpAny _ _ (compareOp CmpOp.Gt (Value.int _ _) (Value.int _ _)) _ _ _); first | (refine Mine.gt_yes (by omega) ?_) | (refine Mine.gt_no (by omega) ?_))) | ((with_reducible show wpAny _ _ (subscriptTail _ _ _ _) _ _ _); first | (k_here; (with_reducible show wpAny _ _ (subscriptTail _ _ (Value.ref _) (Value.int _ _)) _ _ _); k_dflt (refine' Mine.item_nat (by k_asm) ?m ?hx ?hk ?hh ?_ ?hs; (case m => k_mem); (case hx => exact Mine.refs_get (by assumption)); (case hk => omega); (case hh => omega); (case hs => with_unfolding_all rfl))) | (k_here; (with_reducible show wpAny _ _ (subscriptTail _ _ (Value.ref _) (Value.int _ _)) _ _ _); k_dflt (refine' Mine.item_lit (by k_asm) ?m ?h0 ?hh ?hx ?_ ?hs; (case m => k_mem); (case h0 => decide); (case hh => decide); (case hx => exact rfl); (case hs => with_unfolding_all rfl)); (try dsimp only))) | ((with_reducible show wpAny _ _ (call _ _) _ _ _); first | (k_here; (with_reducible show wpAny _ _ (call (Value.ref 282) _) _ _ _); k_dflt (refine' isb _ _ _ _ _ _ _ _ _ _ _ _ _ _ _ _ _ _ _ _ _ _ _ _ _ _ _ _ _ ?k1 ?k2 ?k3 ?k4 ?k5 ?kK ?kd ?ku ?_; (case k1 => k_asm); (case k2 => k_asm); (case k3 => k_asm); (case k4 => exact fun p hp => nomatch hp); (case k5 => k_asm); (case kK => first | exact rfl | assumption); (case kd => ktr_room); (case ku => first | ktr_units | ((have hcL9 := cLine_is); (simp only [Mine.units_make, units_in1, units_deeper, Around.mark_units, units_caller]); (try dsimp only [ktrTop]); omega))); intro b9 h9 tk9 hb9 F9 G9; (rename News _ _ _ _ => lN'); (have N9 := Mine.news_up lN' G9); clear lN' G9; (first | (have e9 : b9 = true := hb9.mpr (by assumption); subst e9) | (have e9 : b9 = false := Mine.b_false hb9 (by assumption); subst e9) | skip); (try dsimp only); (try k_fold)) | (k_here; (with_reducible show wpAny _ _ (call (Value.builtin "len") [Value.ref _]) _ _ _); k_dflt (refine' Mine.len_led ?vN ?vm ?ve ?vz ?_; (case vN => k_asm); (case vm => k_mem); (case ve => (rw [Mine.refs_length])); (case vz => omega)); (try dsimp only)) | (k_here; (with_reducible show wpAny _ _ (call (Value.builtin _) [Value.ref _, Value.int _ _, _]) _ _ _); k_dflt (refine' Mine.insert_led ?F ?N ?h1 ?h2 ?h3 ?h4 ?_; (case F => k_asm); (case N => k_asm); (case h1 => assumption); (case h2 => assumption); (case h3 => assumption); (case h4 => omega)); intro h' F' N')) | ((with_reducible show wpAny _ _ (exec _ _) _ _ _); first | (k_here; (with_reducible show wpAny _ _ (exec (PySem.Stmt.For (PySem.Expr.Name _ _) (PySem.Expr.Name _ _) _ _ _) _) _ _ _); (rename Fr _ _ _ _ => lF'); (with_unfolding_all refine' For_invVF lF' ?k1 ?k2 ?_; (case k1 => exact rfl); (case k2 => exact rfl); k_whole); (try dsimp only)) | (k_here; (with_reducible show wpAny _ _ (exec (PySem.Stmt.While _ _ _ _) _) _ _ _); refine Mine.stopW ?_)) | ((with_reducible show wpAny _ _ (pyIter _) _ _ _); first | (k_here; (with_reducible show wpAny _ _ (pyIter (Value.ref _)) (fun it s₂ => LoopAtV _ _ _ _ _ _ _ _ _ it s₂) _ _); refine Mine.stopW ?_)) | (with_reducible refine Mine.stopWR ?_) | (k_unfold; (try dsimp only)) | (walk1 <;> (try dsimp only)) | (dsimp only; walk1) | (leave1; try dsimp only)))
          all_goals exact stop (.inr ⟨j, p, rfl, hp, by omega⟩) _ _ (by k_asm) (by k_asm)
    case fin =>
      clear F N
      intro at' t h tk hat hab hlo F N
      (try dsimp only)
      (repeat' (first | ((with_reducible show wpAny _ _ (compareOp _ _ _) _ _ _); first | (k_here; (with_reducible show wpAny _ _ (compareOp CmpOp.Gt (Value.int _ _) (Value.int _ _)) _ _ _); first | (refine Mine.gt_yes (by omega) ?_) | (refine Mine.gt_no (by omega) ?_))) | ((with_reducible show wpAny _ _ (subscriptTail _ _ _ _) _ _ _); first | (k_here; (with_reducible show wpAny _ _ (subscriptTail _ _ (Value.ref _) (Value.int _ _)) _ _ _); k_dflt (refine' Mine.item_nat (by k_asm) ?m ?hx ?hk ?hh ?_ ?hs; (case m => k_mem); (case hx => exact Mine.refs_get (by assumption)); (case hk => omega); (case hh => omega); (case hs => with_unfolding_all rfl))) | (k_here; (with_reducible show wpAny _ _ (subscriptTail _ _ (Value.ref _) (Value.int _ _)) _ _ _); k_dflt (refine' Mine.item_lit (by k_asm) ?m ?h0 ?hh ?hx ?_ ?hs; (case m => k_mem); (case h0 => decide); (case hh => decide); (case hx => exact rfl); (case hs => with_unfolding_all rfl)); (try dsimp only))) | ((with_reducible show wpAny _ _ (call _ _) _ _ _); first | (k_here; (with_reducible show wpAny _ _ (call (Value.ref 282) _) _ _ _); k_dflt (refine' isb _ _ _ _ _ _ _ _ _ _ _ _ _ _ _ _ _ _ _ _ _ _ _ _ _ _ _ _ _ ?k1 ?k2 ?k3 ?k4 ?k5 ?kK ?kd ?ku ?_; (case k1 => k_asm); (case k2 => k_asm); (case k3 => k_asm); (case k4 => exact fun p hp => nomatch hp); (case k5 => k_asm); (case kK => first | exact rfl | assumption); (case kd => ktr_room); (case ku => first | ktr_units | ((have hcL9 := cLine_is); (simp only [Mine.units_make, units_in1, units_deeper, Around.mark_units, units_caller]); (try dsimp only [ktrTop]); omega))); intro b9 h9 tk9 hb9 F9 G9; (rename News _ _ _ _ => lN'); (have N9 := Mine.news_up lN' G9); clear lN' G9; (first | (have e9 : b9 = true := hb9.mpr (by assumption); subst e9) | (have e9 : b9 = false := Mine.b_false hb9 (by assumption); subst e9) | skip); (try dsimp only); (try k_fold)) | (k_here; (with_reducible show wpAny _ _ (call (Value.builtin "len") [Value.ref _]) _ _ _); k_dflt (refine' Mine.len_led ?vN ?vm ?ve ?vz ?_; (case vN => k_asm); (case vm => k_mem); (case ve => (rw [Mine.refs_length])); (case vz => omega)); (try dsimp only)) | (k_here; (with_reducible show wpAny _ _ (call (Value.builtin _) [Value.ref _, Value.int _ _, _]) _ _ _); k_dflt (refine' Mine.insert_led ?F ?N ?h1 ?h2 ?h3 ?h4 ?_; (case F => k_asm); (case N => k_asm); (case h1 => assumption); (case h2 => assumption); (case h3 => assumption); (case h4 => omega)); intro h' F' N')) | ((with_reducible show wpAny _ _ (exec _ _) _ _ _); first | (k_here; (with_reducible show wpAny _ _ (exec (PySem.Stmt.For (PySem.Expr.Name _ _) (PySem.Expr.Name _ _) _ _ _) _) _ _ _); (rename Fr _ _ _ _ => lF'); (with_unfolding_all refine' For_invVF lF' ?k1 ?k2 ?_; (case k1 => exact rfl); (case k2 => exact rfl); k_whole); (try dsimp only)) | (k_here; (with_reducible show wpAny _ _ (exec (PySem.Stmt.While _ _ _ _) _) _ _ _); refine Mine.stopW ?_)) | ((with_reducible show wpAny _ _ (pyIter _) _ _ _); first | (k_here; (with_reducible show wpAny _ _ (pyIter (Value.ref _)) (fun it s₂ => LoopAtV _ _ _ _ _ _ _ _ _ it s₂) _ _); refine Mine.stopW ?_)) | (with_reducible refine Mine.stopWR ?_) | (k_unfold; (try dsimp only)) | (walk1 <;> (try dsimp only)) | (dsimp only; walk1) | (leave1; try dsimp only)))
      all_goals exact ⟨rfl, _, _, _, at', _, rfl, by k_asm, by k_asm, Mine.fr_out, hat, hab, hlo⟩
  case done =>
    intro u ds h tk nd hoff hks hds F N
    (try dsimp only)
    (repeat' (first | ((with_reducible show wpAny _ _ (compareOp _ _ _) _ _ _); first | (k_here; (with_reducible show wpAny _ _ (compareOp CmpOp.Gt (Value.int _ _) (Value.int _ _)) _ _ _); first | (refine Mine.gt_yes (by omega) ?_) | (refine Mine.gt_no (by omega) ?_))) | ((with_reducible show wpAny _ _ (subscriptTail _ _ _ _) _ _ _); first | (k_here; (with_reducible show wpAny _ _ (subscriptTail _ _ (Value.ref _) (Value.int _ _)) _ _ _); k_dflt (refine' Mine.item_nat (by k_asm) ?m ?hx ?hk ?hh ?_ ?hs; (case m => k_mem); (case hx => exact Mine.refs_get (by assumption)); (case hk => omega); (case hh => omega); (case hs => with_unfolding_all rfl))) | (k_here; (with_reducible show wpAny _ _ (subscriptTail _ _ (Value.ref _) (Value.int _ _)) _ _ _); k_dflt (refine' Mine.item_lit (by k_asm) ?m ?h0 ?hh ?hx ?_ ?hs; (case m => k_mem); (case h0 => decide); (case hh => decide); (case hx => exact rfl); (case hs => with_unfolding_all rfl)); (try dsimp only))) | ((with_reducible show wpAny _ _ (call _ _) _ _ _); first | (k_here; (with_reducible show wpAny _ _ (call (Value.ref 282) _) _ _ _); k_dflt (refine' isb _ _ _ _ _ _ _ _ _ _ _ _ _ _ _ _ _ _ _ _ _ _ _ _ _ _ _ _ _ ?k1 ?k2 ?k3 ?k4 ?k5 ?kK ?kd ?ku ?_; (case k1 => k_asm); (case k2 => k_asm); (case k3 => k_asm); (case k4 => exact fun p hp => nomatch hp); (case k5 => k_asm); (case kK => first | exact rfl | assumption); (case kd => ktr_room); (case ku => first | ktr_units | ((have hcL9 := cLine_is); (simp only [Mine.units_make, units_in1, units_deeper, Around.mark_units, units_caller]); (try dsimp only [ktrTop]); omega))); intro b9 h9 tk9 hb9 F9 G9; (rename News _ _ _ _ => lN'); (have N9 := Mine.news_up lN' G9); clear lN' G9; (first | (have e9 : b9 = true := hb9.mpr (by assumption); subst e9) | (have e9 : b9 = false := Mine.b_false hb9 (by assumption); subst e9) | skip); (try dsimp only); (try k_fold)) | (k_here; (with_reducible show wpAny _ _ (call (Value.builtin "len") [Value.ref _]) _ _ _); k_dflt (refine' Mine.len_led ?vN ?vm ?ve ?vz ?_; (case vN => k_asm); (case vm => k_mem); (case ve => (rw [Mine.refs_length])); (case vz => omega)); (try dsimp only)) | (k_here; (with_reducible show wpAny _ _ (call (Value.builtin _) [Value.ref _, Value.int _ _, _]) _ _ _); k_dflt (refine' Mine.insert_led ?F ?N ?h1 ?h2 ?h3 ?h4 ?_; (case F => k_asm); (case N => k_asm); (case h1 => assumption); (case h2 => assumption); (case h3 => assumption); (case h4 => omega)); intro h' F' N')) | ((with_reducible show wpAny _ _ (exec _ _) _ _ _); first | (k_here; (with_reducible show wpAny _ _ (exec (PySem.Stmt.For (PySem.Expr.Name _ _) (PySem.Expr.Name _ _) _ _ _) _) _ _ _); (rename Fr _ _ _ _ => lF'); (with_unfolding_all refine' For_invVF lF' ?k1 ?k2 ?_; (case k1 => exact rfl); (case k2 => exact rfl); k_whole); (try dsimp only)) | (k_here; (with_reducible show wpAny _ _ (exec (PySem.Stmt.While _ _ _ _) _) _ _ _); refine Mine.stopW ?_)) | ((with_reducible show wpAny _ _ (pyIter _) _ _ _); first | (k_here; (with_reducible show wpAny _ _ (pyIter (Value.ref _)) (fun it s₂ => LoopAtV _ _ _ _ _ _ _ _ _ it s₂) _ _); refine Mine.stopW ?_)) | (with_reducible refine Mine.stopWR ?_) | (k_unfold; (try dsimp only)) | (walk1 <;> (try dsimp only)) | (dsimp only; walk1) | (leave1; try dsimp only)))
    all_goals (k_dflt (
      refine' hret _ ds _ _ _ hks hds ?F ?N ?G ?b1
      (case F => k_asm)
      (case N => refine' cb_drop ?cbN ?cbS; (case cbN => assumption); (case cbS => lcg_sub))
      (case G => refine' Mine.KeepFrom.grown ?g1 ?g2 ?g3 ?g4 ?g5; (case g1 => assumption); (case g2 => exact fun p hp => (hN p hp).1); (case g3 => assumption); (case g4 => assumption); (case g5 => exact fun p hp => List.mem_cons_of_mem _ hp))
      (case b1 => refine' Mine.KeepFrom.fresh ?g1 ?g2 ?g3 ?g4; (case g1 => assumption); (case g2 => assumption); (case g3 => k_mem); (case g4 => exact hoff))))
theorem rof : ∀ (w : World) (mean : ExcName → Option Value) (mg mb : Str → Option Value) (dp un : Nat) (gd : Option (List Code)) (cn : Str) (cs : Scope) (a : Addr) (ccd : Value) (cl : List (Str × Addr)) (outer : List Env) (A₀ : Around) (base h₀ : Heap) (L : Addr) (m : Str → Option Value) (hs : Heap) (gn : Array GenState) (dr : Drawn) (tk0 : Nat) (oz : OsState) (Q E : Value → Shared → Prop)
  (A dA P T1 T2 I : Addr) (n n1 n2 n3 : Nat) (told : Str) (vs : List Value) (xs : List Int) (k0 k1 k2 k3 k4 k5 v0 v1 v2 v3 b1 b2 b3 b4 : Tok),
  Below A₀ base outer h₀ → Fr h₀ L hs m → (hd.heap_39 w.params).In h₀ → News h₀ L hs [(A, instObj 180 dA), (dA, dictOf [⟨PyData.keyHash w.params (Str.ofString "word"), .str (Str.ofString "word") k0, .str (Str.ofString "ARRAY") v0⟩, ⟨PyData.keyHash w.params (Str.ofString "number"), .str (Str.ofString "number") k1, .int 1 v1⟩, ⟨PyData.keyHash w.params (Str.ofString "mark"), .str (Str.ofString "mark") k2, .int 0 v2⟩, ⟨PyData.keyHash w.params (Str.ofString "told"), .str (Str.ofString "told") k3, .str told v3⟩, ⟨PyData.keyHash w.params (Str.ofString "bounds"), .str (Str.ofString "bounds") k4, .ref P⟩, ⟨PyData.keyHash w.params (Str.ofString "items"), .str (Str.ofString "items") k5, .ref I⟩] 6), (P, listOf [.ref T1, .ref T2].toArray n), (T1, ⟨.type "tuple", none, .seq [.int 1 b1, .int (xs.length : Int) b2].toArray n1, #[]⟩), (T2, ⟨.type "tuple", none, .seq [.int 1 b3, .int 1 b4].toArray n2, #[]⟩), (I, listOf vs.toArray n3)] →
  Top Mine.vw (looseW Mine.vw [Str.ofString "SnobolError"]) mean mg mb h₀ → cs.kind = .function → dp + 12 < recursionLimit → un + 96 < cLine → IntsAre vs xs → xs.length ≤ 9 →
  (∀ (R : Addr) (rs : List Mine.Q4) (nr : Nat) (h' : Heap) (tk' : Nat), Mine.keys rs = xs → Fr h₀ L h' m → News h₀ L h' ((R, listOf (Mine.refs rs).toArray nr) :: rs.map fun q => (q.1, Mine.rowObj q)) → (∀ b o, hs.get? b = some o → h'.get? b = some o) → Q (.ref R) ⟨h', gn, dr, tk', oz⟩) →
  wpAny (model PySem.Challenge.rw_xw0303_01.row.prog w) (ktrTop dp un gd cn cs L a ccd cl outer) (call (.ref 261) [.ref A]) Q E ⟨hs, gn, dr, tk0, oz⟩ := by
  k_fill
  w_top off
  intro w mean mg mb dp un gd cn cs a ccd cl outer A₀ base h₀ L m hs gn dr tk0 oz Q E A dA P T1 T2 I n n1 n2 n3 told vs xs k0 k1 k2 k3 k4 k5 v0 v1 v2 v3 b1 b2 b3 b4 hB hF hX hN hT hK hd hu hI hle hret
  refine wpAny_call ?_
  (k_dflt (refine' Mine.code_defCF ?k1 ?k2 ?k3 ?k4 ?k5 ?kA ?kF ?kK ?k6 ?k7 ?k8 ?k9 ?kB ?kD ?_ ?c2 ?c3 ?c4; (case kA => exact rfl); (case kF => exact rfl); (case kK => assumption); (case k1 => k_asm); (case k2 => k_asm); (case k3 => k_asm); (case k4 => k_asm); (case k5 => k_asm); (case k6 => k_is); (case k7 => k_is); (case k8 => ktr_room); (case k9 => first | exact BindsTo.of_eq rfl | exact binds_K (by k_in) rfl (by k_is) rfl rfl rfl | fail "k_enter: no rule for these arguments"); (case kB => exact rfl); (case kD => decide +kernel); (case c2 => exact rfl); (case c3 => exact rfl); (case c4 => exact rfl); k_whole; intro g' L' h' tk' cells' FG' F' N' Y' B' X' T' l1 KG'; (try k_lt l1); k_cells Y'; (try simp only [List.cons_append, List.nil_append] at N'); (try dsimp only); (try k_lift B'); (try k_fold)))
  (repeat' (first | ((with_reducible show wpAny _ _ (binaryOp _ _ _) _ _ _); first | (k_here; (with_reducible show wpAny _ _ (binaryOp Operator.Add (Value.int _ _) (Value.int _ _)) _ _ _); first | (refine Mine.add_lit (by simp only [Int.reduceAdd]; first | done | exact rfl) ?_; (try dsimp only)) | (refine Mine.add_lit (Int.sub_add_cancel _ _) ?_; (try dsimp only))) | (k_here; (with_reducible show wpAny _ _ (binaryOp Operator.Sub (Value.int _ _) (Value.int _ _)) _ _ _); first | (refine Mine.sub_lit (by simp only [Int.reduceSub]; first | done | exact rfl) ?_; (try dsimp only)) | (refine Mine.sub_lit rfl ?_; (try dsimp only))) | (k_here; (with_reducible show wpAny _ _ (binaryOp Operator.Mult (Value.int _ _) (Value.int _ _)) _ _ _); first | (refine Mine.mul_lit (by simp only [Int.reduceMul]; first | done | exact rfl) (by mul_fits) ?_; (try dsimp only)) | (refine Mine.mul_lit (Int.one_mul _) (IntMulOk.of_left (by decide)) ?_; (try dsimp only)) | (refine Mine.mul_lit (Int.mul_one _) (IntMulOk.of_right (by decide)) ?_; (try dsimp only)))) | ((with_reducible show wpAny _ _ (subscriptTail _ _ _ _) _ _ _); first | (k_here; (with_reducible show wpAny _ _ (subscriptTail _ _ (Value.ref _) (Value.int _ _)) _ _ _); k_dflt (refine' Mine.item_lit (by k_asm) ?m ?h0 ?hh ?hx ?_ ?hs; (case m => k_mem); (case h0 => decide); (case hh => decide); (case hx => exact rfl); (case hs => with_unfolding_all rfl)); (try dsimp only)) | (k_here; (with_reducible show wpAny _ _ (subscriptTail _ (PySem.Expr.Slice (some _) (some _) none _) (Value.ref _) (Value.ref _)) _ _ _); k_dflt (refine' Mine.cut_lit ?vF ?vN ?vl ?vp ?vq ?ve ?_ ?vs ?vt ?vz; (case vF => k_asm); (case vN => k_asm); (case vl => kmk_list); (case vp => kmk_part); (case vq => kmk_part); (case ve => exact Mine.pick_one (by with_reducible assumption)); (case vs => with_unfolding_all rfl); (case vt => kmk_pure); (case vz => exact Mine.small9 hI hle)); intro D' h' F' N' l1; (try k_lt l1); (try k_sweep))) | ((with_reducible show wpAny _ _ (call _ _) _ _ _); first | (k_here; (with_reducible show wpAny _ _ (call (Value.builtin "len") [Value.ref _]) _ _ _); k_dflt (refine' Mine.len_led ?vN ?vm ?ve ?vz ?_; (case vN => k_asm); (case vm => k_mem); (case ve => first | exact congrArg (fun k : Nat => (k : Int)) (IntsAre.length hI) | exact (rfl : _ = (2 : Int))); (case vz => first | omega | decide)); (try dsimp only))) | ((with_reducible show wpAny _ _ (eval _ _) _ _ _); first | (k_here; (with_reducible show wpAny _ _ (eval (PySem.Expr.ListComp _ [⟨_, _, [], _⟩] _ _) _) _ _ _); k_dflt (refine LCg.ListComp_U (F₀ := by k_asm) (by with_unfolding_all rfl) (by decide) (by rfl) (by decide) (by rfl) ?_))) | (k_here; (with_reducible show LCg.CompSrc _ _ _ _ _ _ _ _ _ _ _ _ _ _); k_dflt (refine LCg.CompSrc.range (by rfl) (by k_asm) (by k_asm) (by assumption) (Mine.range_n (by omega)).1 (Mine.range_n (by omega)).2 (Nat.le_trans (show _ ≤ 100 by omega) (by decide)) ?_; intro g')) | (k_here; with_reducible refine Mine.stopCR ?_) | (k_unfold; (try dsimp only)) | (walk1 <;> (try dsimp only)) | (dsimp only; walk1) | (leave1; try dsimp only)))
  refine' Mine.Stop.mk (Mine.comp6' (Mine.IsRow xs) ?hS ?turn ?fin)
  case hS => exact fun _ _ => trivial
  case turn =>
    intro i v I' oI C oC D oD m₂ h tk E' all hi hsub hv hC hx F N off ne
    obtain ⟨t, rfl⟩ := hv
    obtain ⟨x, t', e1, e2⟩ := Mine.one_get hI hi
    rw [Int.zero_add] at hx
    (refine Mine.led_sub (fun p hp => hsub p hp) N ?_; intro N)
    (repeat' (first | ((with_reducible show wpAny _ _ (binaryOp _ _ _) _ _ _); first | (k_here; (with_reducible show wpAny _ _ (binaryOp Operator.Add (Value.int _ _) (Value.int _ _)) _ _ _); first | (refine Mine.add_lit (by simp only [Int.reduceAdd]; first | done | exact rfl) ?_; (try dsimp only)) | (refine Mine.add_lit (Int.sub_add_cancel _ _) ?_; (try dsimp only))) | (k_here; (with_reducible show wpAny _ _ (binaryOp Operator.Sub (Value.int _ _) (Value.int _ _)) _ _ _); first | (refine Mine.sub_lit (by simp only [Int.reduceSub]; first | done | exact rfl) ?_; (try dsimp only)) | (refine Mine.sub_lit rfl ?_; (try dsimp only))) | (k_here; (with_reducible show wpAny _ _ (binaryOp Operator.Mult (Value.int _ _) (Value.int _ _)) _ _ _); first | (refine Mine.mul_lit (by simp only [Int.reduceMul]; first | done | exact rfl) (by mul_fits) ?_; (try dsimp only)) | (refine Mine.mul_lit (Int.one_mul _) (IntMulOk.of_left (by decide)) ?_; (try dsimp only)) | (refine Mine.mul_lit (Int.mul_one _) (IntMulOk.of_right (by decide)) ?_; (try dsimp only)))) | ((with_reducible show wpAny _ _ (subscriptTail _ _ _ _) _ _ _); first | (k_here; (with_reducible show wpAny _ _ (subscriptTail _ _ (Value.ref _) (Value.int _ _)) _ _ _); k_dflt (refine' Mine.item_lit (by k_asm) ?m ?h0 ?hh ?hx ?_ ?hs; (case m => k_mem); (case h0 => decide); (case hh => decide); (case hx => exact rfl); (case hs => with_unfolding_all rfl)); (try dsimp only)) | (k_here; (with_reducible show wpAny _ _ (subscriptTail _ (PySem.Expr.Slice (some _) (some _) none _) (Value.ref _) (Value.ref _)) _ _ _); k_dflt (refine' Mine.cut_lit ?vF ?vN ?vl ?vp ?vq ?ve ?_ ?vs ?vt ?vz; (case vF => k_asm); (case vN => k_asm); (case vl => kmk_list); (case vp => kmk_part); (case vq => kmk_part); (case ve => exact Mine.pick_one (by with_reducible assumption)); (case vs => with_unfolding_all rfl); (case vt => kmk_pure); (case vz => exact Mine.small9 hI hle)); intro D' h' F' N' l1; (try k_lt l1); (try k_sweep))) | ((with_reducible show wpAny _ _ (call _ _) _ _ _); first | (k_here; (with_reducible show wpAny _ _ (call (Value.builtin "len") [Value.ref _]) _ _ _); k_dflt (refine' Mine.len_led ?vN ?vm ?ve ?vz ?_; (case vN => k_asm); (case vm => k_mem); (case ve => first | exact congrArg (fun k : Nat => (k : Int)) (IntsAre.length hI) | exact (rfl : _ = (2 : Int))); (case vz => first | omega | decide)); (try dsimp only))) | ((with_reducible show wpAny _ _ (eval _ _) _ _ _); first | (k_here; (with_reducible show wpAny _ _ (eval (PySem.Expr.ListComp _ [⟨_, _, [], _⟩] _ _) _) _ _ _); k_dflt (refine LCg.ListComp_U (F₀ := by k_asm) (by with_unfolding_all rfl) (by decide) (by rfl) (by decide) (by rfl) ?_))) | (k_here; (with_reducible show LCg.CompSrc _ _ _ _ _ _ _ _ _ _ _ _ _ _); k_dflt (refine LCg.CompSrc.range (by rfl) (by k_asm) (by k_asm) (by assumption) (Mine.range_n (by omega)).1 (Mine.range_n (by omega)).2 (Nat.le_trans (show _ ≤ 100 by omega) (by decide)) ?_; intro g')) | (k_here; with_reducible refine Mine.stopCR ?_) | (k_unfold; (try dsimp only)) | (walk1 <;> (try dsimp only)) | (dsimp only; walk1) | (leave1; try dsimp only)))
    all_goals exact Mine.NewEnd.intro (by k_asm) (by k_asm) (by lcg_sub) (Mine.off_lt (by with_reducible assumption) (by lcg_sub)) ⟨_, _, _, rfl, e2⟩
  case fin =>
    intro js hl hg ho
    obtain ⟨rs, rfl, hk⟩ := Mine.rows_of_news js xs hl hg
    rw [Mine.prefs_rows]
    unfold LCg.FinE
    intro D h tk F N o
    have N2 := Mine.news_swap N
    have o2 := Mine.off_swap o
    clear N o
    simp only [List.cons_append, List.nil_append] at N2 o2
    (try dsimp only)
    (repeat' (first | ((with_reducible show wpAny _ _ (binaryOp _ _ _) _ _ _); first | (k_here; (with_reducible show wpAny _ _ (binaryOp Operator.Add (Value.int _ _) (Value.int _ _)) _ _ _); first | (refine Mine.add_lit (by simp only [Int.reduceAdd]; first | done | exact rfl) ?_; (try dsimp only)) | (refine Mine.add_lit (Int.sub_add_cancel _ _) ?_; (try dsimp only))) | (k_here; (with_reducible show wpAny _ _ (binaryOp Operator.Sub (Value.int _ _) (Value.int _ _)) _ _ _); first | (refine Mine.sub_lit (by simp only [Int.reduceSub]; first | done | exact rfl) ?_; (try dsimp only)) | (refine Mine.sub_lit rfl ?_; (try dsimp only))) | (k_here; (with_reducible show wpAny _ _ (binaryOp Operator.Mult (Value.int _ _) (Value.int _ _)) _ _ _); first | (refine Mine.mul_lit (by simp only [Int.reduceMul]; first | done | exact rfl) (by mul_fits) ?_; (try dsimp only)) | (refine Mine.mul_lit (Int.one_mul _) (IntMulOk.of_left (by decide)) ?_; (try dsimp only)) | (refine Mine.mul_lit (Int.mul_one _) (IntMulOk.of_right (by decide)) ?_; (try dsimp only)))) | ((with_reducible show wpAny _ _ (subscriptTail _ _ _ _) _ _ _); first | (k_here; (with_reducible show wpAny _ _ (subscriptTail _ _ (Value.ref _) (Value.int _ _)) _ _ _); k_dflt (refine' Mine.item_lit (by k_asm) ?m ?h0 ?hh ?hx ?_ ?hs; (case m => k_mem); (case h0 => decide); (case hh => decide); (case hx => exact rfl); (case hs => with_unfolding_all rfl)); (try dsimp only)) | (k_here; (with_reducible show wpAny _ _ (subscriptTail _ (PySem.Expr.Slice (some _) (some _) none _) (Value.ref _) (Value.ref _)) _ _ _); k_dflt (refine' Mine.cut_lit ?vF ?vN ?vl ?vp ?vq ?ve ?_ ?vs ?vt ?vz; (case vF => k_asm); (case vN => k_asm); (case vl => kmk_list); (case vp => kmk_part); (case vq => kmk_part); (case ve => exact Mine.pick_one (by with_reducible assumption)); (case vs => with_unfolding_all rfl); (case vt => kmk_pure); (case vz => exact Mine.small9 hI hle)); intro D' h' F' N' l1; (try k_lt l1); (try k_sweep))) | ((with_reducible show wpAny _ _ (call _ _) _ _ _); first | (k_here; (with_reducible show wpAny _ _ (call (Value.builtin "len") [Value.ref _]) _ _ _); k_dflt (refine' Mine.len_led ?vN ?vm ?ve ?vz ?_; (case vN => k_asm); (case vm => k_mem); (case ve => first | exact congrArg (fun k : Nat => (k : Int)) (IntsAre.length hI) | exact (rfl : _ = (2 : Int))); (case vz => first | omega | decide)); (try dsimp only))) | ((with_reducible show wpAny _ _ (eval _ _) _ _ _); first | (k_here; (with_reducible show wpAny _ _ (eval (PySem.Expr.ListComp _ [⟨_, _, [], _⟩] _ _) _) _ _ _); k_dflt (refine LCg.ListComp_U (F₀ := by k_asm) (by with_unfolding_all rfl) (by decide) (by rfl) (by decide) (by rfl) ?_))) | (k_here; (with_reducible show LCg.CompSrc _ _ _ _ _ _ _ _ _ _ _ _ _ _); k_dflt (refine LCg.CompSrc.range (by rfl) (by k_asm) (by k_asm) (by assumption) (Mine.range_n (by omega)).1 (Mine.range_n (by omega)).2 (Nat.le_trans (show _ ≤ 100 by omega) (by decide)) ?_; intro g')) | (k_here; with_reducible refine Mine.stopCR ?_) | (k_unfold; (try dsimp only)) | (walk1 <;> (try dsimp only)) | (dsimp only; walk1) | (leave1; try dsimp only)))
    all_goals (k_dflt (
      refine' hret _ rs _ _ _ hk ?F ?N ?G
      (case F => k_asm)
      (case N => refine' cb_drop ?cbN ?cbS; (case cbN => assumption); (case cbS => lcg_sub))
      (case G => refine' Mine.KeepFrom.grown ?g1 ?g2 ?g3 ?g4 ?g5; (case g1 => assumption); (case g2 => exact fun p hp => (hN p hp).1); (case g3 => assumption); (case g4 => assumption); (case g5 => lcg_sub))))
theorem ra : ∀ (w : World) (mean : ExcName → Option Value) (mg mb : Str → Option Value) (dp un : Nat) (gd : Option (List Code)) (cn : Str) (cs : Scope) (a : Addr) (ccd : Value) (cl : List (Str × Addr)) (outer : List Env) (A₀ : Around) (base h₀ : Heap) (L : Addr) (m : Str → Option Value) (hs : Heap) (gn : Array GenState) (dr : Drawn) (tk0 : Nat) (oz : OsState) (Q E : Value → Shared → Prop)
  (R : Addr) (n : Nat) (rs : List Mine.Q4) (xs : List Int) (t : Tok) (news : List (Addr × Obj)),
  Below A₀ base outer h₀ → Fr h₀ L hs m → (hd.heap_39 w.params).In h₀ → News h₀ L hs news →
  Top Mine.vw (looseW Mine.vw [Str.ofString "SnobolError"]) mean mg mb h₀ → cs.kind = .function → dp + 16 < recursionLimit → un + 128 < cLine → Mine.Rws rs xs → (R, listOf (Mine.refs rs).toArray n) ∈ news → (∀ q ∈ rs, (q.1, Mine.rowObj q) ∈ news) → 0 < xs.length → xs.length ≤ 9 →
  (∀ (A dA P T1 T2 I : Addr) (n n1 n2 n3 : Nat) (told : Str) (k0 k1 k2 k3 k4 k5 v0 v1 v2 v3 b1 b2 b3 b4 : Tok) (h' : Heap) (tk' : Nat), Fr h₀ L h' m → News h₀ L h' [(A, instObj 180 dA), (dA, dictOf [⟨PyData.keyHash w.params (Str.ofString "word"), .str (Str.ofString "word") k0, .str (Str.ofString "ARRAY") v0⟩, ⟨PyData.keyHash w.params (Str.ofString "number"), .str (Str.ofString "number") k1, .int 1 v1⟩, ⟨PyData.keyHash w.params (Str.ofString "mark"), .str (Str.ofString "mark") k2, .int 0 v2⟩, ⟨PyData.keyHash w.params (Str.ofString "told"), .str (Str.ofString "told") k3, .str told v3⟩, ⟨PyData.keyHash w.params (Str.ofString "bounds"), .str (Str.ofString "bounds") k4, .ref P⟩, ⟨PyData.keyHash w.params (Str.ofString "items"), .str (Str.ofString "items") k5, .ref I⟩] 6), (P, listOf [.ref T1, .ref T2].toArray n), (T1, ⟨.type "tuple", none, .seq [.int 1 b1, .int (xs.length : Int) b2].toArray n1, #[]⟩), (T2, ⟨.type "tuple", none, .seq [.int 1 b3, .int 1 b4].toArray n2, #[]⟩), (I, listOf (Mine.vals rs).toArray n3)] → (∀ b o, hs.get? b = some o → h'.get? b = some o) → Q (.ref A) ⟨h', gn, dr, tk', oz⟩) →
  wpAny (model PySem.Challenge.rw_xw0303_01.row.prog w) (ktrTop dp un gd cn cs L a ccd cl outer) (call (.ref 256) [.ref R, .int 1 t]) Q E ⟨hs, gn, dr, tk0, oz⟩ := by
  k_fill
  w_top off
  intro w mean mg mb dp un gd cn cs a ccd cl outer A₀ base h₀ L m hs gn dr tk0 oz Q E R n rs xs t news hB hF hX hN hT hK hd hu hR hm hrows hpos hle hret
  have h1 : 0 < rs.length := by rw [Mine.rws_len hR]; exact hpos
  obtain ⟨q0, e0⟩ : ∃ q0, rs[0]? = some q0 := ⟨rs[0], List.getElem?_eq_getElem h1⟩
  have hq0 : (q0.1, listOf [.int q0.2.1 q0.2.2.1].toArray q0.2.2.2) ∈ news := hrows q0 (List.mem_of_getElem? e0)
  refine wpAny_call ?_
  (k_dflt (refine' Mine.code_defF ?k1 ?k2 ?k3 ?k4 ?k5 ?kA ?kF ?kK ?k6 ?k7 ?k8 ?k9 ?kB ?_ ?c2 ?c3 ?c4 ?c5; (case kA => exact rfl); (case kF => exact rfl); (case kK => assumption); (case k1 => k_asm); (case k2 => k_asm); (case k3 => k_asm); (case k4 => k_asm); (case k5 => k_asm); (case k6 => k_is); (case k7 => k_is); (case k8 => ktr_room); (case k9 => exact BindsTo.of_eq rfl); (case c5 => decide); (case kB => exact locs rfl); (case c2 => exact rfl); (case c3 => exact rfl); (case c4 => exact rfl); k_whole; intro g' L' h' tk' FG' F' N' B' X' T' KG'; (try dsimp only); (try k_lift B'); (try k_fold)))
  (repeat' (first | ((with_reducible show wpAny _ _ (binaryOp _ _ _) _ _ _); first | (k_here; (with_reducible show wpAny _ _ (binaryOp Operator.Add (Value.int _ _) (Value.int _ _)) _ _ _); first | (refine Mine.add_lit (by simp only [Int.reduceAdd]; first | done | exact rfl) ?_; (try dsimp only)) | (refine Mine.add_lit (Int.sub_add_cancel _ _) ?_; (try dsimp only))) | (k_here; (with_reducible show wpAny _ _ (binaryOp Operator.Sub (Value.int _ _) (Value.int _ _)) _ _ _); first | (refine Mine.sub_lit (by simp only [Int.reduceSub]; first | done | exact rfl) ?_; (try dsimp only)) | (refine Mine.sub_lit rfl ?_; (try dsimp only))) | (k_here; (with_reducible show wpAny _ _ (binaryOp Operator.Mult (Value.int _ _) (Value.int _ _)) _ _ _); first | (refine Mine.mul_lit (by simp only [Int.reduceMul]; first | done | exact rfl) (by mul_fits) ?_; (try dsimp only)) | (refine Mine.mul_lit (Int.one_mul _) (IntMulOk.of_left (by decide)) ?_; (try dsimp only)) | (refine Mine.mul_lit (Int.mul_one _) (IntMulOk.of_right (by decide)) ?_; (try dsimp only))) | (k_here; (with_reducible show wpAny _ _ (binaryOp Operator.Mult (Value.ref _) (Value.int _ _)) _ _ _); k_dflt (refine' KMa.mul ?F ?N ?l ?lo ?hi ?z ?e ?_; (case F => k_asm); (case N => k_asm); (case l => is_list); (case lo => omega); (case hi => omega); (case z => (simp only [List.length_cons, List.length_nil]; omega)); (case e => exact rfl); k_whole); intro D' h' F' N' l1; (try k_lt l1); (try k_sweep))) | ((with_reducible show wpAny _ _ (subscriptTail _ _ _ _) _ _ _); first | (k_here; (with_reducible show wpAny _ _ (subscriptTail _ _ (Value.ref _) (Value.int _ _)) _ _ _); k_dflt (refine' Mine.item_nat (by k_asm) ?vm (Mine.refs_get e0) ?vk ?vh ?_ ?vs; (case vm => k_mem); (case vk => exact rfl); (case vh => decide); (case vs => with_unfolding_all rfl)); (try dsimp only))) | ((with_reducible show wpAny _ _ (call _ _) _ _ _); first | (k_here; (with_reducible show wpAny _ _ (call (Value.ref 163) _) _ _ _); k_dflt (refine' tow _ _ _ _ _ _ _ _ _ _ _ _ _ _ _ _ _ _ _ _ _ _ _ _ _ _ _ ?k1 ?k2 ?k3 ?k4 ?k5 ?kK ?kd ?ku ?q1 ?q2 ?_; (case k1 => k_asm); (case k2 => k_asm); (case k3 => k_asm); (case k4 => (rename News _ _ _ _ => lM'); exact cb_drop lM' (by lcg_sub)); (case k5 => k_asm); (case kK => first | exact rfl | assumption); (case kd => ktr_room); (case ku => first | ktr_units | ((have hcL9 := cLine_is); (simp only [Mine.units_make, units_in1, units_deeper, Around.mark_units, units_caller]); (try dsimp only [ktrTop]); omega)); (case q1 => first | decide | assumption | omega); (case q2 => first | decide | assumption | omega)); intro x9 v9 h9 tk9 hx9 F9 G9; (rename News _ _ _ _ => lN'); (have N8 := Mine.news_up lN' G9); clear lN' G9; (try dsimp only); (try k_fold)) | (k_here; (with_reducible show wpAny _ _ (call (Value.ref 227) _) _ _ _); k_dflt (refine' sob _ _ _ _ _ _ _ _ _ _ _ _ _ _ _ _ _ _ _ _ _ _ _ _ _ _ _ _ _ _ _ _ _ _ _ _ ?k1 ?k2 ?k3 ?k4 ?k5 ?kK ?kd ?ku ?q1 ?_; (case k1 => k_asm); (case k2 => k_asm); (case k3 => k_asm); (case k4 => (rename News _ _ _ _ => lM'); exact cb_drop lM' (by lcg_sub)); (case k5 => k_asm); (case kK => first | exact rfl | assumption); (case kd => ktr_room); (case ku => first | ktr_units | ((have hcL9 := cLine_is); (simp only [Mine.units_make, units_in1, units_deeper, Around.mark_units, units_caller]); (try dsimp only [ktrTop]); omega)); (case q1 => first | assumption | omega)); intro v9 h9 tk9 F9 G9; (rename News _ _ _ _ => lN'); (have N8 := Mine.news_up lN' G9); clear lN' G9; (try dsimp only); (try k_fold)) | (k_here; (with_reducible show wpAny _ _ (call (Value.builtin "len") [Value.ref _]) _ _ _); k_dflt (refine' Mine.len_led ?vN ?vm ?ve ?vz ?_; (case vN => k_asm); (case vm => k_mem); (case ve => first | exact congrArg (fun k : Nat => (k : Int)) (Mine.refs_len hR) | exact (rfl : _ = (1 : Int))); (case vz => first | omega | decide)); (try dsimp only))) | ((with_reducible show wpAny _ _ (eval _ _) _ _ _); first | (k_here; (with_reducible show wpAny _ _ (eval (PySem.Expr.ListComp _ [_, _] _ _) _) _ _ _); k_dflt (refine Mine.ListComp_2 (by k_asm) (by with_unfolding_all rfl) (by decide) (by rfl) (by decide) (by rfl) (by rfl) ?_))) | ((with_reducible show wpAny _ _ (exec _ _) _ _ _); first | (k_here; with_reducible refine plainObj_wpAny_Assign_Attribute ?_ ?_; rotate_left; with_unfolding_all rfl)) | (k_here; with_reducible refine' Mine.C2Src.intro ?hh ?F ?N ?m ?r ?e ?z ?_; k_dflt ((case hh => rfl); (case F => k_asm); (case N => k_asm); (case m => k_mem); (case r => exact Mine.rowsAre_all (fun q hq => by have := hrows q hq; k_mem)); (case e => exact rfl); (case z => exact Mine.vals_small (by rw [Mine.rws_len hR]; exact hle))); intro D' h' tk' F' N' l1; (try k_lt l1); (try k_sweep)) | (k_here; (with_reducible show LCg.FinE _ _ _ _ _ _ _); (unfold LCg.FinE); intro D' h' tk' F' N' o1'; (try simp only [List.nil_append, List.cons_append] at N'); (try dsimp only)) | (k_unfold; (try dsimp only)) | (walk1 <;> (try dsimp only)) | (dsimp only; walk1) | (leave1; try dsimp only)))
  all_goals (k_dflt (
    refine' hret _ _ _ _ _ _ _ _ _ _ _ _ _ _ _ _ _ _ _ _ _ _ _ _ _ _ _  ?F ?N ?G
    (case F => k_asm)
    (case N => refine' cb_drop ?cbN ?cbS; (case cbN => assumption); (case cbS => lcg_sub))
    (case G => refine' Mine.KeepFrom.grown ?g1 ?g2 ?g3 ?g4 ?g5; (case g1 => assumption); (case g2 => exact fun p hp => (hN p hp).1); (case g3 => assumption); (case g4 => assumption); (case g5 => lcg_sub))))
theorem sa : ∀ (w : World) (mean : ExcName → Option Value) (mg mb : Str → Option Value) (dp un : Nat) (gd : Option (List Code)) (cn : Str) (cs : Scope) (a : Addr) (ccd : Value) (cl : List (Str × Addr)) (outer : List Env) (A₀ : Around) (base h₀ : Heap) (L : Addr) (m : Str → Option Value) (hs : Heap) (gn : Array GenState) (dr : Drawn) (tk0 : Nat) (oz : OsState) (Q E : Value → Shared → Prop)
  (A dA P T1 T2 I : Addr) (n n1 n2 n3 : Nat) (told : Str) (vs : List Value) (xs : List Int) (k0 k1 k2 k3 k4 k5 v0 v1 v2 v3 b1 b2 b3 b4 t : Tok),
  Below A₀ base outer h₀ → Fr h₀ L hs m → (hd.heap_39 w.params).In h₀ → News h₀ L hs [(A, instObj 180 dA), (dA, dictOf [⟨PyData.keyHash w.params (Str.ofString "word"), .str (Str.ofString "word") k0, .str (Str.ofString "ARRAY") v0⟩, ⟨PyData.keyHash w.params (Str.ofString "number"), .str (Str.ofString "number") k1, .int 1 v1⟩, ⟨PyData.keyHash w.params (Str.ofString "mark"), .str (Str.ofString "mark") k2, .int 0 v2⟩, ⟨PyData.keyHash w.params (Str.ofString "told"), .str (Str.ofString "told") k3, .str told v3⟩, ⟨PyData.keyHash w.params (Str.ofString "bounds"), .str (Str.ofString "bounds") k4, .ref P⟩, ⟨PyData.keyHash w.params (Str.ofString "items"), .str (Str.ofString "items") k5, .ref I⟩] 6), (P, listOf [.ref T1, .ref T2].toArray n), (T1, ⟨.type "tuple", none, .seq [.int 1 b1, .int (xs.length : Int) b2].toArray n1, #[]⟩), (T2, ⟨.type "tuple", none, .seq [.int 1 b3, .int 1 b4].toArray n2, #[]⟩), (I, listOf vs.toArray n3)] →
  Top Mine.vw (looseW Mine.vw [Str.ofString "SnobolError"]) mean mg mb h₀ → cs.kind = .function → dp + 16 < recursionLimit → un + 128 < cLine → IntsAre vs xs → 0 < xs.length → xs.length ≤ 9 →
  (∀ (B dB J : Addr) (a0 a1 a2 a3 a4 a5 c0 c1 c2 c3 : Tok) (ws : List Value) (nj : Nat) (h' : Heap) (tk' : Nat), Fr h₀ L h' m → News h₀ L h' [(B, instObj 180 dB), (dB, dictOf [⟨PyData.keyHash w.params (Str.ofString "word"), .str (Str.ofString "word") a0, .str (Str.ofString "ARRAY") c0⟩, ⟨PyData.keyHash w.params (Str.ofString "number"), .str (Str.ofString "number") a1, .int 2 c1⟩, ⟨PyData.keyHash w.params (Str.ofString "mark"), .str (Str.ofString "mark") a2, .int 0 c2⟩, ⟨PyData.keyHash w.params (Str.ofString "told"), .str (Str.ofString "told") a3, .str told c3⟩, ⟨PyData.keyHash w.params (Str.ofString "bounds"), .str (Str.ofString "bounds") a4, .ref P⟩, ⟨PyData.keyHash w.params (Str.ofString "items"), .str (Str.ofString "items") a5, .ref J⟩] 6), (J, listOf ws.toArray nj)] →
    IntsAre ws (Mine.isort xs) → (∀ b o, hs.get? b = some o → h'.get? b = some o) → hs.get? B = none → hs.get? dB = none → hs.get? J = none → (@Ne Nat B dB ∧ @Ne Nat B J ∧ @Ne Nat dB J) → Q (.ref B) ⟨h', gn, dr, tk', oz⟩) →
  wpAny (model PySem.Challenge.rw_xw0303_01.row.prog w) (ktrTop dp un gd cn cs L a ccd cl outer) (call (.ref 287) [.ref A, .none, .bool false, .int 2 t]) Q E ⟨hs, gn, dr, tk0, oz⟩ := by
  k_fill
  w_top off
  intro w mean mg mb dp un gd cn cs a ccd cl outer A₀ base h₀ L m hs gn dr tk0 oz Q E A dA P T1 T2 I n n1 n2 n3 told vs xs k0 k1 k2 k3 k4 k5 v0 v1 v2 v3 b1 b2 b3 b4 t hB hF hX hN hT hK hd hu hI hpos hle hret
  refine wpAny_call ?_
  (k_dflt (refine' Mine.code_defF ?k1 ?k2 ?k3 ?k4 ?k5 ?kA ?kF ?kK ?k6 ?k7 ?k8 ?k9 ?kB ?_ ?c2 ?c3 ?c4 ?c5; (case kA => exact rfl); (case kF => exact rfl); (case kK => assumption); (case k1 => k_asm); (case k2 => k_asm); (case k3 => k_asm); (case k4 => k_asm); (case k5 => k_asm); (case k6 => k_is); (case k7 => k_is); (case k8 => ktr_room); (case k9 => exact BindsTo.of_eq rfl); (case c5 => decide); (case kB => exact locs rfl); (case c2 => exact rfl); (case c3 => exact rfl); (case c4 => exact rfl); k_whole; intro g' L' h' tk' FG' F' N' B' X' T' KG'; (try dsimp only); (try k_lift B'); (try k_fold)))
  (repeat' (first | ((with_reducible show wpAny _ _ (binaryOp _ _ _) _ _ _); first | (k_here; (with_reducible show wpAny _ _ (binaryOp Operator.Add (Value.int _ _) (Value.int _ _)) _ _ _); first | (refine Mine.add_lit (by simp only [Int.reduceAdd]; first | done | exact rfl) ?_; (try dsimp only)) | (refine Mine.add_lit (Int.sub_add_cancel _ _) ?_; (try dsimp only))) | (k_here; (with_reducible show wpAny _ _ (binaryOp Operator.Sub (Value.int _ _) (Value.int _ _)) _ _ _); first | (refine Mine.sub_lit (by simp only [Int.reduceSub]; first | done | exact rfl) ?_; (try dsimp only)) | (refine Mine.sub_lit rfl ?_; (try dsimp only))) | (k_here; (with_reducible show wpAny _ _ (binaryOp Operator.Mult (Value.int _ _) (Value.int _ _)) _ _ _); first | (refine Mine.mul_lit (by simp only [Int.reduceMul]; first | done | exact rfl) (by mul_fits) ?_; (try dsimp only)) | (refine Mine.mul_lit (Int.one_mul _) (IntMulOk.of_left (by decide)) ?_; (try dsimp only)) | (refine Mine.mul_lit (Int.mul_one _) (IntMulOk.of_right (by decide)) ?_; (try dsimp only)))) | ((with_reducible show wpAny _ _ (subscriptTail _ _ _ _) _ _ _); first | (k_here; (with_reducible show wpAny _ _ (subscriptTail _ _ (Value.ref _) (Value.int _ _)) _ _ _); k_dflt (refine' Mine.item_lit (by k_asm) ?m ?h0 ?hh ?hx ?_ ?hs; (case m => k_mem); (case h0 => decide); (case hh => decide); (case hx => exact rfl); (case hs => with_unfolding_all rfl)); (try dsimp only)) | (k_here; (with_reducible show wpAny _ _ (subscriptTail _ _ (Value.ref _) (Value.int _ _)) _ _ _); k_dflt (refine' Mine.item_nat (by k_asm) ?vm (Mine.refs_get e9) ?vk ?vh ?_ ?vs; (case vm => k_mem); (case vk => exact rfl); (case vh => decide); (case vs => with_unfolding_all rfl)); (try dsimp only))) | ((with_reducible show wpAny _ _ (call _ _) _ _ _); first | (k_here; (with_reducible show wpAny _ _ (call (Value.ref 261) _) _ _ _); k_dflt (refine' rof _ _ _ _ _ _ _ _ _ _ _ _ _ _ _ _ _ _ _ _ _ _ _ _ _ _ _ _ _ _ _ _ _ _ _ _ _ _ _ _ _ _ _ _ _ _ _ _ _ _ _ _ ?k1 ?k2 ?k3 ?k4 ?k5 ?kK ?kd ?ku ?q1 ?q2 ?_; (case k1 => k_asm); (case k2 => k_asm); (case k3 => k_asm); (case k4 => (rename News _ _ _ _ => lM'); exact cb_drop lM' (by lcg_sub)); (case k5 => k_asm); (case kK => first | exact rfl | assumption); (case kd => ktr_room); (case ku => first | ktr_units | ((have hcL9 := cLine_is); (simp only [Mine.units_make, units_in1, units_deeper, Around.mark_units, units_caller]); (try dsimp only [ktrTop]); omega)); (case q1 => with_reducible assumption); (case q2 => assumption)); (rename News _ _ _ _ => lN'); intro R9 rs9 n9 h9 tk9 hk9 F9 N9 G9; (have N8 := Mine.news_rows N9 lN' G9); (have R8 := Mine.Rws.mk hk9); clear N9 lN' G9 hk9; (obtain ⟨q9, e9, m9⟩ := Mine.rws_head R8 hpos); (simp only [List.cons_append, List.nil_append] at N8); (try dsimp only); (try k_fold)) | (k_here; (with_reducible show wpAny _ _ (call (Value.ref 275) _) _ _ _); k_dflt (refine' sr _ _ _ _ _ _ _ _ _ _ _ _ _ _ _ _ _ _ _ _ _ _ _ _ _ _ _ _ _ _ ?k1 ?k2 ?k3 ?k4 ?k5 ?kK ?kd ?ku ?qm ?qr ?ql ?_; (case k1 => k_asm); (case k2 => k_asm); (case k3 => k_asm); (case k4 => k_asm); (case k5 => k_asm); (case kK => first | exact rfl | assumption); (case kd => ktr_room); (case ku => first | ktr_units | ((have hcL9 := cLine_is); (simp only [Mine.units_make, units_in1, units_deeper, Around.mark_units, units_caller]); (try dsimp only [ktrTop]); omega)); (case qm => k_mem); (case qr => exact Mine.rows_in (by lcg_sub)); (case ql => exact Mine.rws_le (by with_reducible assumption) hle)); (rename News _ _ _ _ => lN'); intro D9 ds9 n9 h9 tk9 hk9 hds9 F9 N9 G9 e9; (have O9 := Mine.off_of lN' e9); (have S9 := Mine.Srt.mk hk9 hds9); clear hk9 hds9; (have N8 := Mine.news_add N9 lN' G9); clear N9 lN' G9 e9; (simp only [List.nil_append, List.cons_append] at N8); (try dsimp only); (try k_fold)) | (k_here; (with_reducible show wpAny _ _ (call (Value.ref 227) _) _ _ _); k_dflt (refine' sob _ _ _ _ _ _ _ _ _ _ _ _ _ _ _ _ _ _ _ _ _ _ _ _ _ _ _ _ _ _ _ _ _ _ _ _ ?k1 ?k2 ?k3 ?k4 ?k5 ?kK ?kd ?ku ?q1 ?_; (case k1 => k_asm); (case k2 => k_asm); (case k3 => k_asm); (case k4 => (rename News _ _ _ _ => lM'); exact cb_drop lM' (by lcg_sub)); (case k5 => k_asm); (case kK => first | exact rfl | assumption); (case kd => ktr_room); (case ku => first | ktr_units | ((have hcL9 := cLine_is); (simp only [Mine.units_make, units_in1, units_deeper, Around.mark_units, units_caller]); (try dsimp only [ktrTop]); omega)); (case q1 => first | assumption | omega)); intro v9 h9 tk9 F9 G9; (rename News _ _ _ _ => lN'); (have N8 := Mine.news_up lN' G9); clear lN' G9; (try dsimp only); (try k_fold)) | (k_here; (with_reducible show wpAny _ _ (call (Value.builtin "len") [Value.ref _]) _ _ _); k_dflt (refine' Mine.len_led ?vN ?vm ?ve ?vz ?_; (case vN => k_asm); (case vm => k_mem); (case ve => first | exact congrArg (fun k : Nat => (k : Int)) (IntsAre.length hI) | exact (rfl : _ = (2 : Int)) | exact (rfl : _ = (1 : Int))); (case vz => first | omega | decide)); (try dsimp only)) | (k_here; (with_reducible show wpAny _ _ (call _ [Value.ref _, Value.ref _]) _ _ _); k_dflt (first | (refine' isi_call ?k1 ?k2 ?k3 ?k4 ?_; (case k1 => k_in); (case k2 => k_types); (case k3 => k_is); (case k4 => intro e; cases e); k_whole) | (refine' kin_callC ?k1 ?k2 ?k3 ?k4 ?k5 ?k6 ?k7 ?k8 ?k9 ?_; (case k1 => k_in); (case k2 => k_inst); (case k3 => kin_no); (case k4 => k_is); (case k5 => k_is); (case k6 => k_is); (case k7 => k_is); (case k8 => k_is); (case k9 => k_is); k_whole)); (try dsimp only))) | ((with_reducible show wpAny _ _ (eval _ _) _ _ _); first | (k_here; (with_reducible show wpAny _ _ (eval (PySem.Expr.ListComp _ [_, _] _ _) _) _ _ _); k_dflt (refine Mine.ListComp_2 (by k_asm) (by with_unfolding_all rfl) (by decide) (by rfl) (by decide) (by rfl) (by rfl) ?_))) | ((with_reducible show wpAny _ _ (exec _ _) _ _ _); first | (k_here; with_reducible refine plainObj_wpAny_Assign_Attribute ?_ ?_; rotate_left; with_unfolding_all rfl)) | (k_here; with_reducible refine' Mine.C2Src.intro ?hh ?F ?N ?m ?r ?e ?z ?_; k_dflt ((case hh => rfl); (case F => k_asm); (case N => k_asm); (case m => k_mem); (case r => exact Mine.srt_rows (by with_reducible assumption) (Mine.rows_in (by lcg_sub))); (case e => exact rfl); (case z => exact Mine.srt_fit (by with_reducible assumption) (Mine.rws_le (by with_reducible assumption) (Nat.le_trans hle (by decide))))); intro D' h' tk' F' N' l1; (try k_lt l1); (try k_sweep)) | (k_here; (with_reducible show LCg.FinE _ _ _ _ _ _ _); (unfold LCg.FinE); intro D' h' tk' F' N' o1'; (try simp only [List.nil_append, List.cons_append] at N'); (try dsimp only)) | (k_unfold; (try dsimp only)) | (walk1 <;> (try dsimp only)) | (dsimp only; walk1) | (leave1; try dsimp only)))
  all_goals (k_dflt (
    refine' hret _ _ _ _ _ _ _ _ _ _ _ _ _ _ _ _ _ ?F ?N ?I ?G ?b1 ?b2 ?b3 ?o
    (case F => k_asm)
    (case N => refine' cb_drop ?cbN ?cbS; (case cbN => assumption); (case cbS => lcg_sub))
    (case I => exact Mine.srt_valsR (by with_reducible assumption) (by with_reducible assumption))
    (case G => refine' Mine.KeepFrom.grown ?g1 ?g2 ?g3 ?g4 ?g5; (case g1 => assumption); (case g2 => exact fun p hp => (hN p hp).1); (case g3 => assumption); (case g4 => assumption); (case g5 => lcg_sub))
    (case b1 => refine' Mine.KeepFrom.fresh ?g1 ?g2 ?g3 ?g4; (case g1 => assumption); (case g2 => assumption); (case g3 => k_mem); (case g4 => refine' Mine.sub_ne2 ?wl ?wx ?ws; (case wl => with_reducible assumption); (case wx => with_reducible assumption); (case ws => lcg_sub)))
    (case b2 => refine' Mine.KeepFrom.fresh ?g1 ?g2 ?g3 ?g4; (case g1 => assumption); (case g2 => assumption); (case g3 => k_mem); (case g4 => refine' Mine.sub_ne ?wx ?ws; (case wx => with_reducible assumption); (case ws => lcg_sub)))
    (case b3 => refine' Mine.KeepFrom.fresh ?g1 ?g2 ?g3 ?g4; (case g1 => assumption); (case g2 => assumption); (case g3 => k_mem); (case g4 => refine' Mine.sub_ne ?wx ?ws; (case wx => with_reducible assumption); (case ws => lcg_sub)))
    (case o => refine' ⟨?o1, ?o2, ?o3⟩; (case o1 => refine Mine.gt_ne ?_; assumption); (all_goals (refine' Mine.Lt.ne ?wx ?wm; (case wx => with_reducible assumption); (case wm => k_mem))))))
theorem ls : ∀ (w : World) (mean : ExcName → Option Value) (mg mb : Str → Option Value) (dp un : Nat) (gd : Option (List Code)) (cn : Str) (cs : Scope) (a : Addr) (ccd : Value) (cl : List (Str × Addr)) (outer : List Env) (A₀ : Around) (base h₀ : Heap) (L : Addr) (m : Str → Option Value) (hs : Heap) (gn : Array GenState) (dr : Drawn) (tk0 : Nat) (oz : OsState) (Q E : Value → Shared → Prop)
  (R : Addr) (n g : Nat) (vs : List Value) (ns : List Int) (t : Tok),
  Below A₀ base outer h₀ → Fr h₀ L hs m → (hd.heap_39 w.params).In h₀ → News h₀ L hs [(R, listOf vs.toArray n)] →
  Top Mine.vw (looseW Mine.vw [Str.ofString "SnobolError"]) mean mg mb h₀ → cs.kind = .function → dp + 24 < recursionLimit → un + 192 < cLine → IntsAre vs ns → 3 ≤ ns.length → ns.length ≤ 7 → 2 ≤ g → g ≤ 5 →
  (∀ (Z : Addr) (ys : List Value) (nz : Nat) (h' : Heap) (tk' : Nat), IntsAre ys (Mine.lsort g ns) → Fr h₀ L h' m → News h₀ L h' [(Z, listOf ys.toArray nz)] → (∀ b o, hs.get? b = some o → h'.get? b = some o) → hs.get? Z = none → Q (.ref Z) ⟨h', gn, dr, tk', oz⟩) →
  wpAny (model PySem.Challenge.rw_xw0303_01.row.prog w) (ktrTop dp un gd cn cs L a ccd cl outer) (call (.ref 292) [.ref R, .int (g : Int) t]) Q E ⟨hs, gn, dr, tk0, oz⟩ := by
  k_fill
  w_top off
  intro w mean mg mb dp un gd cn cs a ccd cl outer A₀ base h₀ L m hs gn dr tk0 oz Q E R n g vs ns t hB hF hX hN hT hK hd hu hI h3 h7 h2 h5 hret
  refine wpAny_call ?_
  (k_dflt (refine' Mine.code_defCF ?k1 ?k2 ?k3 ?k4 ?k5 ?kA ?kF ?kK ?k6 ?k7 ?k8 ?k9 ?kB ?kD ?_ ?c2 ?c3 ?c4; (case kA => exact rfl); (case kF => exact rfl); (case kK => assumption); (case k1 => k_asm); (case k2 => k_asm); (case k3 => k_asm); (case k4 => k_asm); (case k5 => k_asm); (case k6 => k_is); (case k7 => k_is); (case k8 => ktr_room); (case k9 => first | exact BindsTo.of_eq rfl | exact binds_K (by k_in) rfl (by k_is) rfl rfl rfl | fail "k_enter: no rule for these arguments"); (case kB => exact rfl); (case kD => decide +kernel); (case c2 => exact rfl); (case c3 => exact rfl); (case c4 => exact rfl); k_whole; intro g' L' h' tk' cells' FG' F' N' Y' B' X' T' l1 KG'; (try k_lt l1); k_cells Y'; (try simp only [List.cons_append, List.nil_append] at N'); (try dsimp only); (try k_lift B'); (try k_fold)))
  (repeat' (first | ((with_reducible show wpAny _ _ (call _ _) _ _ _); first | (k_here; (with_reducible show wpAny _ _ (call (Value.builtin "len") [Value.ref _]) _ _ _); k_dflt (refine' Mine.len_led ?vN ?vm ?ve ?vz ?_; (case vN => k_asm); (case vm => k_mem); (case ve => exact congrArg (fun k : Nat => (k : Int)) (IntsAre.length (by with_reducible assumption))); (case vz => omega)); (try dsimp only))) | ((with_reducible show wpAny _ _ (eval _ _) _ _ _); first | (k_here; (with_reducible show wpAny _ _ (eval (PySem.Expr.ListComp _ [⟨_, _, [], _⟩] _ _) _) _ _ _); k_dflt (refine LCg.ListComp_U (F₀ := by k_asm) (by with_unfolding_all rfl) (by decide) (by rfl) (by decide) (by rfl) ?_))) | (k_here; (with_reducible show LCg.CompSrc _ _ _ _ _ _ _ _ _ _ _ _ _ _); k_dflt (refine LCg.CompSrc.range (by rfl) (by k_asm) (by k_asm) (by with_reducible assumption) (Mine.range_n (by omega)).1 (Mine.range_n (by omega)).2 (Nat.le_trans (show _ ≤ 100 by omega) (by decide)) ?_; intro g')) | (k_here; with_reducible refine Mine.stopCR ?_) | (k_unfold; (try dsimp only)) | (walk1 <;> (try dsimp only)) | (dsimp only; walk1) | (leave1; try dsimp only)))
  refine' Mine.Stop.mk (Mine.comp6' (Mine.IsLot g vs) ?hS ?turn1 ?fin1)
  case hS => exact fun _ _ => trivial
  case turn1 =>
    intro i v I oI C oC D oD m₂ h tk E' all hi hsub hv hC hx F N off ne
    obtain ⟨t, rfl⟩ := hv
    rw [Int.zero_add] at hx
    (refine Mine.led_sub (fun p hp => hsub p hp) N ?_; intro N)
    (try simp only [List.cons_append, List.nil_append] at N)
    (try dsimp only)
    (repeat' (first | ((with_reducible show wpAny _ _ (subscriptTail _ _ _ _) _ _ _); first | (k_here; (with_reducible show wpAny _ _ (subscriptTail _ (PySem.Expr.Slice _ _ (some _) _) (Value.ref _) (Value.ref _)) _ _ _); k_dflt (refine' Mine.cut3_lit ?vF ?vN ?vl ?vp ?vq ?vk ?vo ?ve ?_ ?vs ?vt ?vz; (case vF => k_asm); (case vN => k_asm); (case vl => kmk_list); (case vp => kmk_part); (case vq => kmk_part); (case vk => kmk_part); (case vo => exact Mine.nat_st h2); (case ve => exact rfl); (case vs => with_unfolding_all rfl); (case vt => kmk_pure); (case vz => exact Mine.small_list hI h7)); intro D' h' F' N' l1; (try k_lt l1); (try k_sweep))) | (k_unfold; (try dsimp only)) | (walk1 <;> (try dsimp only)) | (dsimp only; walk1) | (leave1; try dsimp only)))
    all_goals exact Mine.NewEnd.intro (by k_asm) (by k_asm) (by lcg_sub) (Mine.off_lt (by with_reducible assumption) (by lcg_sub)) ⟨_, rfl⟩
  case fin1 =>
    intro js hl hg ho
    obtain ⟨lots, rfl, hp, K⟩ := Mine.lots_of_news g vs ns js hl hg
    rw [hp]
    have ho := Mine.POff.mk ho
    (unfold LCg.FinE; intro D h tk F N o; have N2 := Mine.news_swap N; have o2 := Mine.off_swap o; clear N o; (simp only [List.cons_append, List.nil_append] at N2 o2); (try dsimp only))
    (repeat' (first | ((with_reducible show wpAny _ _ (eval _ _) _ _ _); first | (k_here; (with_reducible show wpAny _ _ (eval (PySem.Expr.ListComp _ [⟨_, _, [_], _⟩] _ _) _) _ _ _); k_dflt (refine LCt.ListComp_T (F₀ := by k_asm) (by with_unfolding_all rfl) (by decide) (by rfl) (by decide) (by rfl) ?_))) | (k_here; (with_reducible show LCt.CompSrcT _ _ _ _ _ _ _ _ _ _ _ _ _ _ _); k_dflt (refine LCt.CompSrcT.ledger (by rfl) (by k_asm) (by k_asm) (by k_mem) (Mine.its_small K h5) ?_; intro g'; (try dsimp only [List.size_toArray]))) | (k_here; with_reducible refine Mine.stopCT ?_) | (k_unfold; (try dsimp only)) | (walk1 <;> (try dsimp only)) | (dsimp only; walk1) | (leave1; try dsimp only)))
    refine' Mine.Stop.mk (Mine.comp2' (lots := lots) (its := lots.map fun q => .ref q.1) ?hk2 rfl ?hsrc ?turn ?turn0 ?fin2)
    case hk2 => exact List.length_map ..
    case hsrc => lcg_src
    case turn =>
      intro q I oI C oC D oD m₂ h tk E' all hq hne hsub hC hx F N off ne
      obtain ⟨hm, hi, hl⟩ := Mine.lots_in K hI h2 h5 h3 h7 (fun p hp => hsub p (.tail _ (.tail _ (.tail _ (.tail _ (.tail _ hp)))))) q hq
      clear hsub hq
      obtain ⟨qa, qv, qx, qk⟩ := q
      dsimp only at hm hi hl hne hx
      have hpos : 0 < qx.length := List.length_pos_iff.mpr hne
      (try dsimp only)
      (repeat' (first | ((with_reducible show wpAny _ _ (compareOp _ _ _) _ _ _); first | (k_here; (with_reducible show wpAny _ _ (compareOp CmpOp.NotEq (Value.ref _) (Value.ref _)) _ _ _); k_dflt (first | (refine' Mine.ne_full ?vN ?va hi hne ?vb ?vu ?_; (case vN => k_asm); (case va => k_mem); (case vb => k_mem); (case vu => ktr_units)) | (refine' Mine.ne_no ?vN ?va ?vb ?vu ?_; (case vN => k_asm); (case va => k_mem); (case vb => k_mem); (case vu => ktr_units))))) | ((with_reducible show wpAny _ _ (eval _ _) _ _ _); first | (k_here; (with_reducible show wpAny _ _ (eval (PySem.Expr.ListComp _ [⟨_, _, [], _⟩] _ _) _) _ _ _); k_dflt (refine LCg.ListComp_U (F₀ := by k_asm) (by with_unfolding_all rfl) (by decide) (by rfl) (by decide) (by rfl) ?_))) | (k_here; (with_reducible show LCg.CompSrc _ _ _ _ _ _ _ _ _ _ _ _ _ _); k_dflt (refine LCg.CompSrc.ledger (by rfl) (by k_asm) (by k_asm) (by k_mem) (Mine.small9 hi hl) ?_; intro g'; (try dsimp only [List.size_toArray]))) | (k_here; with_reducible refine Mine.stopCR ?_) | (k_unfold; (try dsimp only)) | (walk1 <;> (try dsimp only)) | (dsimp only; walk1) | (leave1; try dsimp only)))
      refine' Mine.Stop.mk (Mine.comp6' (Mine.IsRow qx) ?hSr ?turnr ?finr)
      case hSr => exact Mine.src_up (by lcg_src)
      case turnr =>
        intro i v I1 oI1 C1 oC1 D1 oD1 m3 h1 tk1 E1 all1 hi1 hsub1 hv hC1 hx1 F1 N1 off1 ne1
        obtain ⟨x, t', e1, e2⟩ := Mine.one_get hi (i := i) (by rw [← hi.length]; exact hi1)
        obtain rfl : v = .int x t' := Mine.its_get hv e1
        clear hsub1
        (try dsimp only)
        (repeat' (first  | (k_unfold; (try dsimp only)) | (walk1 <;> (try dsimp only)) | (dsimp only; walk1) | (leave1; try dsimp only)))
        all_goals exact Mine.NewEnd.intro (by k_asm) (by k_asm) (by lcg_sub) (Mine.off_lt (by with_reducible assumption) (by lcg_sub)) ⟨_, _, _, rfl, e2⟩
      case finr =>
        intro js hl1 hg ho1
        obtain ⟨rs, rfl, hk⟩ := Mine.rows_of_news js qx (by rw [hl1]; exact hi.length) hg
        have R8 := Mine.Rws.mk hk
        clear hk ho1 hg hl1
        rw [Mine.prefs_rows]
        unfold LCg.FinE
        intro Dz hz tkz Fz Nz oz
        clear oz
        refine Mine.rows_fold Nz ?_
        clear Nz
        intro all2 hsub2 hrs2 N2
        (try dsimp only)
        (repeat' (first | ((with_reducible show wpAny _ _ (call _ _) _ _ _); first | (k_here; (with_reducible show wpAny _ _ (call (Value.ref 256) _) _ _ _); k_dflt (refine' ra _ _ _ _ _ _ _ _ _ _ _ _ _ _ _ _ _ _ _ _ _ _ _ _ _ _ _ _ _ _ _ ?k1 ?k2 ?k3 ?k4 ?k5 ?kK ?kd ?ku ?q0 ?q1 ?q2 ?q3 ?q4 ?_; (case k1 => k_asm); (case k2 => k_asm); (case k3 => k_asm); (case k4 => k_asm); (case k5 => k_asm); (case kK => first | exact rfl | assumption); (case kd => ktr_room); (case ku => first | ktr_units | ((have hcL9 := cLine_is); (simp only [Mine.units_make, units_in1, units_deeper, Around.mark_units, units_caller]); (try dsimp only [ktrTop]); omega)); (case q0 => with_reducible assumption); (case q1 => k_mem); (case q2 => exact Mine.rows_tail (by assumption) (by lcg_sub)); (case q3 => with_reducible assumption); (case q4 => assumption)); (rename News _ _ _ _ => lN'); intro A9 d9 P9 T9 U9 I9 n9 m9 o9 p9 told9 a0 a1 a2 a3 a4 a5 c0 c1 c2 c3 b1 b2 b3 b4 h9 tk9 F9 N9 G9; (have N8 := Mine.news_add N9 lN' G9); clear N9 lN' G9; (simp only [List.nil_append, List.cons_append] at N8); (try dsimp only); (try k_fold)) | (k_here; (with_reducible show wpAny _ _ (call (Value.ref 287) _) _ _ _); k_dflt (refine' sa _ _ _ _ _ _ _ _ _ _ _ _ _ _ _ _ _ _ _ _ _ _ _ _ _ _ _ _ _ _ _ _ _ _ _ _ _ _ _ _ _ _ _ _ _ _ _ _ _ _ _ _ _ ?k1 ?k2 ?k3 ?k4 ?k5 ?kK ?kd ?ku ?q1 ?q2 ?q3 ?_; (case k1 => k_asm); (case k2 => k_asm); (case k3 => k_asm); (case k4 => (rename News _ _ _ _ => lM'); exact cb_drop lM' (by lcg_sub)); (case k5 => k_asm); (case kK => first | exact rfl | assumption); (case kd => ktr_room); (case ku => first | ktr_units | ((have hcL9 := cLine_is); (simp only [Mine.units_make, units_in1, units_deeper, Around.mark_units, units_caller]); (try dsimp only [ktrTop]); omega)); (case q1 => exact Mine.rws_vals (by with_reducible assumption)); (case q2 => with_reducible assumption); (case q3 => assumption)); (rename News _ _ _ _ => lN'); intro B9 d9 J9 a0 a1 a2 a3 a4 a5 c0 c1 c2 c3 v9 n9 h9 tk9 F9 N9 I9 G9 e1 e2 e3 o9; (have O9 := Mine.off_of lN' e3); (have N8 := Mine.sa_news 8 N9 lN' G9); clear N9 lN' G9 e1 e2 e3 o9; (simp only [List.drop_succ_cons, List.drop_zero] at N8); (try dsimp only); (try k_fold))) | (k_unfold; (try dsimp only)) | (walk1 <;> (try dsimp only)) | (dsimp only; walk1) | (leave1; try dsimp only)))
        all_goals exact Mine.EltEnd.intro2 (by k_asm) (by k_asm) hsub2 (by with_reducible assumption) (by lcg_sub) (by with_reducible assumption)
    case turn0 =>
      intro q I oI C oC D oD m₂ h tk E' all hq hne hsub hC hx F N off ne
      obtain ⟨hm, hi, hl⟩ := Mine.lots_in K hI h2 h5 h3 h7 (fun p hp => hsub p (.tail _ (.tail _ (.tail _ (.tail _ (.tail _ hp)))))) q hq
      clear hsub hq
      obtain ⟨qa, qv, qx, qk⟩ := q
      dsimp only at hm hi hl hne hx
      subst hne
      cases hi
      (try dsimp only)
      (repeat' (first | ((with_reducible show wpAny _ _ (compareOp _ _ _) _ _ _); first | (k_here; (with_reducible show wpAny _ _ (compareOp CmpOp.NotEq (Value.ref _) (Value.ref _)) _ _ _); k_dflt (first | (refine' Mine.ne_full ?vN ?va hi hne ?vb ?vu ?_; (case vN => k_asm); (case va => k_mem); (case vb => k_mem); (case vu => ktr_units)) | (refine' Mine.ne_no ?vN ?va ?vb ?vu ?_; (case vN => k_asm); (case va => k_mem); (case vb => k_mem); (case vu => ktr_units))))) | (k_unfold; (try dsimp only)) | (walk1 <;> (try dsimp only)) | (dsimp only; walk1) | (leave1; try dsimp only)))
      all_goals (rename News _ _ _ _ => lN'; exact ⟨_, _, rfl, by k_asm, fun p hp => lN' p (.tail _ hp)⟩)
    case fin2 =>
      intro js hj ho2
      have ho2 := Mine.JOff.mk ho2
      (unfold LCg.FinE; intro D h tk F N o; have N2 := Mine.drop_lots N; have o2 := Mine.off_lots o; clear N o; (try dsimp only))
      (repeat' (first | ((with_reducible show wpAny _ _ (call _ _) _ _ _); first | (k_here; (with_reducible show wpAny _ _ (call (Value.builtin "len") [Value.ref _]) _ _ _); k_dflt (refine' Mine.len_led ?vN ?vm ?ve ?vz ?_; (case vN => k_asm); (case vm => k_mem); (case ve => exact congrArg (fun k : Nat => (k : Int)) (IntsAre.length (by with_reducible assumption))); (case vz => omega)); (try dsimp only))) | ((with_reducible show wpAny _ _ (eval _ _) _ _ _); first | (k_here; (with_reducible show wpAny _ _ (eval (PySem.Expr.ListComp _ [⟨_, _, [], _⟩] _ _) _) _ _ _); k_dflt (refine LCg.ListComp_U (F₀ := by k_asm) (by with_unfolding_all rfl) (by decide) (by rfl) (by decide) (by rfl) ?_))) | (k_here; (with_reducible show LCg.CompSrc _ _ _ _ _ _ _ _ _ _ _ _ _ _); k_dflt (refine LCg.CompSrc.range (by rfl) (by k_asm) (by k_asm) (by with_reducible assumption) (Mine.range_n (by omega)).1 (Mine.range_n (by omega)).2 (Nat.le_trans (show _ ≤ 100 by omega) (by decide)) ?_; intro g')) | (k_here; with_reducible refine Mine.stopCR ?_) | (k_here; (with_reducible show LCg.FinE _ _ _ _ _ _ _); (unfold LCg.FinE); intro D' h' tk' F' N' o1'; (try simp only [List.nil_append, List.cons_append] at N'); (try dsimp only)) | (k_unfold; (try dsimp only)) | (walk1 <;> (try dsimp only)) | (dsimp only; walk1) | (leave1; try dsimp only)))
      refine' Mine.Stop.mk (Mine.comp3' (f := Mine.cell3 js g) ?turn3 ?fin3)
      case turn3 =>
        intro i I oI C oC D oD m₂ h tk t E' hi hC hx F N off ne
        obtain ⟨j, y, t', e1, e2, e3⟩ := Mine.selj K h2 h5 h3 h7 hj hi
        have hjm := Mine.jled_mem e1
        have hb1 : i % g < 2 ^ 62 := Mine.mod_sm hi h7
        have hb2 : i / g < 2 ^ 62 := Mine.div_sm hi h7
        rw [Mine.cell3_eq e1 e2]
        (try dsimp only)
        (repeat' (first | ((with_reducible show wpAny _ _ (binaryOp _ _ _) _ _ _); first | (k_here; (with_reducible show wpAny _ _ (binaryOp Operator.Mod (Value.int _ _) (Value.int _ _)) _ _ _); refine Mine.mod_lit (Mine.nat_ne h2) Mine.fmod_n ?_; (try dsimp only)) | (k_here; (with_reducible show wpAny _ _ (binaryOp Operator.FloorDiv (Value.int _ _) (Value.int _ _)) _ _ _); refine Mine.div_lit (Mine.nat_ne h2) Mine.fdiv_n (Mine.nat_sm h5) ?_; (try dsimp only))) | ((with_reducible show wpAny _ _ (subscriptTail _ _ _ _) _ _ _); first | (k_here; (with_reducible show wpAny _ _ (subscriptTail _ _ (Value.ref _) (Value.int _ _)) _ _ _); k_dflt (refine' Mine.item_nat (by k_asm) ?vm ?vx ?vk ?vh ?_ ?vs; (case vm => k_mem); (case vx => exact Mine.jrefs_get e1); (case vk => rfl); (case vh => assumption); (case vs => with_unfolding_all rfl)); (try dsimp only)) | (k_here; (with_reducible show wpAny _ _ (subscriptTail _ _ (Value.ref _) (Value.int _ _)) _ _ _); k_dflt (refine' Mine.item_nat (by k_asm) ?vm ?vx ?vk ?vh ?_ ?vs; (case vm => k_mem); (case vx => with_reducible assumption); (case vk => rfl); (case vh => assumption); (case vs => with_unfolding_all rfl)); (try dsimp only))) | (k_unfold; (try dsimp only)) | (walk1 <;> (try dsimp only)) | (dsimp only; walk1) | (leave1; try dsimp only)))
        all_goals exact ⟨rfl, _, _, rfl, by k_asm, by k_asm⟩
      case fin3 =>
        have hfin := Mine.ints_final K h2 h5 h3 h7 hj
        unfold LCg.FinE
        intro D h tk F N o
        (try dsimp only)
        (repeat' (first  | (k_unfold; (try dsimp only)) | (walk1 <;> (try dsimp only)) | (dsimp only; walk1) | (leave1; try dsimp only)))
        all_goals (k_dflt (
          refine' hret _ _ _ _ _ hfin ?eF ?eN ?eG ?eB
          (case eF => k_asm)
          (case eN => refine' cb_drop ?cbN ?cbS; (case cbN => assumption); (case cbS => lcg_sub))
          (case eG => refine' Mine.KeepFrom.grown ?g1 ?g2 ?g3 ?g4 ?g5; (case g1 => assumption); (case g2 => exact fun p hp => (hN p hp).1); (case g3 => assumption); (case g4 => assumption); (case g5 => lcg_sub))
          (case eB => refine' Mine.KeepFrom.fresh ?f1 ?f2 ?f3 ?f4; (case f1 => assumption); (case f2 => assumption); (case f3 => k_mem); (case f4 => exact List.forall_mem_cons.mpr ⟨Mine.off1_ne o (by k_mem), List.forall_mem_nil _⟩))))
theorem st : ∀ (w : World) (mean : ExcName → Option Value) (mg mb : Str → Option Value) (dp un : Nat) (gd : Option (List Code)) (cn : Str) (cs : Scope) (a : Addr) (ccd : Value) (cl : List (Str × Addr)) (outer : List Env) (A₀ : Around) (base h₀ : Heap) (L : Addr) (m : Str → Option Value) (hs : Heap) (gn : Array GenState) (dr : Drawn) (tk0 : Nat) (oz : OsState) (Q E : Value → Shared → Prop)
  (R : Addr) (n g : Nat) (gi : Int) (vs : List Value) (ns : List Int) (t : Tok),
  Below A₀ base outer h₀ → Fr h₀ L hs m → (hd.heap_39 w.params).In h₀ → News h₀ L hs [(R, listOf vs.toArray n)] →
  Top Mine.vw (looseW Mine.vw [Str.ofString "SnobolError"]) mean mg mb h₀ → cs.kind = .function → dp + 24 < recursionLimit → un + 192 < cLine → gi = (g : Int) → IntsAre vs ns → ns.length ≤ 7 → g ≤ 7 → Mine.stand g ns = true →
  (∀ (h' : Heap) (tk' : Nat), Fr h₀ L h' m → (∀ b o, hs.get? b = some o → h'.get? b = some o) → Q (.bool true) ⟨h', gn, dr, tk', oz⟩) →
  wpAny (model PySem.Challenge.rw_xw0303_01.row.prog w) (ktrTop dp un gd cn cs L a ccd cl outer) (call (.ref 297) [.ref R, .int gi t]) Q E ⟨hs, gn, dr, tk0, oz⟩ := by
  k_fill
  w_top off
  intro w mean mg mb dp un gd cn cs a ccd cl outer A₀ base h₀ L m hs gn dr tk0 oz Q E R n g gi vs ns t hB hF hX hN hT hK hd hu hg hI h7 hg7 hst hret
  subst hg
  refine wpAny_call ?_
  (k_dflt (refine' Mine.code_defCF ?k1 ?k2 ?k3 ?k4 ?k5 ?kA ?kF ?kK ?k6 ?k7 ?k8 ?k9 ?kB ?kD ?_ ?c2 ?c3 ?c4; (case kA => exact rfl); (case kF => exact rfl); (case kK => assumption); (case k1 => k_asm); (case k2 => k_asm); (case k3 => k_asm); (case k4 => k_asm); (case k5 => k_asm); (case k6 => k_is); (case k7 => k_is); (case k8 => ktr_room); (case k9 => first | exact BindsTo.of_eq rfl | exact binds_K (by k_in) rfl (by k_is) rfl rfl rfl | fail "k_enter: no rule for these arguments"); (case kB => exact rfl); (case kD => decide +kernel); (case c2 => exact rfl); (case c3 => exact rfl); (case c4 => exact rfl); k_whole; intro g' L' h' tk' cells' FG' F' N' Y' B' X' T' l1 KG'; (try k_lt l1); k_cells Y'; (try simp only [List.cons_append, List.nil_append] at N'); (try dsimp only); (try k_lift B'); (try k_fold)))
  (repeat' (first | ((with_reducible show wpAny _ _ (call _ _) _ _ _); first | (k_here; (with_reducible show wpAny _ _ (call (Value.builtin "len") [Value.ref _]) _ _ _); k_dflt (refine' Mine.len_led ?vN ?vm ?ve ?vz ?_; (case vN => k_asm); (case vm => k_mem); (case ve => exact congrArg (fun k : Nat => (k : Int)) (IntsAre.length (by with_reducible assumption))); (case vz => omega)); (try dsimp only))) | ((with_reducible show wpAny _ _ (eval _ _) _ _ _); first | (k_here; (with_reducible show wpAny _ _ (eval (PySem.Expr.ListComp _ [⟨_, _, [], _⟩] _ _) _) _ _ _); k_dflt (refine LCg.ListComp_U (F₀ := by k_asm) (by with_unfolding_all rfl) (by decide) (by rfl) (by decide) (by rfl) ?_))) | (k_here; (with_reducible show LCg.CompSrc _ _ _ _ _ _ _ _ _ _ _ _ _ _); k_dflt (refine LCg.CompSrc.range (by rfl) (by k_asm) (by k_asm) (by with_reducible assumption) (Mine.range_sub (by omega) (by omega)).1 (Mine.range_sub (by omega) (by omega)).2 (Nat.le_trans (show _ ≤ 100 by omega) (by decide)) ?_; intro g')) | (k_here; with_reducible refine Mine.stopCR ?_) | (k_here; (with_reducible show LCg.FinE _ _ _ _ _ _ _); (unfold LCg.FinE); intro D' h' tk' F' N' o1'; (try simp only [List.nil_append, List.cons_append] at N'); (try dsimp only)) | (k_unfold; (try dsimp only)) | (walk1 <;> (try dsimp only)) | (dsimp only; walk1) | (leave1; try dsimp only)))
  refine' Mine.Stop.mk (Mine.comp3' (n := ns.length - g) (f := fun i => .bool (Mine.le2 g ns i)) ?turn3 ?fin3)
  case turn3 =>
      intro i I oI C oC D oD m₂ h tk t E' hi hC hx F N off ne
      obtain ⟨a, b, t', u', e1, e2, e3, e4⟩ := Mine.two_get hI hi
      rw [Mine.le2_eq e3 e4]
      (try dsimp only)
      (repeat' (first | ((with_reducible show wpAny _ _ (subscriptTail _ _ _ _) _ _ _); first | (k_here; (with_reducible show wpAny _ _ (subscriptTail _ _ (Value.ref _) (Value.int _ _)) _ _ _); k_dflt (first | (refine' Mine.item_nat (by k_asm) ?vm e1 ?vk ?vh ?_ ?vs; (case vm => k_mem); (case vk => exact rfl); (case vh => omega); (case vs => with_unfolding_all rfl)) | (refine' Mine.item_nat (by k_asm) ?vm e2 ?vk ?vh ?_ ?vs; (case vm => k_mem); (case vk => exact (Int.natCast_add _ _).symm); (case vh => omega); (case vs => with_unfolding_all rfl))); (try dsimp only))) | (k_unfold; (try dsimp only)) | (walk1 <;> (try dsimp only)) | (dsimp only; walk1) | (leave1; try dsimp only)))
      all_goals exact ⟨by first | rfl | (simp only [List.getD_eq_getElem?_getD, Int.toNat_natCast, e3, Option.getD_some]), _, _, rfl, by k_asm, by k_asm⟩
  case fin3 =>
      unfold LCg.FinE
      intro D h tk F N o
      (try dsimp only)
      (repeat' (first | ((with_reducible show wpAny _ _ (call _ _) _ _ _); first | (k_here; (with_reducible show wpAny _ _ (call (Value.builtin "all") [Value.ref _]) _ _ _); k_dflt (refine' LSm.all_bools ?vF ?vN rfl ?vl (Mine.bools_range _) ?_; (case vF => k_asm); (case vN => k_asm); (case vl => exact News.isList (by k_asm) (by k_mem))); intro h' tk' F' N'; (try dsimp only))) | (k_unfold; (try dsimp only)) | (walk1 <;> (try dsimp only)) | (dsimp only; walk1) | (leave1; try dsimp only)))
      all_goals rw [Mine.stand_eq, hst]
      all_goals (k_dflt (
        refine' hret _ _ ?eF ?eG
        (case eF => k_asm)
        (case eG => refine' Mine.KeepFrom.grown ?g1 ?g2 ?g3 ?g4 ?g5; (case g1 => assumption); (case g2 => exact fun p hp => (hN p hp).1); (case g3 => assumption); (case g4 => assumption); (case g5 => lcg_sub))))
end Mine
end
section
open PySem PySem.W PyProof.Rows PySem.Calls PySem.Spec
namespace Mine
local macro_rules | `(tactic| k_ne) => `(tactic| (refine neN ?_; (try dsimp only); first | (refine' Mine.off_ne ?kx ?km; (case kx => with_reducible assumption); (case km => k_mem)) | (refine' Mine.off_ne' ?kx ?km; (case kx => with_reducible assumption); (case km => k_mem)) | omega | (refine' Mine.Lt.ne ?kx ?km; (case kx => with_reducible assumption); (case km => k_mem)) | (refine' Mine.Lt.ne' ?kx ?km; (case kx => with_reducible assumption); (case km => k_mem)) | (refine' Mine.off1_ne ?kx ?km; (case kx => with_reducible assumption); (case km => k_mem)) | (refine' Mine.off1_ne' ?kx ?km; (case kx => with_reducible assumption); (case km => k_mem)) | (refine' Mine.off3_I ?kx ?km; (case kx => with_reducible assumption); (case km => k_mem)) | (refine' Mine.off3_C ?kx ?km; (case kx => with_reducible assumption); (case km => k_mem)) | (refine' Mine.off3_D ?kx ?km; (case kx => with_reducible assumption); (case km => k_mem))))
theorem law0 : PySem.Challenge.rw_xw0303_01.Holds := hd (by
  w_top off
  k_go0
  all_goals try k_fold
  (repeat' (first | ((with_reducible show wpAny _ _ (subscriptTail _ _ _ _) _ _ _); first | (k_here; (with_reducible show wpAny _ _ (subscriptTail _ (PySem.Expr.Slice (some _) none none _) (Value.ref _) (Value.ref _)) _ _ _); k_dflt (refine' kmk_slice_ints ?vF ?vN ?vl ?vp ?vq ?vi ?vm ?vc ?_ ?vs ?vt ?vz; (case vF => k_asm); (case vN => k_asm); (case vl => kmk_list); (case vp => kmk_part); (case vq => kmk_part); (case vi => exact .cons _ _ (.cons _ _ (.cons _ _ .nil))); (case vm => exact kmk_from (.cons _ _ (.cons _ _ (.cons _ _ .nil))) (Int.natCast_nonneg _)); (case vc => exact List.length_drop ..); (case vs => with_unfolding_all rfl); (case vt => kmk_pure); (case vz => exact Nat.le_of_ble_eq_true rfl)); intro D' ws' h' F' N' l1 hI' hC' hL'; (try simp only [Int.toNat_natCast] at hI' hC' hL'); (try k_lt l1); (try k_sweep)) | (k_here; (with_reducible show wpAny _ _ (subscriptTail _ _ (Value.ref _) (Value.int _ _)) _ _ _); k_dflt (refine' Mine.item_lit (by k_asm) ?m ?h0 ?hh ?hx ?_ ?hs; (case m => k_mem); (case h0 => decide); (case hh => decide); (case hx => exact rfl); (case hs => with_unfolding_all rfl)); (try dsimp only))) | ((with_reducible show wpAny _ _ (exec _ _) _ _ _); first | (k_here; (with_reducible show wpAny _ _ (exec (PySem.Stmt.Assign [_] (PySem.Expr.ListComp _ _ _ _) _) _) _ _ _); refine Mine.stopW ?_)) | (k_unfold; (try dsimp only)) | (walk1 <;> skip) | (dsimp only; walk1) | (leave1; try dsimp only)))
  refine Mine.Stop.mk ?_
  (rename IntsAre _ (_ ++ _) => hcs)
  obtain ⟨c0, c1, c2, t0, t1, t2, ews⟩ := Mine.three rfl hcs
  clear hcs
  subst ews
  obtain ⟨n, hn, hn3, hn7⟩ := Mine.n_of c0
  k_dflt (refine LCg.Assign_ListComp_U (F₀ := by k_asm) (by rfl) (by with_unfolding_all rfl) (by with_unfolding_all rfl) (by decide) (by rfl) (by decide) (by rfl) (by rfl) (by rfl) ?_)
  (repeat' (first | ((with_reducible show wpAny _ _ (binaryOp _ _ _) _ _ _); first | (k_here; (with_reducible show wpAny _ _ (binaryOp Operator.Add (Value.int _ _) (Value.int _ _)) _ _ _); refine Mine.add_lit (by with_reducible assumption) ?_; (try dsimp only))) | ((with_reducible show wpAny _ _ (subscriptTail _ _ _ _) _ _ _); first | (k_here; (with_reducible show wpAny _ _ (subscriptTail _ _ (Value.ref _) (Value.int _ _)) _ _ _); k_dflt (refine' Mine.item_lit (by k_asm) ?m ?h0 ?hh ?hx ?_ ?hs; (case m => k_mem); (case h0 => decide); (case hh => decide); (case hx => exact rfl); (case hs => with_unfolding_all rfl)); (try dsimp only))) | (k_here; (with_reducible show LCg.CompSrc _ _ _ _ _ _ _ _ _ _ _ _ _ _); k_dflt (refine LCg.CompSrc.range (by rfl) (by k_asm) (by k_asm) (by with_reducible assumption) (Mine.range_n (by omega)).1 (Mine.range_n (by omega)).2 (Nat.le_trans (show _ ≤ 100 by omega) (by decide)) ?_; intro g')) | (k_here; with_reducible refine Mine.stopCR ?_) | (k_unfold; (try dsimp only)) | (walk1 <;> (try dsimp only)) | (dsimp only; walk1) | (leave1; try dsimp only)))
  refine' Mine.Stop.mk (Mine.comp4' (n := n) ?turn4 ?fin4)
  case turn4 =>
    intro i I oI C oC D oD m₂ h tk t E' hi hC hx F N off ne
    (try dsimp only)
    (repeat' (first | ((with_reducible show wpAny _ _ (binaryOp _ _ _) _ _ _); first | (k_here; with_reducible refine Mine.pow10 (by omega) ?_; (try dsimp only)) | (k_here; with_reducible refine Mine.div10 (by omega) ?_; (try dsimp only))) | ((with_reducible show wpAny _ _ (subscriptTail _ _ _ _) _ _ _); first | (k_here; (with_reducible show wpAny _ _ (subscriptTail _ _ (Value.ref _) (Value.int _ _)) _ _ _); k_dflt (refine' Mine.item_lit (by k_asm) ?m ?h0 ?hh ?hx ?_ ?hs; (case m => k_mem); (case h0 => decide); (case hh => decide); (case hx => exact rfl); (case hs => with_unfolding_all rfl)); (try dsimp only))) | (k_unfold; (try dsimp only)) | (walk1 <;> (try dsimp only)) | (dsimp only; walk1) | (leave1; try dsimp only)))
    all_goals exact ⟨⟨_, _, rfl⟩, _, _, rfl, by k_asm, by k_asm⟩
  case fin4 =>
    intro ys ns hys hl
    unfold LCg.FinA
    intro D hz tk F N o
    obtain ⟨ix, e4, hidx⟩ := Mine.m4n c2
    (try dsimp only)
    (repeat' (first | ((with_reducible show wpAny _ _ (binaryOp _ _ _) _ _ _); first | (k_here; (with_reducible show wpAny _ _ (binaryOp Operator.Mod (Value.int _ _) (Value.int _ _)) _ _ _); refine Mine.mod_lit (by decide) (by with_reducible assumption) ?_; (try dsimp only))) | ((with_reducible show wpAny _ _ (subscriptTail _ _ _ _) _ _ _); first | (k_here; (with_reducible show wpAny _ _ (subscriptTail _ _ (Value.ref _) (Value.int _ _)) _ _ _); k_dflt (refine' Mine.item_menu ?vN ?vm ?m1 ?m2 ?m3 ?m4 ?vi ?_ ?vs; (case vN => k_asm); (case vm => k_mem); (case m1 => k_mem); (case m2 => k_mem); (case m3 => k_mem); (case m4 => k_mem); (case vi => exact hidx); (case vs => with_unfolding_all rfl)); refine Mine.stopM ?_) | (k_here; (with_reducible show wpAny _ _ (subscriptTail _ _ (Value.ref _) (Value.int _ _)) _ _ _); k_dflt (refine' Mine.item_lit (by k_asm) ?m ?h0 ?hh ?hx ?_ ?hs; (case m => k_mem); (case h0 => decide); (case hh => decide); (case hx => exact rfl); (case hs => with_unfolding_all rfl)); (try dsimp only))) | (k_unfold; (try dsimp only)) | (walk1 <;> (try dsimp only)) | (dsimp only; walk1) | (leave1; try dsimp only)))
    refine Mine.Stop.mk ?_
    intro T gh gk t9 u9 n9 hT M
    obtain ⟨d, hd1, hd6, h2, h5, k2, k5, f1, f2, f3, f4, f5, f6, q1, q2⟩ := Mine.menu_all M (ns := ns) (by omega) (by omega)
    (try dsimp only)
    (repeat' (first | ((with_reducible show wpAny _ _ (binaryOp _ _ _) _ _ _); first | (k_here; (with_reducible show wpAny _ _ (binaryOp Operator.Sub (Value.int _ _) (Value.int _ _)) _ _ _); refine Mine.sub_lit rfl ?_; (try dsimp only)) | (k_here; (with_reducible show wpAny _ _ (binaryOp Operator.Mult (Value.int _ _) (Value.int _ _)) _ _ _); refine Mine.mul_lit hd1 (Mine.menu_fit M) ?_; (try dsimp only))) | ((with_reducible show wpAny _ _ (compareOp _ _ _) _ _ _); first | (k_here; (with_reducible show wpAny _ _ (compareOp CmpOp.NotEq (Value.ref _) (Value.ref _)) _ _ _); k_dflt (refine' Mine.ne_same ?vN ?va ?vi ?vb ?vj ?ve ?vu ?_; (case vN => k_asm); (case va => k_mem); (case vi => with_reducible assumption); (case vb => k_mem); (case vj => with_reducible assumption); (case ve => exact Mine.sorted_eq (by with_reducible assumption) (by with_reducible assumption) (by with_reducible assumption) (by with_reducible assumption) (Mine.PermF.out (by with_reducible assumption))); (case vu => ktr_units)))) | ((with_reducible show wpAny _ _ (call _ _) _ _ _); first | (k_here; (with_reducible show wpAny _ _ (call (Value.ref 292) _) _ _ _); k_dflt (refine' ls _ _ _ _ _ _ _ _ _ _ _ _ _ _ _ _ _ _ _ _ _ _ _ _ _ _ _ _ _ _ _ ?k1 ?k2 ?k3 ?k4 ?k5 ?kK ?kd ?ku ?q1 ?q2 ?q3 ?q4 ?q5 ?_; (case k1 => k_asm); (case k2 => k_asm); (case k3 => k_asm); (case k4 => (rename News _ _ _ _ => lM'); exact cb_drop lM' (by lcg_sub)); (case k5 => k_asm); (case kK => first | exact rfl | assumption); (case kd => ktr_room); (case ku => first | ktr_units | ((have hcL9 := cLine_is); (simp only [Mine.units_make, units_in1, units_deeper, Around.mark_units, units_caller]); (try dsimp only [ktrTop]); omega)); (case q1 => with_reducible assumption); (case q2 => omega); (case q3 => omega); (case q4 => assumption); (case q5 => assumption)); (rename News _ _ _ _ => lN'); intro Z9 ys9 nz9 h9 tk9 I9 F9 N9 G9 e9; (have O9 := Mine.off_of lN' e9); (have N8 := Mine.news_add N9 lN' G9); clear N9 lN' G9 e9; (simp only [List.nil_append, List.cons_append] at N8); (try dsimp only); (try k_fold)) | (k_here; (with_reducible show wpAny _ _ (call (Value.ref 297) _) _ _ _); k_dflt (refine' st _ _ _ _ _ _ _ _ _ _ _ _ _ _ _ _ _ _ _ _ _ _ _ _ _ _ _ _ _ _ _ _ ?k1 ?k2 ?k3 ?k4 ?k5 ?kK ?kd ?ku ?qg ?q1 ?q2 ?q3 ?q4 ?_; (case k1 => k_asm); (case k2 => k_asm); (case k3 => k_asm); (case k4 => (rename News _ _ _ _ => lM'); exact cb_drop lM' (by lcg_sub)); (case k5 => k_asm); (case kK => first | exact rfl | assumption); (case kd => ktr_room); (case ku => first | ktr_units | ((have hcL9 := cLine_is); (simp only [Mine.units_make, units_in1, units_deeper, Around.mark_units, units_caller]); (try dsimp only [ktrTop]); omega)); (case qg => first | with_reducible exact rfl | exact (Int.natCast_add _ _).symm | exact rfl); (case q1 => with_reducible assumption); (case q2 => omega); (case q3 => omega); (case q4 => first | exact Mine.Std.out (by with_reducible assumption) | exact Mine.Far.out (by with_reducible assumption) _ (by omega))); (rename News _ _ _ _ => lN'); intro h9 tk9 F9 G9; (have N8 := Mine.news_up lN' G9); clear lN' G9; (try dsimp only); (try k_fold))) | (k_here; (with_reducible show wpAny _ _ (assign (PySem.Expr.Tuple _ _ _) _ (Value.ref _)) _ _ _); k_dflt (refine' Mine.unpack_menu ?vF ?vN hT ?k1 ?k2 ?k3 ?_; (case vF => k_asm); (case vN => k_asm); (case k1 => with_unfolding_all rfl); (case k2 => with_unfolding_all rfl); (case k3 => with_unfolding_all rfl)); intro h' F' N'; (try dsimp only)) | (k_here; (with_reducible show LCg.CompSrc _ _ _ _ _ _ _ _ _ _ _ _ _ _); k_dflt (refine LCg.CompSrc.range (by rfl) (by k_asm) (by k_asm) (by with_reducible assumption) (Mine.range_from (a := d) (by omega) (by omega)).1 (Mine.range_from (a := d) (by omega) (by omega)).2 (Nat.le_trans (show _ ≤ 100 by omega) (by decide)) ?_; intro g')) | (k_here; with_reducible refine Mine.stopCR ?_) | (k_unfold; (try dsimp only)) | (walk1 <;> (try dsimp only)) | (dsimp only; walk1) | (leave1; try dsimp only)))
    refine' Mine.Stop.mk (Mine.comp5' (f := fun _ => .bool true) ?turn5 ?fin5)
    case turn5 =>
      intro i I oI C oC D oD m₂ h tk t E' hi hC hx F N off ne
      (try dsimp only)
      (repeat' (first | ((with_reducible show wpAny _ _ (call _ _) _ _ _); first | (k_here; (with_reducible show wpAny _ _ (call (Value.ref 297) _) _ _ _); k_dflt (refine' st _ _ _ _ _ _ _ _ _ _ _ _ _ _ _ _ _ _ _ _ _ _ _ _ _ _ _ _ _ _ _ _ ?k1 ?k2 ?k3 ?k4 ?k5 ?kK ?kd ?ku ?qg ?q1 ?q2 ?q3 ?q4 ?_; (case k1 => k_asm); (case k2 => k_asm); (case k3 => k_asm); (case k4 => (rename News _ _ _ _ => lM'); exact cb_drop lM' (by lcg_sub)); (case k5 => k_asm); (case kK => first | exact rfl | assumption); (case kd => ktr_room); (case ku => first | ktr_units | ((have hcL9 := cLine_is); (simp only [Mine.units_make, units_in1, units_deeper, Around.mark_units, units_caller]); (try dsimp only [ktrTop]); omega)); (case qg => first | with_reducible exact rfl | exact (Int.natCast_add _ _).symm | exact rfl); (case q1 => with_reducible assumption); (case q2 => omega); (case q3 => omega); (case q4 => first | exact Mine.Std.out (by with_reducible assumption) | exact Mine.Far.out (by with_reducible assumption) _ (by omega))); (rename News _ _ _ _ => lN'); intro h9 tk9 F9 G9; (have N8 := Mine.news_up lN' G9); clear lN' G9; (try dsimp only); (try k_fold))) | (k_unfold; (try dsimp only)) | (walk1 <;> (try dsimp only)) | (dsimp only; walk1) | (leave1; try dsimp only)))
      all_goals exact ⟨rfl, _, _, rfl, by k_asm, by k_asm⟩
    case fin5 =>
      unfold LCg.FinE
      intro D h tk F N o
      (try dsimp only)
      (repeat' (first | ((with_reducible show wpAny _ _ (call _ _) _ _ _); first | (k_here; (with_reducible show wpAny _ _ (call (Value.builtin "all") [Value.ref _]) _ _ _); k_dflt (refine' LSm.all_bools ?vF ?vN rfl ?vl (Mine.bools_range (b := fun _ => true) _) ?_; (case vF => k_asm); (case vN => k_asm); (case vl => exact News.isList (by k_asm) (by k_mem))); intro h' tk' F' N'; (rw [Mine.all_true]); (try dsimp only))) | (k_unfold; (try dsimp only)) | (walk1 <;> (try dsimp only)) | (dsimp only; walk1) | (leave1; try dsimp only)))
      all_goals (k_end; wrow_close)
)
end Mine
end
theorem PySem.Challenge.cw_xw0303_01_holds : PySem.Challenge.rw_xw0303_01.Holds :=
  Mine.law0
